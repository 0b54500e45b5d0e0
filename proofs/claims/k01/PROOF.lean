import PyProof.Rows.All
import Wide.All
import OpenK.AllK
import Wide.FinOn
import HandS.ForMost
import HandS.IsInst
import HandS.Conv
import KE.DataEq
import KE.SortData
import HandS.TupAny
import HandS.SetFor
import HandS.Strs
import HandS.Codes
import HandS.EndBits
import PySem.Challenge.RW_deedsagain_k01_worlds_and_conditions
set_option Elab.async false
set_option linter.all false
set_option maxRecDepth 100000
/-! deedsagain: values as data (PyData) over HandS's abstract heap. -/
namespace Dg
open PySem PySem.Spec L2

abbrev D := PyData
/-- what an expression gives: data, a new list, a new dict -/
inductive RV where
  | d (x : D) | l (xs : List D) | m (kvs : List (D × D))
/-- what a slot holds -/
inductive Sl where
  | un | d (x : D) | l (xs : List D) | m (kvs : List (D × D)) | pool | s (ns : List Int)
abbrev Pl := Option (List D)
structure Ev where
  r : List Sl
  p : Pl
def Ev.at (e : Ev) (p : Pl) : Ev := ⟨e.r, p⟩

/-! ### a value represents data -/
/-- a list that nobody changes any more -/
def LkL (F : Addr → Prop) (H : Hp) (a : Addr) (vs : List V) : Prop := F a ∧ H a = some (.lst vs)
/-- the script: a list of ints that is locked, or of the module -/
def Scr (K : PySem.W.Frag) (H : Hp) (a : Addr) (vs : List V) : Prop :=
  (∃ o, H a = some (.frz o (.lst vs))) ∨
    ∃ (o : Obj) (its : Array Value) (n : Nat), K.lookup a = some o ∧ o.cls = .type "list" ∧ o.dict = none ∧ o.data = .seq its n ∧ its.size ≤ sizeLine ∧ Vals vs its.toList
theorem Scr.sq {K : PySem.W.Frag} {H : Hp} {a : Addr} {vs : List V} (h : Scr K H a vs) : SqL K H a vs := by
  rcases h with ⟨o, h⟩ | h
  · exact .inl (.inr ⟨o, h⟩)
  · exact .inr h
mutual
inductive Rp (K : PySem.W.Frag) (F : Addr → Prop) (H : Hp) : V → D → Prop
  | non : Rp K F H .non .none
  | bl (b : Bool) : Rp K F H (.bl b) (.bool b)
  | int (i : Int) : Rp K F H (.int i) (.int i)
  | str (x : Str) : Rp K F H (.str x) (.str x)
  | lst {a : Addr} {vs : List V} {ds : List D} : LkL F H a vs → RpAll K F H vs ds → Rp K F H (.ref a) (.list ds)
  | tup {a : Addr} {vs : List V} {ds : List D} : H a = some (.tup vs) → RpAll K F H vs ds → Rp K F H (.ref a) (.tuple ds)
inductive RpAll (K : PySem.W.Frag) (F : Addr → Prop) (H : Hp) : List V → List D → Prop
  | nil : RpAll K F H [] []
  | cons {v : V} {vs : List V} {d : D} {ds : List D} : Rp K F H v d → RpAll K F H vs ds → RpAll K F H (v :: vs) (d :: ds)
end
section
variable {K : PySem.W.Frag} {F F' : Addr → Prop} {H H' : Hp}
theorem RpAll.length : ∀ {vs : List V} {ds : List D}, RpAll K F H vs ds → vs.length = ds.length
  | [], _, h => by cases h; rfl
  | _ :: vs, _, h => by
    cases h with
    | cons _ t => simp [RpAll.length t]
theorem RpAll.get : ∀ {vs : List V} {ds : List D} {i : Nat} {d : D}, RpAll K F H vs ds → ds[i]? = some d → ∃ v, vs[i]? = some v ∧ Rp K F H v d
  | [], _, i, d, h, e => by cases h; simp at e
  | v :: vs, _, i, d, h, e => by
    cases h with
    | cons h t =>
      cases i with
      | zero => simp at e; subst e; exact ⟨v, rfl, h⟩
      | succ i =>
        obtain ⟨u, e1, r⟩ := RpAll.get (i := i) t (by simpa using e)
        exact ⟨u, by simpa using e1, r⟩
theorem RpAll.get' : ∀ {vs : List V} {ds : List D} {i : Nat} {v : V}, RpAll K F H vs ds → vs[i]? = some v → ∃ d, ds[i]? = some d ∧ Rp K F H v d
  | [], _, i, v, h, e => by simp at e
  | u :: vs, _, i, v, h, e => by
    cases h with
    | cons h t =>
      cases i with
      | zero => simp at e; subst e; exact ⟨_, rfl, h⟩
      | succ i =>
        obtain ⟨d, e1, r⟩ := RpAll.get' (i := i) t (by simpa using e)
        exact ⟨d, by simpa using e1, r⟩
theorem RpAll.append : ∀ {vs us : List V} {ds es : List D}, RpAll K F H vs ds → RpAll K F H us es → RpAll K F H (vs ++ us) (ds ++ es)
  | [], _, _, _, h, g => by cases h; exact g
  | _ :: _, _, _, _, h, g => by
    cases h with
    | cons h t => exact .cons h (RpAll.append t g)
theorem RpAll.take : ∀ {vs : List V} {ds : List D} (n : Nat), RpAll K F H vs ds → RpAll K F H (vs.take n) (ds.take n)
  | [], _, n, h => by cases h; simp; exact .nil
  | _ :: _, _, 0, h => by cases h; exact .nil
  | _ :: _, _, n + 1, h => by
    cases h with
    | cons h t => exact .cons h (RpAll.take n t)
theorem RpAll.drop : ∀ {vs : List V} {ds : List D} (n : Nat), RpAll K F H vs ds → RpAll K F H (vs.drop n) (ds.drop n)
  | [], _, n, h => by cases h; simp; exact .nil
  | _ :: _, _, 0, h => h
  | _ :: _, _, n + 1, h => by
    cases h with
    | cons h t => exact RpAll.drop n t
theorem RpAll.set : ∀ {vs : List V} {ds : List D} (i : Nat) {v : V} {d : D}, RpAll K F H vs ds → Rp K F H v d → RpAll K F H (vs.set i v) (ds.set i d)
  | [], _, i, _, _, h, _ => by cases h; exact .nil
  | _ :: _, _, 0, _, _, h, r => by
    cases h with
    | cons _ t => exact .cons r t
  | _ :: _, _, i + 1, _, _, h, r => by
    cases h with
    | cons h t => exact .cons h (RpAll.set i t r)
theorem RpAll.dropLast {vs : List V} {ds : List D} (h : RpAll K F H vs ds) : RpAll K F H vs.dropLast ds.dropLast := by
  rw [List.dropLast_eq_take, List.dropLast_eq_take, h.length]
  exact h.take _
theorem RpAll.reverse : ∀ {vs : List V} {ds : List D}, RpAll K F H vs ds → RpAll K F H vs.reverse ds.reverse
  | [], _, h => by cases h; exact .nil
  | _ :: _, _, h => by
    cases h with
    | cons h t =>
      rw [List.reverse_cons, List.reverse_cons]
      exact (RpAll.reverse t).append (.cons h .nil)
mutual
/-- data stays while what it stands on stays -/
theorem Rp.mono (hl : ∀ a vs, LkL F H a vs → LkL F' H' a vs) (ht : ∀ (a : Addr) (vs : List V), H a = some (.tup vs) → H' a = some (.tup vs)) : ∀ (d : D) (v : V), Rp K F H v d → Rp K F' H' v d
  | .none, _, h => by cases h; exact .non
  | .bool b, _, h => by cases h; exact .bl b
  | .int i, _, h => by cases h; exact .int i
  | .str x, _, h => by cases h; exact .str x
  | .list ds, _, h => by
    cases h with
    | lst a b => exact .lst (hl _ _ a) (RpAll.mono hl ht ds _ b)
  | .tuple ds, _, h => by
    cases h with
    | tup a b => exact .tup (ht _ _ a) (RpAll.mono hl ht ds _ b)
  | .dict _, _, h => by cases h
theorem RpAll.mono (hl : ∀ a vs, LkL F H a vs → LkL F' H' a vs) (ht : ∀ (a : Addr) (vs : List V), H a = some (.tup vs) → H' a = some (.tup vs)) : ∀ (ds : List D) (vs : List V), RpAll K F H vs ds → RpAll K F' H' vs ds
  | [], _, h => by cases h; exact .nil
  | d :: ds, _, h => by
    cases h with
    | cons a b => exact .cons (Rp.mono hl ht d _ a) (RpAll.mono hl ht ds _ b)
end
mutual
theorem Rp.dp : ∀ (d : D) (v : V), Rp K F H v d → Dp K H v d
  | .none, _, h => by cases h; exact .non
  | .bool b, _, h => by cases h; exact .bl b
  | .int i, _, h => by cases h; exact .int i
  | .str x, _, h => by cases h; exact .str x
  | .list ds, _, h => by
    cases h with
    | lst a b => exact .lst (SqL.of a.2) (RpAll.dp ds _ b)
  | .tuple ds, _, h => by
    cases h with
    | tup a b => exact .tup (SqT.of a) (RpAll.dp ds _ b)
  | .dict _, _, h => by cases h
theorem RpAll.dp : ∀ (ds : List D) (vs : List V), RpAll K F H vs ds → DpAll K H vs ds
  | [], _, h => by cases h; exact .nil
  | d :: ds, _, h => by
    cases h with
    | cons a b => exact .cons (Rp.dp d _ a) (RpAll.dp ds _ b)
end
mutual
theorem Rp.plain : ∀ (d : D) (v : V), Rp K F H v d → d.plain = true
  | .none, _, _ => rfl
  | .bool _, _, _ => rfl
  | .int _, _, _ => rfl
  | .str _, _, _ => rfl
  | .list ds, _, h => by
    cases h with
    | lst _ b => rw [PyData.plain]; exact RpAll.plain ds _ b
  | .tuple ds, _, h => by
    cases h with
    | tup _ b => rw [PyData.plain]; exact RpAll.plain ds _ b
  | .dict _, _, h => by cases h
theorem RpAll.plain : ∀ (ds : List D) (vs : List V), RpAll K F H vs ds → PyData.plainAll ds = true
  | [], _, _ => rfl
  | d :: ds, _, h => by
    cases h with
    | cons a b => rw [PyData.plainAll, Rp.plain d _ a, RpAll.plain ds _ b]; rfl
end
end

/-! ### what an evaluation keeps -/
structure Post (F : Addr → Prop) (pa : Option Addr) (H : Hp) (F' : Addr → Prop) (H' : Hp) : Prop where
  fr : ∀ a, F a → F' a
  nw : ∀ a, F' a → F a ∨ (H a = none ∧ H' a ≠ none)
  kp : ∀ a o, H a = some o → some a ≠ pa → H' a = some o
  dm : ∀ a, H a ≠ none → H' a ≠ none
/-- the pool -/
def RepP (K : PySem.W.Frag) (F : Addr → Prop) (pa : Option Addr) (H : Hp) (p : Pl) : Prop :=
  match pa, p with
  | none, none => True
  | some a, some xs => ¬ F a ∧ ∃ vs, H a = some (.lst vs) ∧ RpAll K F H vs xs
  | _, _ => False
def PaOk (F : Addr → Prop) (pa : Option Addr) (H : Hp) : Prop := ∀ a, pa = some a → ¬ F a ∧ ∃ vs, H a = some (.lst vs)
/-- a dict of data: keys tuples of ints and texts -/
def keyD : Key → D
  | .inl i => .int i
  | .inr x => .str x
def DctR (K : PySem.W.Frag) (F : Addr → Prop) (H : Hp) (a : Addr) (kvs : List (D × D)) : Prop :=
  ∃ es : List (List Key × V), H a = some (.dT es) ∧ Paired (fun (e : List Key × V) (q : D × D) => q.1 = .tuple (e.1.map keyD) ∧ Rp K F H e.2 q.2) es kvs
def RepR (K : PySem.W.Frag) (F' : Addr → Prop) (H H' : Hp) (v : V) : RV → Prop
  | .d x => Rp K F' H' v x
  | .l xs => ∃ a vs, v = .ref a ∧ H a = none ∧ ¬ F' a ∧ H' a = some (.lst vs) ∧ RpAll K F' H' vs xs
  | .m kvs => ∃ a, v = .ref a ∧ H a = none ∧ ¬ F' a ∧ DctR K F' H' a kvs
def SlR (K : PySem.W.Frag) (F : Addr → Prop) (pa : Option Addr) (H : Hp) (o : Option (Option V)) : Sl → Prop
  | .un => True
  | .d x => ∃ v, o = some (some v) ∧ Rp K F H v x
  | .l xs => ∃ a vs, o = some (some (.ref a)) ∧ ¬ F a ∧ pa ≠ some a ∧ H a = some (.lst vs) ∧ RpAll K F H vs xs
  | .m kvs => ∃ a, o = some (some (.ref a)) ∧ ¬ F a ∧ pa ≠ some a ∧ DctR K F H a kvs
  | .pool => ∃ a, o = some (some (.ref a)) ∧ pa = some a
  | .s ns => ∃ a, o = some (some (.ref a)) ∧ Scr K H a (ns.map .int)
def owned : Sl → Bool
  | .l _ => true
  | .m _ => true
  | _ => false
structure RepE (K : PySem.W.Frag) (F : Addr → Prop) (pa : Option Addr) (σ : St) (H : Hp) (e : Ev) : Prop where
  len : σ.length = e.r.length
  sl : ∀ (i : Nat) (s : Sl), e.r[i]? = some s → SlR K F pa H (σ[i]?) s
  ow : ∀ (i j : Nat) (s t : Sl) (a : Addr), i ≠ j → e.r[i]? = some s → e.r[j]? = some t → owned s = true → owned t = true → σ[i]? = some (some (.ref a)) → σ[j]? = some (some (.ref a)) → False
  pl : RepP K F pa H e.p
  fo : ∀ a, F a → H a ≠ none
section
variable {K : PySem.W.Frag} {F F' F'' : Addr → Prop} {pa : Option Addr} {H H' H'' : Hp} {σ : St} {e : Ev} {v : V} {r : RV} {p p' : Pl}
theorem RepP.ok (h : RepP K F pa H p) : PaOk F pa H := by
  intro a e
  subst e
  cases p with
  | none => exact h.elim
  | some xs =>
    obtain ⟨h1, vs, h2, _⟩ := h
    exact ⟨h1, vs, h2⟩
theorem Post.refl : Post F pa H F H := ⟨fun _ h => h, fun _ h => .inl h, fun _ _ h _ => h, fun _ h => h⟩
theorem Post.trans (a : Post F pa H F' H') (b : Post F' pa H' F'' H'') : Post F pa H F'' H'' := by
  refine ⟨fun x h => b.fr x (a.fr x h), fun x h => ?_, fun x o h n => b.kp x o (a.kp x o h n) n, fun x h => b.dm x (a.dm x h)⟩
  rcases b.nw x h with h | ⟨h, h'⟩
  · rcases a.nw x h with z | ⟨z, z'⟩
    · exact .inl z
    · exact .inr ⟨z, b.dm x z'⟩
  · right
    cases q : H x with
    | none => exact ⟨rfl, h'⟩
    | some o => exact absurd h (a.dm x (by rw [q]; simp))
theorem Post.lkl (P : Post F pa H F' H') (ok : PaOk F pa H) : ∀ a vs, LkL F H a vs → LkL F' H' a vs := by
  intro a vs ⟨hf, h⟩
  exact ⟨P.fr a hf, P.kp a _ h fun e => (ok a e.symm).1 hf⟩
theorem Post.sqt (P : Post F pa H F' H') (ok : PaOk F pa H) : ∀ (a : Addr) (vs : List V), H a = some (.tup vs) → H' a = some (.tup vs) := by
  intro a vs h
  refine P.kp a _ h fun e => ?_
  obtain ⟨_, vs', h'⟩ := ok a e.symm
  rw [h] at h'; cases h'
theorem Scr.post {a : Addr} {vs : List V} (h : Scr K H a vs) (P : Post F pa H F' H') (ok : PaOk F pa H) : Scr K H' a vs := by
  rcases h with ⟨o, h⟩ | h
  · refine .inl ⟨o, P.kp a _ h fun e => ?_⟩
    obtain ⟨_, vs', h'⟩ := ok a e.symm
    rw [h] at h'; cases h'
  · exact .inr h
theorem Rp.post (P : Post F pa H F' H') (ok : PaOk F pa H) {d : D} (h : Rp K F H v d) : Rp K F' H' v d := Rp.mono (P.lkl ok) (P.sqt ok) d v h
theorem RpAll.post (P : Post F pa H F' H') (ok : PaOk F pa H) {vs : List V} {ds : List D} (h : RpAll K F H vs ds) : RpAll K F' H' vs ds := RpAll.mono (P.lkl ok) (P.sqt ok) ds vs h
/-- more lists are known to stay -/
theorem Rp.weak (h : ∀ a, F a → F' a) {d : D} (r : Rp K F H v d) : Rp K F' H v d :=
  Rp.mono (fun a vs q => ⟨h _ q.1, q.2⟩) (fun _ _ q => q) d v r
theorem RpAll.weak (h : ∀ a, F a → F' a) {vs : List V} {ds : List D} (r : RpAll K F H vs ds) : RpAll K F' H vs ds :=
  RpAll.mono (fun a vs q => ⟨h _ q.1, q.2⟩) (fun _ _ q => q) ds vs r
theorem paired_imp {α β : Type} {G G' : α → β → Prop} : ∀ {l : List α} {k : List β}, Paired G l k → (∀ a b, G a b → G' a b) → Paired G' l k
  | _, _, .nil, _ => .nil
  | _, _, .cons h t, f => .cons (f _ _ h) (paired_imp t f)
theorem DctR.post (P : Post F pa H F' H') (ok : PaOk F pa H) {a : Addr} {kvs : List (D × D)} (n : pa ≠ some a) (h : DctR K F H a kvs) : DctR K F' H' a kvs := by
  obtain ⟨es, h1, h2⟩ := h
  exact ⟨es, P.kp a _ h1 fun e => n e.symm, paired_imp h2 fun _ _ q => ⟨q.1, q.2.post P ok⟩⟩
theorem DctR.weak (w : ∀ a, F a → F' a) {a : Addr} {kvs : List (D × D)} (h : DctR K F H a kvs) : DctR K F' H a kvs := by
  obtain ⟨es, h1, h2⟩ := h
  exact ⟨es, h1, paired_imp h2 fun _ _ q => ⟨q.1, q.2.weak w⟩⟩
theorem DctR.there {a : Addr} {kvs : List (D × D)} (h : DctR K F H a kvs) : H a ≠ none := by
  obtain ⟨es, h1, _⟩ := h
  rw [h1]; simp
theorem fo_post (h : ∀ a, F a → H a ≠ none) (P : Post F pa H F' H') : ∀ a, F' a → H' a ≠ none := fun a q => by
  rcases P.nw a q with z | z
  · exact P.dm a (h a z)
  · exact z.2
/-- behind an evaluation the slots stand as before -/
theorem RepE.post (R : RepE K F pa σ H e) (P : Post F pa H F' H') (q : RepP K F' pa H' p) : RepE K F' pa σ H' (e.at p) := by
  have ok := R.pl.ok
  refine ⟨R.len, fun i s h => ?_, R.ow, q, fo_post R.fo P⟩
  have h1 := R.sl i s h
  cases s with
  | un => trivial
  | d x =>
    obtain ⟨v, e1, e2⟩ := h1
    exact ⟨v, e1, e2.post P ok⟩
  | l xs =>
    obtain ⟨a, vs, e1, nf, np, ha, hv⟩ := h1
    refine ⟨a, vs, e1, fun hf => ?_, np, P.kp a _ ha fun e => np e.symm, hv.post P ok⟩
    rcases P.nw a hf with z | ⟨z, _⟩
    · exact nf z
    · rw [ha] at z; cases z
  | m kvs =>
    obtain ⟨a, e1, nf, np, hv⟩ := h1
    refine ⟨a, e1, fun hf => ?_, np, hv.post P ok np⟩
    rcases P.nw a hf with z | ⟨z, _⟩
    · exact nf z
    · exact hv.there z
  | pool => exact h1
  | s ns =>
    obtain ⟨a, e1, h2⟩ := h1
    exact ⟨a, e1, h2.post P ok⟩
/-- data made of a result: a new list is known to stay from now on -/
def toD : RV → Option D
  | .d x => some x
  | .l xs => some (.list xs)
  | .m _ => none
theorem freeze {d : D} (P : Post F pa H F' H') (hr : RepR K F' H H' v r) (q : RepP K F' pa H' p) (h : toD r = some d) (ok : PaOk F pa H) :
    ∃ F'', Post F pa H F'' H' ∧ Rp K F'' H' v d ∧ RepP K F'' pa H' p := by
  cases r with
  | d x =>
    cases h
    exact ⟨F', P, hr, q⟩
  | l xs =>
    cases h
    obtain ⟨a, vs, rfl, n, nf, ha, hv⟩ := hr
    have w : ∀ b, F' b → F' b ∨ b = a := fun b h => .inl h
    refine ⟨fun b => F' b ∨ b = a, ⟨fun b h => .inl (P.fr b h), fun b h => ?_, P.kp, P.dm⟩, .lst ⟨.inr rfl, ha⟩ (hv.weak w), ?_⟩
    · rcases h with h | rfl
      · exact P.nw b h
      · exact .inr ⟨n, by rw [ha]; simp⟩
    · cases pa with
      | none => cases p <;> first | trivial | exact q.elim
      | some b =>
        cases p with
        | none => exact q.elim
        | some ys =>
          obtain ⟨q1, us, q2, q3⟩ := q
          refine ⟨fun z => ?_, us, q2, q3.weak w⟩
          rcases z with z | z
          · exact q1 z
          · obtain ⟨_, us', k⟩ := ok b rfl
            rw [z, n] at k; cases k
  | m kvs => cases h
end
end Dg

/-! deedsagain: expressions as functions of data. -/
namespace Dg
open PySem PySem.Spec L2

abbrev EF := Ev → Option (RV × Pl)
abbrev RF := Ev → Option (D × Pl)
abbrev AF := Ev → Option (List D × Pl)
abbrev BF := Ev → Option (Bool × Pl)
/-- a value that can be read as data: data, or a list of one's own -/
def Rd (K : PySem.W.Frag) (F : Addr → Prop) (pa : Option Addr) (H : Hp) (v : V) (d : D) : Prop :=
  Rp K F H v d ∨ ∃ a xs vs, v = .ref a ∧ d = .list xs ∧ pa ≠ some a ∧ H a = some (.lst vs) ∧ RpAll K F H vs xs
def trE (K : PySem.W.Frag) (f : EF) : TE := fun σ H Q => ∃ F pa e r p, RepE K F pa σ H e ∧ f e = some (r, p) ∧
  ∀ v F' H', Post F pa H F' H' → RepR K F' H H' v r → RepP K F' pa H' p → Q v H'
def trR (K : PySem.W.Frag) (f : RF) : TE := fun σ H Q => ∃ F pa e d p, RepE K F pa σ H e ∧ f e = some (d, p) ∧
  ∀ v F' H', Post F pa H F' H' → Rd K F' pa H' v d → RepP K F' pa H' p → Q v H'
def trA (K : PySem.W.Frag) (f : AF) : TA := fun σ H Q => ∃ F pa e ds p, RepE K F pa σ H e ∧ f e = some (ds, p) ∧
  ∀ vs F' H', Post F pa H F' H' → RpAll K F' H' vs ds → RepP K F' pa H' p → Q vs H'
def trB (K : PySem.W.Frag) (f : BF) : TT := fun σ H Q => ∃ F pa e b p, RepE K F pa σ H e ∧ f e = some (b, p) ∧
  ∀ F' H', Post F pa H F' H' → RepP K F' pa H' p → Q b H'
abbrev DE (X : Cx) (e : Expr) (f : EF) : Prop := PE X e (trE X.K f)
abbrev DR (X : Cx) (e : Expr) (f : RF) : Prop := PE X e (trR X.K f)
abbrev DA (X : Cx) (es : List Expr) (f : AF) : Prop := PA X es (trA X.K f)
abbrev DB (X : Cx) (e : Expr) (f : BF) : Prop := PT X e (trB X.K f)
theorem pe_imp {X : Cx} {e : Expr} {t t' : TE} (h : PE X e t) (i : ∀ σ H Q, t' σ H Q → t σ H Q) : PE X e t' :=
  ⟨fun pins s σ H Q I w => h.run pins s σ H Q I (i _ _ _ w)⟩
theorem pa_imp {X : Cx} {es : List Expr} {t t' : TA} (h : PA X es t) (i : ∀ σ H Q, t' σ H Q → t σ H Q) : PA X es t' :=
  ⟨fun pos pins s σ H Q I w => h.run pos pins s σ H Q I (i _ _ _ w)⟩
theorem pt_imp {X : Cx} {e : Expr} {t t' : TT} (h : PT X e t) (i : ∀ σ H Q, t' σ H Q → t σ H Q) : PT X e t' :=
  ⟨fun pins s σ H Q I w => h.run pins s σ H Q I (i _ _ _ w)⟩
section
variable {K : PySem.W.Frag} {F F' F'' : Addr → Prop} {pa : Option Addr} {H H' H'' : Hp} {σ : St} {e : Ev} {v : V} {r : RV} {p p' : Pl}
theorem Post.new {a : Addr} {o : HO} (h : H a = none) : Post F none H F (upd H a o) := by
  refine ⟨fun _ x => x, fun _ x => .inl x, fun b o' e _ => by rw [upd_ne (ne_of_none e h)]; exact e, fun b e => ?_⟩
  by_cases hb : b = a
  · subst hb; rw [upd_same]; simp
  · rw [upd_ne hb]; exact e
theorem Post.weak (P : Post F none H F' H') : Post F pa H F' H' := ⟨P.fr, P.nw, fun a o e _ => P.kp a o e (by simp), P.dm⟩
theorem okN : PaOk F none H := fun _ e => by cases e
/-- a pool that nobody touched -/
theorem RepP.keep (q : RepP K F pa H p) (P : Post F none H F' H') : RepP K F' pa H' p := by
  cases pa with
  | none => cases p <;> first | trivial | exact q.elim
  | some a =>
    cases p with
    | none => exact q.elim
    | some xs =>
      obtain ⟨q1, vs, q2, q3⟩ := q
      refine ⟨fun z => ?_, vs, P.kp a _ q2 (by simp), q3.post P okN⟩
      rcases P.nw a z with z | ⟨z, _⟩
      · exact q1 z
      · rw [q2] at z; cases z
theorem Rd.post {d : D} (h : Rd K F pa H v d) (P : Post F pa H F' H') (ok : PaOk F pa H) : Rd K F' pa H' v d := by
  rcases h with h | ⟨a, xs, vs, rfl, rfl, n, ha, hv⟩
  · exact .inl (h.post P ok)
  · exact .inr ⟨a, xs, vs, rfl, rfl, n, P.kp a _ ha fun e => n e.symm, hv.post P ok⟩
theorem Rd.dp {d : D} (h : Rd K F pa H v d) : Dp K H v d := by
  rcases h with h | ⟨a, xs, vs, rfl, rfl, n, ha, hv⟩
  · exact Rp.dp _ _ h
  · exact .lst (SqL.of ha) (RpAll.dp _ _ hv)
theorem Rd.plain {d : D} (h : Rd K F pa H v d) : d.plain = true := by
  rcases h with h | ⟨a, xs, vs, rfl, rfl, n, ha, hv⟩
  · exact Rp.plain _ _ h
  · rw [PyData.plain]; exact RpAll.plain _ _ hv
/-- read as a list, as a tuple -/
theorem Rd.list {xs : List D} (h : Rd K F pa H v (.list xs)) : ∃ a vs, v = .ref a ∧ SqL K H a vs ∧ RpAll K F H vs xs := by
  rcases h with h | ⟨a, ys, vs, rfl, e, n, ha, hv⟩
  · cases h with
    | lst a b => exact ⟨_, _, rfl, SqL.of a.2, b⟩
  · cases e; exact ⟨a, vs, rfl, SqL.of ha, hv⟩
theorem Rd.tup {xs : List D} (h : Rd K F pa H v (.tuple xs)) : ∃ a vs, v = .ref a ∧ SqT K H a vs ∧ RpAll K F H vs xs := by
  rcases h with h | ⟨a, ys, vs, rfl, e, n, ha, hv⟩
  · cases h with
    | tup a b => exact ⟨_, _, rfl, SqT.of a, b⟩
  · cases e
theorem Rd.listH {xs : List D} (h : Rd K F pa H v (.list xs)) : ∃ a vs, v = .ref a ∧ H a = some (.lst vs) ∧ RpAll K F H vs xs := by
  rcases h with h | ⟨a, ys, vs, rfl, e, n, ha, hv⟩
  · cases h with
    | lst a b => exact ⟨_, _, rfl, a.2, b⟩
  · cases e; exact ⟨a, vs, rfl, ha, hv⟩
theorem Rd.tupH {xs : List D} (h : Rd K F pa H v (.tuple xs)) : ∃ a vs, v = .ref a ∧ H a = some (.tup vs) ∧ RpAll K F H vs xs := by
  rcases h with h | ⟨a, ys, vs, rfl, e, n, ha, hv⟩
  · cases h with
    | tup a b => exact ⟨_, _, rfl, a, b⟩
  · cases e
theorem Rd.int {i : Int} (h : Rd K F pa H v (.int i)) : v = .int i := by
  rcases h with h | ⟨a, ys, vs, rfl, e, n, ha, hv⟩
  · cases h; rfl
  · cases e
theorem Rd.bl {b : Bool} (h : Rd K F pa H v (.bool b)) : v = .bl b := by
  rcases h with h | ⟨a, ys, vs, rfl, e, n, ha, hv⟩
  · cases h; rfl
  · cases e
theorem Rd.str {x : Str} (h : Rd K F pa H v (.str x)) : v = .str x := by
  rcases h with h | ⟨a, ys, vs, rfl, e, n, ha, hv⟩
  · cases h; rfl
  · cases e
theorem Rd.non (h : Rd K F pa H v .none) : v = .non := by
  rcases h with h | ⟨a, ys, vs, rfl, e, n, ha, hv⟩
  · cases h; rfl
  · cases e
theorem Rd.none_iff {d : D} (h : Rd K F pa H v d) : decide (v = .non) = (match d with | .none => true | _ => false) := by
  rcases h with h | ⟨a, ys, vs, rfl, rfl, n, ha, hv⟩
  · cases h <;> rfl
  · rfl
end

/-! ### expressions -/
namespace E
def c (x : D) : EF := fun e => some (.d x, e.p)
def v (i : Nat) : EF := fun e => match e.r[i]? with
  | some (.d x) => some (.d x, e.p)
  | _ => none
def nil : AF := fun e => some ([], e.p)
def cons (f : EF) (g : AF) : AF := fun e => (f e).bind fun a => (toD a.1).bind fun d => (g (e.at a.2)).bind fun b => some (d :: b.1, b.2)
def tup (f : AF) : EF := fun e => (f e).bind fun a => if a.1.length ≤ sizeLine then some (.d (.tuple a.1), a.2) else none
def lst (f : AF) : EF := fun e => (f e).bind fun a => if a.1.length ≤ sizeLine then some (.l a.1, a.2) else none
/-- in a place where a value is only read -/
def rd (f : EF) : RF := fun e => (f e).bind fun a => (toD a.1).map fun d => (d, a.2)
def rv (i : Nat) : RF := fun e => match e.r[i]? with
  | some (.d x) => some (x, e.p)
  | some (.l xs) => some (.list xs, e.p)
  | _ => none
def op (g : D → D → Option RV) (a b : RF) : EF := fun e => (a e).bind fun x => (b (e.at x.2)).bind fun y => (g x.1 y.1).map fun r => (r, y.2)
def un (g : D → Option RV) (a : RF) : EF := fun e => (a e).bind fun x => (g x.1).map fun r => (r, x.2)
def ite (c : BF) (a b : EF) : EF := fun e => (c e).bind fun x => if x.1 = true then a (e.at x.2) else b (e.at x.2)
/-- a bool as a value, as a test -/
def ofB (f : BF) : EF := fun e => (f e).map fun x => (.d (.bool x.1), x.2)
def toB (f : EF) : BF := fun e => (f e).bind fun a => match a.1 with
  | .d (.bool b) => some (b, a.2)
  | _ => none
def and (a b : BF) : BF := fun e => (a e).bind fun x => if x.1 = true then b (e.at x.2) else some (false, x.2)
def or (a b : BF) : BF := fun e => (a e).bind fun x => if x.1 = true then some (true, x.2) else b (e.at x.2)
def not (a : BF) : BF := fun e => (a e).map fun x => (!x.1, x.2)
end E

section
variable {X : Cx} {e a b c : Expr} {es rest : List Expr} {f g h : EF} {fa fb fc : RF} {fA : AF} {B B' : BF} {pos : Pos}
theorem de_v {i : Nat} {x : Str} (h : PE X (.Name x pos) (tVar i)) : DE X (.Name x pos) (E.v i) := by
  refine pe_imp h fun σ H Q w => ?_
  obtain ⟨F, pa, e, r, p, R, ev, q⟩ := w
  unfold E.v at ev
  split at ev
  · rename_i x hx
    cases ev
    obtain ⟨v, e1, rv⟩ := R.sl i _ hx
    exact ⟨v, e1, q v F H .refl rv R.pl⟩
  · cases ev
theorem dr_v {i : Nat} {x : Str} (h : PE X (.Name x pos) (tVar i)) : DR X (.Name x pos) (E.rv i) := by
  refine pe_imp h fun σ H Q w => ?_
  obtain ⟨F, pa, e, d, p, R, ev, q⟩ := w
  unfold E.rv at ev
  split at ev
  · rename_i x hx
    cases ev
    obtain ⟨v, e1, rv⟩ := R.sl i _ hx
    exact ⟨v, e1, q v F H .refl (.inl rv) R.pl⟩
  · rename_i xs hx
    cases ev
    obtain ⟨a, vs, e1, nf, np, ha, hv⟩ := R.sl i _ hx
    exact ⟨.ref a, e1, q _ F H .refl (.inr ⟨a, xs, vs, rfl, rfl, np, ha, hv⟩) R.pl⟩
  · cases ev
theorem dr_of (h : DE X a f) : DR X a (E.rd f) := by
  refine pe_imp h fun σ H Q w => ?_
  obtain ⟨F, pa, e, d, p, R, ev, q⟩ := w
  simp only [E.rd, Option.bind_eq_some_iff, Option.map_eq_some_iff] at ev
  obtain ⟨⟨r, p1⟩, e1, d1, e2, e3⟩ := ev
  cases e3
  refine ⟨F, pa, e, r, _, R, e1, fun v F' H' P rr rp => ?_⟩
  obtain ⟨F2, P2, r2, rp2⟩ := freeze P rr rp e2 R.pl.ok
  exact q v F2 H' P2 (.inl r2) rp2
theorem de_c {x : D} {v : V} (h : PE X a (tC v)) (r : ∀ K F H, Rp K F H v x) : DE X a (E.c x) := by
  refine pe_imp h fun σ H Q w => ?_
  obtain ⟨F, pa, e, r', p, R, ev, q⟩ := w
  cases ev
  exact q v F H .refl (r _ _ _) R.pl
theorem de_int {i : Int} {j pos} : DE X (.Constant (.int i) j pos) (E.c (.int i)) := de_c pe_int fun _ _ _ => .int i
theorem de_bl {b : Bool} {j pos} : DE X (.Constant (.bool b) j pos) (E.c (.bool b)) := de_c pe_bl fun _ _ _ => .bl b
theorem de_non {j pos} : DE X (.Constant .none j pos) (E.c .none) := de_c pe_non fun _ _ _ => .non
theorem de_str {x : Str} {j pos} : DE X (.Constant (.str x) j pos) (E.c (.str x)) := de_c pe_str fun _ _ _ => .str x
theorem da_nil : DA X [] E.nil := by
  refine pa_imp pa_nil fun σ H Q w => ?_
  obtain ⟨F, pa, e, ds, p, R, ev, q⟩ := w
  cases ev
  exact q [] F H .refl .nil R.pl
theorem da_cons (h1 : DE X a f) (h2 : DA X es fA) (hs : starEach (a :: es) X.env = (false, eval a X.env) :: starEach es X.env := by rfl) : DA X (a :: es) (E.cons f fA) := by
  refine pa_imp (pa_cons h1 h2 hs) fun σ H Q w => ?_
  obtain ⟨F, pa, e, ds, p, R, ev, q⟩ := w
  simp only [E.cons, Option.bind_eq_some_iff] at ev
  obtain ⟨⟨r, p1⟩, e1, d, e2, ⟨ds', p2⟩, e3, e4⟩ := ev
  cases e4
  refine ⟨F, pa, e, r, p1, R, e1, fun v F1 H1 P1 rr rp => ?_⟩
  obtain ⟨F2, P2, r2, rp2⟩ := freeze P1 rr rp e2 R.pl.ok
  have R2 := R.post P2 rp2
  refine ⟨F2, pa, _, ds', _, R2, e3, fun vs F3 H3 P3 rv rp3 => ?_⟩
  exact q (v :: vs) F3 H3 (P2.trans P3) (.cons (r2.post P3 R2.pl.ok) rv) rp3
theorem de_tup {k : Nat} (h : DA X es fA) : DE X (.Tuple es k pos) (E.tup fA) := by
  refine pe_imp (pe_tup h) fun σ H Q w => ?_
  obtain ⟨F, pa, e, r, p, R, ev, q⟩ := w
  simp only [E.tup, Option.bind_eq_some_iff] at ev
  obtain ⟨⟨ds, p1⟩, e1, e2⟩ := ev
  split at e2
  · rename_i hz
    cases e2
    refine ⟨F, pa, e, ds, _, R, e1, fun vs F1 H1 P1 rv rp => ⟨by rw [rv.length]; exact hz, fun t ht => ?_⟩⟩
    have N : Post F1 none H1 F1 (upd H1 t (.tup vs)) := .new ht
    exact q _ F1 _ (P1.trans N.weak) (.tup upd_same (rv.post N okN)) (rp.keep N)
  · cases e2
theorem de_lst (h : DA X es fA) : DE X (.List es pos) (E.lst fA) := by
  refine pe_imp (pe_lst h) fun σ H Q w => ?_
  obtain ⟨F, pa, e, r, p, R, ev, q⟩ := w
  simp only [E.lst, Option.bind_eq_some_iff] at ev
  obtain ⟨⟨ds, p1⟩, e1, e2⟩ := ev
  split at e2
  · rename_i hz
    cases e2
    refine ⟨F, pa, e, ds, _, R, e1, fun vs F1 H1 P1 rv rp => ⟨by rw [rv.length]; exact hz, fun t ht => ?_⟩⟩
    have N : Post F1 none H1 F1 (upd H1 t (.lst vs)) := .new ht
    have hn : H t = none := by
      cases z : H t with
      | none => rfl
      | some o => exact absurd ht (P1.dm t (by rw [z]; simp))
    exact q _ F1 _ (P1.trans N.weak) ⟨t, vs, rfl, hn, fun z => fo_post R.fo P1 t z ht, upd_same, rv.post N okN⟩ (rp.keep N)
  · cases e2
/-- an operation by data -/
def rD (K : PySem.W.Frag) (g : D → D → Option RV) : R2 := fun x y H Q => ∃ F pa a b r, (∀ a, F a → H a ≠ none) ∧ Rd K F pa H x a ∧ Rd K F pa H y b ∧ g a b = some r ∧
  ∀ v F' H', Post F none H F' H' → RepR K F' H H' v r → Q v H'
/-- a result known in a later heap is known against the first one -/
theorem RepR.back {K : PySem.W.Frag} {F F' : Addr → Prop} {pa : Option Addr} {H0 H H' : Hp} {F0 : Addr → Prop} {v : V} {r : RV} (h : RepR K F' H H' v r) (P : Post F0 pa H0 F H) : RepR K F' H0 H' v r := by
  have k : ∀ a, H a = none → H0 a = none := fun a e => by
    cases z : H0 a with
    | none => rfl
    | some o => exact absurd e (P.dm a (by rw [z]; simp))
  cases r with
  | d x => exact h
  | l xs =>
    obtain ⟨a, vs, h1, h2, h3⟩ := h
    exact ⟨a, vs, h1, k a h2, h3⟩
  | m kvs =>
    obtain ⟨a, h1, h2, h3⟩ := h
    exact ⟨a, h1, k a h2, h3⟩
theorem tOp_of {g : D → D → Option RV} {K : PySem.W.Frag} {σ : St} {H : Hp} {Q : VK} (w : trE K (E.op g fa fb) σ H Q) : tOp (rD K g) (trR K fa) (trR K fb) σ H Q := by
  obtain ⟨F, pa, e, r, p, R, ev, q⟩ := w
  simp only [E.op, Option.bind_eq_some_iff, Option.map_eq_some_iff] at ev
  obtain ⟨⟨x, p1⟩, e1, ⟨y, p2⟩, e2, r', e3, e4⟩ := ev
  obtain ⟨rfl, rfl⟩ := Prod.mk.inj e4
  refine ⟨F, pa, e, x, p1, R, e1, fun v F1 H1 P1 r1 rp1 => ?_⟩
  have R1 := R.post P1 rp1
  refine ⟨F1, pa, _, y, _, R1, e2, fun u F2 H2 P2 r2 rp2 => ?_⟩
  have P12 := P1.trans P2
  refine ⟨F2, pa, x, y, _, fo_post R.fo P12, r1.post P2 R1.pl.ok, r2, e3, fun w F3 H3 P3 rr => ?_⟩
  exact q w F3 H3 (P12.trans P3.weak) (rr.back P12) (rp2.keep P3)
theorem de_op {o : Operator} {g : D → D → Option RV} (ho : OpR X (binaryOp o) (rD X.K g)) (ha : DR X a fa) (hb : DR X b fb) : DE X (.BinOp a o b pos) (E.op g fa fb) :=
  pe_imp (pe_op ho ha hb) fun _ _ _ w => tOp_of w
theorem de_cmp {o : CmpOp} {g : D → D → Option RV} (ho : OpR X (compareOp o) (rD X.K g)) (ha : DR X a fa) (hb : DR X b fb) (hm : behindInMarks o b = false) : DE X (.Compare a [o] [b] pos) (E.op g fa fb) :=
  pe_imp (pe_cmpR ho ha hb hm) fun _ _ _ w => tOp_of w
theorem trB_toB {K : PySem.W.Frag} {σ : St} {H : Hp} {Q : Bool → Hp → Prop} (w : trB K (E.toB f) σ H Q) : trE K f σ H fun x H1 => ∃ k, x = .bl k ∧ Q k H1 := by
  obtain ⟨F, pa, e, k, p, R, ev, q⟩ := w
  simp only [E.toB, Option.bind_eq_some_iff] at ev
  obtain ⟨⟨r, p1⟩, e1, e2⟩ := ev
  split at e2
  · rename_i k' hk
    cases e2
    simp only at hk
    subst hk
    refine ⟨F, pa, e, _, _, R, e1, fun v F' H' P rr rp => ?_⟩
    cases rr
    exact ⟨_, rfl, q F' H' P rp⟩
  · cases e2
theorem db_cmp {o : CmpOp} {g : D → D → Option RV} (ho : OpR X (compareOp o) (rD X.K g)) (ha : DR X a fa) (hb : DR X b fb) (hm : behindInMarks o b = false) : DB X (.Compare a [o] [b] pos) (E.toB (E.op g fa fb)) :=
  pt_imp (pt_cmpR ho ha hb hm) fun _ _ _ w => by
    obtain ⟨F, pa, e, r, p, R, ev, q⟩ := trB_toB w
    exact tOp_of ⟨F, pa, e, r, p, R, ev, q⟩
/-- any expression that gives a bool, as a test -/
theorem db_of (h : DE X a f) (he : ∀ whole, isTrue a X.env whole = (do let v ← whole; standAt a.pos; holding [v] (truthy v)) := by intro _; rfl) : DB X a (E.toB f) :=
  pt_imp (pt_val h he) fun _ _ _ w => trB_toB w
theorem db_not (h : DB X a B) : DB X (.UnaryOp .Not a pos) (E.not B) := by
  refine pt_imp (pt_not h) fun σ H Q w => ?_
  obtain ⟨F, pa, e, k, p, R, ev, q⟩ := w
  simp only [E.not, Option.map_eq_some_iff] at ev
  obtain ⟨⟨k1, p1⟩, e1, e2⟩ := ev
  cases e2
  exact ⟨F, pa, e, k1, _, R, e1, fun F' H' P rp => q F' H' P rp⟩
abbrev DW (X : Cx) (e : Expr) (f : BF) : Prop := PW X e (trB X.K f)
theorem dw_and1 (h : DB X a B) : DW X (.BoolOp .And [a] pos) B := pw_and1 h
theorem dw_or1 (h : DB X a B) : DW X (.BoolOp .Or [a] pos) B := pw_or1 h
theorem dw_and (h1 : DB X a B) (h2 : DW X (.BoolOp .And (b :: rest) pos) B') : DW X (.BoolOp .And (a :: b :: rest) pos) (E.and B B') := by
  have h := pw_and h1 h2
  refine ⟨fun wh pins s σ H Q I w => h.run wh pins s σ H Q I ?_⟩
  obtain ⟨F, pa, e, k, p, R, ev, q⟩ := w
  simp only [E.and, Option.bind_eq_some_iff] at ev
  obtain ⟨⟨k1, p1⟩, e1, e2⟩ := ev
  refine ⟨F, pa, e, k1, p1, R, e1, fun F1 H1 P1 rp1 => ?_⟩
  simp only at e2
  split
  · rename_i hk
    rw [if_pos hk] at e2
    exact ⟨F1, pa, _, k, p, R.post P1 rp1, e2, fun F2 H2 P2 rp2 => q F2 H2 (P1.trans P2) rp2⟩
  · rename_i hk
    rw [if_neg hk] at e2
    cases e2
    exact q F1 H1 P1 rp1
theorem dw_or (h1 : DB X a B) (h2 : DW X (.BoolOp .Or (b :: rest) pos) B') : DW X (.BoolOp .Or (a :: b :: rest) pos) (E.or B B') := by
  have h := pw_or h1 h2
  refine ⟨fun wh pins s σ H Q I w => h.run wh pins s σ H Q I ?_⟩
  obtain ⟨F, pa, e, k, p, R, ev, q⟩ := w
  simp only [E.or, Option.bind_eq_some_iff] at ev
  obtain ⟨⟨k1, p1⟩, e1, e2⟩ := ev
  refine ⟨F, pa, e, k1, p1, R, e1, fun F1 H1 P1 rp1 => ?_⟩
  simp only at e2
  split
  · rename_i hk
    rw [if_pos hk] at e2
    cases e2
    exact q F1 H1 P1 rp1
  · rename_i hk
    rw [if_neg hk] at e2
    exact ⟨F1, pa, _, k, p, R.post P1 rp1, e2, fun F2 H2 P2 rp2 => q F2 H2 (P1.trans P2) rp2⟩
/-- .. as a value -/
theorem trE_ofB {K : PySem.W.Frag} {σ : St} {H : Hp} {Q : VK} (w : trE K (E.ofB B) σ H Q) : trB K B σ H fun k H1 => Q (.bl k) H1 := by
  obtain ⟨F, pa, e, r, p, R, ev, q⟩ := w
  simp only [E.ofB, Option.map_eq_some_iff] at ev
  obtain ⟨⟨k1, p1⟩, e1, e2⟩ := ev
  cases e2
  exact ⟨F, pa, e, k1, _, R, e1, fun F' H' P rp => q _ F' H' P (.bl _) rp⟩
theorem de_and1 (h : DE X a (E.ofB B)) : DE X (.BoolOp .And [a] pos) (E.ofB B) := pe_one h
theorem de_or1 (h : DE X a (E.ofB B)) : DE X (.BoolOp .Or [a] pos) (E.ofB B) := pe_one h
theorem de_and (h1 : DE X a (E.ofB B)) (h2 : DE X (.BoolOp .And (b :: rest) pos) (E.ofB B')) : DE X (.BoolOp .And (a :: b :: rest) pos) (E.ofB (E.and B B')) := by
  refine pe_imp (pe_and h1 h2) fun σ H Q w => ?_
  obtain ⟨F, pa, e, k, p, R, ev, q⟩ := trE_ofB w
  simp only [E.and, Option.bind_eq_some_iff] at ev
  obtain ⟨⟨k1, p1⟩, e1, e2⟩ := ev
  refine ⟨F, pa, e, .d (.bool k1), p1, R, by simp only [E.ofB, e1, Option.map_some], fun v F1 H1 P1 rr rp1 => ?_⟩
  cases rr
  refine ⟨k1, rfl, ?_⟩
  simp only at e2
  split
  · rename_i hk
    rw [if_pos hk] at e2
    refine ⟨F1, pa, _, .d (.bool k), p, R.post P1 rp1, by simp only [E.ofB, e2, Option.map_some], fun v2 F2 H2 P2 rr2 rp2 => ?_⟩
    cases rr2
    exact q F2 H2 (P1.trans P2) rp2
  · rename_i hk
    rw [if_neg hk] at e2
    cases e2
    exact q F1 H1 P1 rp1
theorem de_or (h1 : DE X a (E.ofB B)) (h2 : DE X (.BoolOp .Or (b :: rest) pos) (E.ofB B')) : DE X (.BoolOp .Or (a :: b :: rest) pos) (E.ofB (E.or B B')) := by
  refine pe_imp (pe_or h1 h2) fun σ H Q w => ?_
  obtain ⟨F, pa, e, k, p, R, ev, q⟩ := trE_ofB w
  simp only [E.or, Option.bind_eq_some_iff] at ev
  obtain ⟨⟨k1, p1⟩, e1, e2⟩ := ev
  refine ⟨F, pa, e, .d (.bool k1), p1, R, by simp only [E.ofB, e1, Option.map_some], fun v F1 H1 P1 rr rp1 => ?_⟩
  cases rr
  refine ⟨k1, rfl, ?_⟩
  simp only at e2
  split
  · rename_i hk
    rw [if_pos hk] at e2
    cases e2
    exact hk ▸ q F1 H1 P1 rp1
  · rename_i hk
    rw [if_neg hk] at e2
    refine ⟨F1, pa, _, .d (.bool k), p, R.post P1 rp1, by simp only [E.ofB, e2, Option.map_some], fun v2 F2 H2 P2 rr2 rp2 => ?_⟩
    cases rr2
    exact q F2 H2 (P1.trans P2) rp2
theorem de_not (h : DE X a (E.ofB B)) : DE X (.UnaryOp .Not a pos) (E.ofB (E.not B)) := by
  refine pe_imp (pe_not h) fun σ H Q w => ?_
  obtain ⟨F, pa, e, k, p, R, ev, q⟩ := trE_ofB w
  simp only [E.not, Option.map_eq_some_iff] at ev
  obtain ⟨⟨k1, p1⟩, e1, e2⟩ := ev
  obtain ⟨rfl, rfl⟩ := Prod.mk.inj e2
  refine ⟨F, pa, e, .d (.bool k1), p1, R, by simp only [E.ofB, e1, Option.map_some], fun v F1 H1 P1 rr rp1 => ?_⟩
  cases rr
  exact ⟨k1, rfl, q F1 H1 P1 rp1⟩
/-- an expression that gives a bool, said as one -/
theorem de_b (h : DE X a f) : DE X a (E.ofB (E.toB f)) := by
  refine pe_imp h fun σ H Q w => ?_
  have w2 := trB_toB (trE_ofB w)
  obtain ⟨F, pa, e, r, p, R, ev, q⟩ := w2
  refine ⟨F, pa, e, r, p, R, ev, fun v F' H' P rr rp => ?_⟩
  obtain ⟨k, rfl, z⟩ := q v F' H' P rr rp
  exact z
theorem de_ite (hc : DB X c B) (ha : DE X a f) (hb : DE X b g) : DE X (.IfExp c a b pos) (E.ite B f g) := by
  refine pe_imp (pe_ifExp hc ha hb) fun σ H Q w => ?_
  obtain ⟨F, pa, e, r, p, R, ev, q⟩ := w
  simp only [E.ite, Option.bind_eq_some_iff] at ev
  obtain ⟨⟨k1, p1⟩, e1, e2⟩ := ev
  refine ⟨F, pa, e, k1, p1, R, e1, fun F1 H1 P1 rp1 => ?_⟩
  simp only at e2
  split
  · rename_i hk
    rw [if_pos hk] at e2
    exact ⟨F1, pa, _, r, p, R.post P1 rp1, e2, fun v F2 H2 P2 rr rp2 => q v F2 H2 (P1.trans P2) (rr.back P1) rp2⟩
  · rename_i hk
    rw [if_neg hk] at e2
    exact ⟨F1, pa, _, r, p, R.post P1 rp1, e2, fun v F2 H2 P2 rr rp2 => q v F2 H2 (P1.trans P2) (rr.back P1) rp2⟩
end
end Dg

/-! deedsagain: operations by data. -/
namespace Dg
open PySem PySem.Spec L2

theorem OpR.imp {X : Cx} {f : Value → Value → Sem Value} {r r' : R2} (h : OpR X f r) (i : ∀ x y H Q, r' x y H Q → r x y H Q) : OpR X f r' :=
  fun pins s σ H x y v u Q I rx ry q => h pins s σ H x y v u Q I rx ry (i _ _ _ _ q)
theorem CallR.imp {X : Cx} {f : Value} {r r' : List V → Hp → VK → Prop} (h : CallR X f r) (i : ∀ xs H Q, r' xs H Q → r xs H Q) : CallR X f r' :=
  fun pins s σ H xs us Q I rs q => h pins s σ H xs us Q I rs (i _ _ _ q)
/-- may g take the stack: deep enough a room -/
abbrev Dp64 (n : Nat) : Bool := decide (n ≤ 60)

/-! ### what is computed -/
def gEq (a b : D) : Option RV := if Dp64 (min a.depth b.depth) = true then some (.d (.bool (PyData.eqv a b))) else none
def gNe (a b : D) : Option RV := if Dp64 (min a.depth b.depth) = true then some (.d (.bool (!PyData.eqv a b))) else none
def gI (f : Int → Int → D) : D → D → Option RV
  | .int i, .int j => some (.d (f i j))
  | _, _ => none
def gLt := gI fun i j => .bool (decide (i < j))
def gLe := gI fun i j => .bool (decide (i ≤ j))
def gGt := gI fun i j => .bool (decide (i > j))
def gGe := gI fun i j => .bool (decide (i ≥ j))
def gSub := gI fun i j => .int (i - j)
def gMul : D → D → Option RV
  | .int i, .int j => if (-(2 ^ 64) < i ∧ i < 2 ^ 64) ∨ (-(2 ^ 64) < j ∧ j < 2 ^ 64) then some (.d (.int (i * j))) else none
  | _, _ => none
def gDiv : D → D → Option RV
  | .int i, .int j => if 0 < j ∧ j < 1073741824 then some (.d (.int (i / j))) else none
  | _, _ => none
def gMod : D → D → Option RV
  | .int i, .int j => if 0 < j then some (.d (.int (i % j))) else none
  | _, _ => none
def gAdd : D → D → Option RV
  | .int i, .int j => some (.d (.int (i + j)))
  | .str i, .str j => if i.length + j.length ≤ sizeLine then some (.d (.str (i ++ j))) else none
  | .tuple xs, .tuple ys => if xs.length + ys.length ≤ sizeLine then some (.d (.tuple (xs ++ ys))) else none
  | .list xs, .list ys => if xs.length + ys.length ≤ sizeLine then some (.l (xs ++ ys)) else none
  | _, _ => none
def anyEq (x : D) (ys : List D) : Bool := ys.any fun y => PyData.eqv y x
def gIn : D → D → Option RV
  | x, .list ys => if Dp64 (min (PyData.depthAll ys) x.depth) = true then some (.d (.bool (anyEq x ys))) else none
  | x, .tuple ys => if Dp64 (min (PyData.depthAll ys) x.depth) = true then some (.d (.bool (anyEq x ys))) else none
  | _, _ => none
def gNotIn : D → D → Option RV
  | x, .list ys => if Dp64 (min (PyData.depthAll ys) x.depth) = true then some (.d (.bool (!anyEq x ys))) else none
  | x, .tuple ys => if Dp64 (min (PyData.depthAll ys) x.depth) = true then some (.d (.bool (!anyEq x ys))) else none
  | _, _ => none
def isNon : D → Bool
  | .none => true
  | _ => false
def gIs : D → D → Option RV
  | x, .none => some (.d (.bool (isNon x)))
  | _, _ => none
def gIsNot : D → D → Option RV
  | x, .none => some (.d (.bool (!isNon x)))
  | _, _ => none
def gIx : D → D → Option RV
  | .list xs, .int i => (atI xs i).map .d
  | .tuple xs, .int i => (atI xs i).map .d
  | .str x, .int i => if x.length ≤ sizeLine then (atI x.cps.toList i).map fun c => .d (.str ⟨#[c]⟩) else none
  | _, _ => none
def cutA {α : Type} (xs : List α) (lo hi : Option Int) : List α := (xs.drop (HT.sIx xs.length 0 lo)).take (HT.sIx xs.length xs.length hi - HT.sIx xs.length 0 lo)
def gNeg : D → Option RV
  | .int i => some (.d (.int (-i)))
  | _ => none
def gLen : D → Option RV
  | .list xs => some (.d (.int xs.length))
  | .tuple xs => some (.d (.int xs.length))
  | .str x => if x.length ≤ sizeLine then some (.d (.int x.length)) else none
  | _ => none
def gList : D → Option RV
  | .list xs => some (.l xs)
  | .tuple xs => some (.l xs)
  | _ => none
def gTuple : D → Option RV
  | .list xs => some (.d (.tuple xs))
  | .tuple xs => some (.d (.tuple xs))
  | _ => none
def gInt : D → Option RV
  | .int i => some (.d (.int i))
  | .bool b => some (.d (.int (if b then 1 else 0)))
  | _ => none
def boolsOf : List D → Option (List Bool)
  | [] => some []
  | .bool b :: r => (boolsOf r).map (b :: ·)
  | _ :: _ => none
def intsOf : List D → Option (List Int)
  | [] => some []
  | .int i :: r => (intsOf r).map (i :: ·)
  | _ :: _ => none
def gAll : D → Option RV
  | .list xs => (boolsOf xs).map fun bs => .d (.bool (bs.all id))
  | _ => none
def gAny : D → Option RV
  | .list xs => (boolsOf xs).map fun bs => .d (.bool (bs.any id))
  | _ => none
def gSum : D → Option RV
  | .list xs => (intsOf xs).map fun ns => .d (.int ns.sum)
  | _ => none
/-- isinstance(x, T) -/
def isT (T : String) : D → Option Bool
  | .none => kitB "NoneType" T
  | .bool _ => kitB "bool" T
  | .int _ => kitB "int" T
  | .str _ => kitB "str" T
  | .list _ => kitB "list" T
  | .tuple _ => kitB "tuple" T
  | .dict _ => none
def gIsT (T : String) (x : D) : Option RV := (isT T x).map fun b => .d (.bool b)

theorem intsOf_some : ∀ {xs : List D} {ns : List Int}, intsOf xs = some ns → xs = ns.map .int
  | [], _, h => by cases h; rfl
  | .int i :: r, _, h => by
    simp only [intsOf, Option.map_eq_some_iff] at h
    obtain ⟨ns, h1, rfl⟩ := h
    rw [List.map_cons, ← intsOf_some h1]
  | .none :: _, _, h => by cases h
  | .bool _ :: _, _, h => by cases h
  | .str _ :: _, _, h => by cases h
  | .list _ :: _, _, h => by cases h
  | .tuple _ :: _, _, h => by cases h
  | .dict _ :: _, _, h => by cases h
theorem boolsOf_some : ∀ {xs : List D} {ns : List Bool}, boolsOf xs = some ns → xs = ns.map .bool
  | [], _, h => by cases h; rfl
  | .bool i :: r, _, h => by
    simp only [boolsOf, Option.map_eq_some_iff] at h
    obtain ⟨ns, h1, rfl⟩ := h
    rw [List.map_cons, ← boolsOf_some h1]
  | .none :: _, _, h => by cases h
  | .int _ :: _, _, h => by cases h
  | .str _ :: _, _, h => by cases h
  | .list _ :: _, _, h => by cases h
  | .tuple _ :: _, _, h => by cases h
  | .dict _ :: _, _, h => by cases h
theorem intsOf_map (ns : List Int) : intsOf (ns.map .int) = some ns := by
  induction ns with
  | nil => rfl
  | cons n r ih => simp only [List.map_cons, intsOf, ih, Option.map_some]
theorem boolsOf_map (ns : List Bool) : boolsOf (ns.map .bool) = some ns := by
  induction ns with
  | nil => rfl
  | cons n r ih => simp only [List.map_cons, boolsOf, ih, Option.map_some]
section
variable {K : PySem.W.Frag} {F : Addr → Prop} {H : Hp}
theorem RpAll.ints : ∀ {vs : List V} {ns : List Int}, RpAll K F H vs (ns.map .int) → vs = ns.map .int
  | [], [], _ => rfl
  | [], _ :: _, h => by cases h
  | _ :: _, [], h => by cases h
  | _ :: _, _ :: _, h => by
    cases h with
    | cons a b => cases a; rw [List.map_cons, RpAll.ints b]
theorem RpAll.bools : ∀ {vs : List V} {ns : List Bool}, RpAll K F H vs (ns.map .bool) → vs = ns.map .bl
  | [], [], _ => rfl
  | [], _ :: _, h => by cases h
  | _ :: _, [], h => by cases h
  | _ :: _, _ :: _, h => by
    cases h with
    | cons a b => cases a; rw [List.map_cons, RpAll.bools b]
theorem RpAll.ofInts : ∀ (ns : List Int), RpAll K F H (ns.map .int) (ns.map .int)
  | [] => .nil
  | n :: r => .cons (.int n) (RpAll.ofInts r)
theorem RpAll.atI {vs : List V} {ds : List D} {i : Int} {d : D} (h : RpAll K F H vs ds) (e : L2.atI ds i = some d) : ∃ v, L2.atI vs i = some v ∧ Rp K F H v d := by
  unfold L2.atI at e ⊢
  rw [h.length]
  cases q : ixN ds.length i with
  | none => rw [q] at e; cases e
  | some j =>
    rw [q] at e
    exact h.get e
theorem RpAll.cut {vs : List V} {ds : List D} (lo hi : Option Int) (h : RpAll K F H vs ds) : RpAll K F H (cutA vs lo hi) (cutA ds lo hi) := by
  unfold cutA
  rw [h.length]
  exact (h.drop _).take _
end

/-! ### rules -/
section
variable {X : Cx}
theorem op_eq_d (hu : X.A.units + 64 < cLine) : OpR X (compareOp .Eq) (rD X.K gEq) := by
  intro pins s σ H x y v u Q I rx ry h
  obtain ⟨F, pa, a, b, r, fo, ha, hb, hg, q⟩ := h
  unfold gEq at hg
  split at hg
  · rename_i hd
    cases hg
    obtain ⟨as, r1⟩ := Dp.reads I a x v ha.dp rx
    obtain ⟨bs, r2⟩ := Dp.reads I b y u hb.dp ry
    have hd := of_decide_eq_true hd
    exact PySem.SeqAt.eq_plain r1 r2 ha.plain hb.plain (by omega) ⟨.bl _, H, I, rfl, q _ F H .refl (.bl _)⟩
  · cases hg
theorem op_ne_d (hu : X.A.units + 64 < cLine) : OpR X (compareOp .NotEq) (rD X.K gNe) := by
  intro pins s σ H x y v u Q I rx ry h
  obtain ⟨F, pa, a, b, r, fo, ha, hb, hg, q⟩ := h
  unfold gNe at hg
  split at hg
  · rename_i hd
    cases hg
    obtain ⟨as, r1⟩ := Dp.reads I a x v ha.dp rx
    obtain ⟨bs, r2⟩ := Dp.reads I b y u hb.dp ry
    have hd := of_decide_eq_true hd
    exact PySem.SeqAt.ne_plain r1 r2 ha.plain hb.plain (by omega) ⟨.bl _, H, I, rfl, q _ F H .refl (.bl _)⟩
  · cases hg
theorem op_in_d (hu : X.A.units + 64 < cLine) : OpR X (compareOp .In) (rD X.K gIn) := by
  intro pins s σ H x y v u Q I rx ry h
  obtain ⟨F, pa, a, b, r, fo, ha, hb, hg, q⟩ := h
  obtain ⟨as, r1⟩ := Dp.reads I a x v ha.dp rx
  obtain ⟨bs, r2⟩ := Dp.reads I b y u hb.dp ry
  unfold gIn at hg
  split at hg <;> first | (cases hg; done) | skip
  · split at hg
    · rename_i ys hd
      cases hg
      have hd := of_decide_eq_true hd
      have pl := hb.plain
      rw [PyData.plain] at pl
      exact PySem.SeqAt.in_list_data r2 r1 pl ha.plain (by omega) ⟨.bl _, H, I, rfl, q _ F H .refl (.bl _)⟩
    · cases hg
  · split at hg
    · rename_i ys hd
      cases hg
      have hd := of_decide_eq_true hd
      have pl := hb.plain
      rw [PyData.plain] at pl
      exact PySem.SeqAt.in_tuple_data r2 r1 pl ha.plain (by omega) ⟨.bl _, H, I, rfl, q _ F H .refl (.bl _)⟩
    · cases hg
theorem op_notIn_d (hu : X.A.units + 64 < cLine) : OpR X (compareOp .NotIn) (rD X.K gNotIn) := by
  intro pins s σ H x y v u Q I rx ry h
  obtain ⟨F, pa, a, b, r, fo, ha, hb, hg, q⟩ := h
  obtain ⟨as, r1⟩ := Dp.reads I a x v ha.dp rx
  obtain ⟨bs, r2⟩ := Dp.reads I b y u hb.dp ry
  unfold gNotIn at hg
  split at hg <;> first | (cases hg; done) | skip
  · split at hg
    · rename_i ys hd
      cases hg
      have hd := of_decide_eq_true hd
      have pl := hb.plain
      rw [PyData.plain] at pl
      exact PySem.SeqAt.notIn_list_data r2 r1 pl ha.plain (by omega) ⟨.bl _, H, I, rfl, q _ F H .refl (.bl _)⟩
    · cases hg
  · split at hg
    · rename_i ys hd
      cases hg
      have hd := of_decide_eq_true hd
      have pl := hb.plain
      rw [PyData.plain] at pl
      exact PySem.SeqAt.notIn_tuple_data r2 r1 pl ha.plain (by omega) ⟨.bl _, H, I, rfl, q _ F H .refl (.bl _)⟩
    · cases hg
/-- two ints -/
theorem gI_some {f : Int → Int → D} {a b : D} {r : RV} (h : gI f a b = some r) : ∃ i j, a = .int i ∧ b = .int j ∧ r = .d (f i j) := by
  unfold gI at h
  split at h
  · cases h; exact ⟨_, _, rfl, rfl, rfl⟩
  · cases h
theorem op_I {op : Value → Value → Sem Value} {fb : Int → Int → V} {f : Int → Int → D} (ho : OpR X op (rI0 fb)) (hf : ∀ K F H i j, Rp K F H (fb i j) (f i j)) : OpR X op (rD X.K (gI f)) :=
  OpR.imp ho fun x y H Q h => by
    obtain ⟨F, pa, a, b, r, fo, ha, hb, hg, q⟩ := h
    obtain ⟨i, j, rfl, rfl, rfl⟩ := gI_some hg
    exact ⟨i, j, ha.int, hb.int, q _ F H .refl (hf _ _ _ _ _)⟩
theorem op_lt_d : OpR X (compareOp .Lt) (rD X.K gLt) := op_I op_lt fun _ _ _ _ _ => .bl _
theorem op_le_d : OpR X (compareOp .LtE) (rD X.K gLe) := op_I op_le fun _ _ _ _ _ => .bl _
theorem op_gt_d : OpR X (compareOp .Gt) (rD X.K gGt) := op_I op_gt fun _ _ _ _ _ => .bl _
theorem op_ge_d : OpR X (compareOp .GtE) (rD X.K gGe) := op_I op_ge fun _ _ _ _ _ => .bl _
theorem op_sub_d : OpR X (binaryOp .Sub) (rD X.K gSub) := op_I op_sub fun _ _ _ _ _ => .int _
theorem iop_sub_d : OpR X (inplaceOp .Sub) (rD X.K gSub) := op_I iop_sub fun _ _ _ _ _ => .int _
theorem op_mul_d : OpR X (binaryOp .Mult) (rD X.K gMul) := OpR.imp op_mul fun x y H Q h => by
  obtain ⟨F, pa, a, b, r, fo, ha, hb, hg, q⟩ := h
  unfold gMul at hg
  split at hg
  · split at hg
    · rename_i i j hc
      cases hg
      exact ⟨i, j, ha.int, hb.int, hc, q _ F H .refl (.int _)⟩
    · cases hg
  · cases hg
theorem op_div_d : OpR X (binaryOp .FloorDiv) (rD X.K gDiv) := OpR.imp op_fdiv fun x y H Q h => by
  obtain ⟨F, pa, a, b, r, fo, ha, hb, hg, q⟩ := h
  unfold gDiv at hg
  split at hg
  · split at hg
    · rename_i i j hc
      cases hg
      exact ⟨i, j, ha.int, hb.int, hc, q _ F H .refl (.int _)⟩
    · cases hg
  · cases hg
theorem op_mod_d : OpR X (binaryOp .Mod) (rD X.K gMod) := OpR.imp op_mod fun x y H Q h => by
  obtain ⟨F, pa, a, b, r, fo, ha, hb, hg, q⟩ := h
  unfold gMod at hg
  split at hg
  · split at hg
    · rename_i i j hc
      cases hg
      exact ⟨i, j, ha.int, hb.int, hc, q _ F H .refl (.int _)⟩
    · cases hg
  · cases hg
theorem op_is_d : OpR X (compareOp .Is) (rD X.K gIs) := OpR.imp op_isN fun x y H Q h => by
  obtain ⟨F, pa, a, b, r, fo, ha, hb, hg, q⟩ := h
  unfold gIs at hg
  split at hg
  · cases hg
    refine ⟨hb.non, ?_⟩
    rw [ha.none_iff]
    exact q _ F H .refl (by cases a <;> exact .bl _)
  · cases hg
theorem op_isNot_d : OpR X (compareOp .IsNot) (rD X.K gIsNot) := OpR.imp op_notN fun x y H Q h => by
  obtain ⟨F, pa, a, b, r, fo, ha, hb, hg, q⟩ := h
  unfold gIsNot at hg
  split at hg
  · cases hg
    refine ⟨hb.non, ?_⟩
    rw [ha.none_iff]
    exact q _ F H .refl (by cases a <;> exact .bl _)
  · cases hg
/-- a new tuple, a new list -/
theorem new_tup {K : PySem.W.Frag} {F : Addr → Prop} {H : Hp} {p : Addr} {vs : List V} {ds : List D} {Q : VK} (hp : H p = none) (r : RpAll K F H vs ds) (q : ∀ v F' H', Post F none H F' H' → RepR K F' H H' v (.d (.tuple ds)) → Q v H') : Q (.ref p) (upd H p (.tup vs)) :=
  q _ F _ (.new hp) (.tup upd_same (r.post (.new hp) okN))
theorem new_lst {K : PySem.W.Frag} {F : Addr → Prop} {H : Hp} {p : Addr} {vs : List V} {ds : List D} {Q : VK} (fo : ∀ a, F a → H a ≠ none) (hp : H p = none) (r : RpAll K F H vs ds) (q : ∀ v F' H', Post F none H F' H' → RepR K F' H H' v (.l ds) → Q v H') : Q (.ref p) (upd H p (.lst vs)) :=
  q _ F _ (.new hp) ⟨p, vs, rfl, hp, fun z => fo p z hp, upd_same, r.post (.new hp) okN⟩
theorem op_add_d : OpR X (binaryOp .Add) (rD X.K gAdd) := by
  intro pins s σ H x y v u Q I rx ry h
  obtain ⟨F, pa, a, b, r, fo, ha, hb, hg, q⟩ := h
  unfold gAdd at hg
  split at hg <;> first | (cases hg; done) | skip
  · cases hg
    exact op_add pins s σ H x y v u Q I rx ry ⟨_, _, ha.int, hb.int, q _ F H .refl (.int _)⟩
  · split at hg
    · cases hg
      exact op_add_str pins s σ H x y v u Q I rx ry ⟨_, _, ha.str, hb.str, by assumption, q _ F H .refl (.str _)⟩
    · cases hg
  · split at hg
    · rename_i xs ys hz
      cases hg
      obtain ⟨p1, vs, rfl, s1, e1⟩ := ha.tupH
      obtain ⟨p2, us, rfl, s2, e2⟩ := hb.tupH
      have l1 := e1.length
      have l2 := e2.length
      refine op_catA pins s σ H _ _ v u Q I rx ry ⟨p1, p2, vs, us, rfl, rfl, SqT.of s1, SqT.of s2, by omega, fun z => ?_, fun z z2 => ?_, fun _ _ p hp => new_tup hp (e1.append e2) q⟩
      · subst z
        cases e1
        exact q _ F H .refl (.tup s2 e2)
      · subst z2
        cases e2
        rw [List.append_nil] at q
        exact q _ F H .refl (.tup s1 e1)
    · cases hg
  · split at hg
    · rename_i xs ys hz
      cases hg
      obtain ⟨p1, vs, rfl, s1, e1⟩ := ha.listH
      obtain ⟨p2, us, rfl, s2, e2⟩ := hb.listH
      have l1 := e1.length
      have l2 := e2.length
      exact op_cat pins s σ H _ _ v u Q I rx ry ⟨p1, p2, vs, us, rfl, rfl, s1, s2, by omega, fun p hp => new_lst fo hp (e1.append e2) q⟩
    · cases hg
theorem ix_d : IxR X (rD X.K gIx) := by
  intro va sl pins s σ H x y v u Q I rx ry h hsub
  obtain ⟨F, pa, a, b, r, fo, ha, hb, hg, q⟩ := h
  unfold gIx at hg
  split at hg <;> first | (cases hg; done) | skip
  · simp only [Option.map_eq_some_iff] at hg
    obtain ⟨d, e, rfl⟩ := hg
    obtain ⟨p1, vs, rfl, s1, e1⟩ := ha.list
    obtain ⟨w, e2, e3⟩ := e1.atI e
    exact ix_list va sl pins s σ H _ _ v u Q I rx ry ⟨p1, vs, _, w, rfl, hb.int, s1, e2, q _ F H .refl e3⟩ hsub
  · simp only [Option.map_eq_some_iff] at hg
    obtain ⟨d, e, rfl⟩ := hg
    obtain ⟨p1, vs, rfl, s1, e1⟩ := ha.tup
    obtain ⟨w, e2, e3⟩ := e1.atI e
    exact ix_tup va sl pins s σ H _ _ v u Q I rx ry ⟨p1, vs, _, w, rfl, hb.int, s1, e2, q _ F H .refl e3⟩ hsub
  · split at hg
    · simp only [Option.map_eq_some_iff] at hg
      obtain ⟨c, e, rfl⟩ := hg
      exact ix_str va sl pins s σ H _ _ v u Q I rx ry ⟨_, _, c, ha.str, hb.int, by assumption, e, q _ F H .refl (.str _)⟩ hsub
    · cases hg

/-! ### calls of built-ins of one argument -/
def rD1 (K : PySem.W.Frag) (g : D → Option RV) : List V → Hp → VK → Prop := fun vs H Q => ∃ F pa x a r, vs = [x] ∧ (∀ a, F a → H a ≠ none) ∧ Rd K F pa H x a ∧ g a = some r ∧
  ∀ v F' H', Post F none H F' H' → RepR K F' H H' v r → Q v H'
theorem cl_len : CallR X (.builtin "len") (rD1 X.K gLen) := by
  intro pins s σ H xs us Q I rs h
  obtain ⟨F, pa, x, a, r, rfl, fo, ha, hg, q⟩ := h
  unfold gLen at hg
  split at hg <;> first | (cases hg; done) | skip
  · cases hg
    obtain ⟨p1, vs, rfl, s1, e1⟩ := ha.list
    exact call_len_seq pins s σ H _ us Q I rs ⟨p1, vs, rfl, .inl s1, by rw [e1.length]; exact q _ F H .refl (.int _)⟩
  · cases hg
    obtain ⟨p1, vs, rfl, s1, e1⟩ := ha.tup
    exact call_len_seq pins s σ H _ us Q I rs ⟨p1, vs, rfl, .inr s1, by rw [e1.length]; exact q _ F H .refl (.int _)⟩
  · split at hg
    · cases hg
      exact call_len_str pins s σ H _ us Q I rs ⟨_, by rw [ha.str], by assumption, q _ F H .refl (.int _)⟩
    · cases hg
theorem cl_list : CallR X (.type "list") (rD1 X.K gList) := by
  intro pins s σ H xs us Q I rs h
  obtain ⟨F, pa, x, a, r, rfl, fo, ha, hg, q⟩ := h
  unfold gList at hg
  split at hg <;> first | (cases hg; done) | skip
  · cases hg
    obtain ⟨p1, vs, rfl, s1, e1⟩ := ha.list
    exact call_list_of pins s σ H _ us Q I rs ⟨p1, vs, rfl, .inl s1, fun l hl => new_lst fo hl e1 q⟩
  · cases hg
    obtain ⟨p1, vs, rfl, s1, e1⟩ := ha.tup
    exact call_list_of pins s σ H _ us Q I rs ⟨p1, vs, rfl, .inr s1, fun l hl => new_lst fo hl e1 q⟩
theorem cl_tuple : CallR X (.type "tuple") (rD1 X.K gTuple) := by
  intro pins s σ H xs us Q I rs h
  obtain ⟨F, pa, x, a, r, rfl, fo, ha, hg, q⟩ := h
  unfold gTuple at hg
  split at hg <;> first | (cases hg; done) | skip
  · cases hg
    obtain ⟨p1, vs, rfl, s1, e1⟩ := ha.list
    exact call_tuple_of pins s σ H _ us Q I rs ⟨p1, vs, rfl, .inl ⟨s1, fun l hl => new_tup hl e1 q⟩⟩
  · cases hg
    obtain ⟨p1, vs, rfl, s1, e1⟩ := ha.tupH
    exact call_tuple_of pins s σ H _ us Q I rs ⟨p1, vs, rfl, .inr ⟨SqT.of s1, q _ F H .refl (.tup s1 e1)⟩⟩
theorem cl_int : CallR X (.type "int") (rD1 X.K gInt) := CallR.imp call_int1 fun xs H Q h => by
  obtain ⟨F, pa, x, a, r, rfl, fo, ha, hg, q⟩ := h
  unfold gInt at hg
  split at hg <;> first | (cases hg; done) | skip
  · cases hg
    exact .inl ⟨_, by rw [ha.int], q _ F H .refl (.int _)⟩
  · cases hg
    exact .inr ⟨_, by rw [ha.bl], q _ F H .refl (.int _)⟩
theorem cl_all (hc : X.calm = true) : CallR X (.builtin "all") (rD1 X.K gAll) := CallR.imp (cr_all hc) fun xs H Q h => by
  obtain ⟨F, pa, x, a, r, rfl, fo, ha, hg, q⟩ := h
  unfold gAll at hg
  split at hg <;> first | (cases hg; done) | skip
  simp only [Option.map_eq_some_iff] at hg
  obtain ⟨bs, e, rfl⟩ := hg
  obtain ⟨p1, vs, rfl, s1, e1⟩ := ha.list
  rw [boolsOf_some e] at e1
  rw [e1.bools] at s1
  exact ⟨p1, bs, rfl, s1, q _ F H .refl (.bl _)⟩
theorem cl_any (hc : X.calm = true) : CallR X (.builtin "any") (rD1 X.K gAny) := CallR.imp (cr_any hc) fun xs H Q h => by
  obtain ⟨F, pa, x, a, r, rfl, fo, ha, hg, q⟩ := h
  unfold gAny at hg
  split at hg <;> first | (cases hg; done) | skip
  simp only [Option.map_eq_some_iff] at hg
  obtain ⟨bs, e, rfl⟩ := hg
  obtain ⟨p1, vs, rfl, s1, e1⟩ := ha.list
  rw [boolsOf_some e] at e1
  rw [e1.bools] at s1
  exact ⟨p1, bs, rfl, s1, q _ F H .refl (.bl _)⟩
theorem cl_sum (hc : X.calm = true) : CallR X (.builtin "sum") (rD1 X.K gSum) := CallR.imp (cr_sum hc) fun xs H Q h => by
  obtain ⟨F, pa, x, a, r, rfl, fo, ha, hg, q⟩ := h
  unfold gSum at hg
  split at hg <;> first | (cases hg; done) | skip
  simp only [Option.map_eq_some_iff] at hg
  obtain ⟨bs, e, rfl⟩ := hg
  obtain ⟨p1, vs, rfl, s1, e1⟩ := ha.list
  rw [intsOf_some e] at e1
  rw [e1.ints] at s1
  exact ⟨p1, bs, rfl, s1, q _ F H .refl (.int _)⟩

/-! ### the type of data -/
def tyD : D → String
  | .none => "NoneType"
  | .bool _ => "bool"
  | .int _ => "int"
  | .str _ => "str"
  | .list _ => "list"
  | .tuple _ => "tuple"
  | .dict _ => "dict"
theorem kit_read {pins : List (Addr × Obj)} {σ : St} {H : Hp} {s : Shared} {x : V} {u : Value} {d : D} {as : List Addr} (r : Reads s.heap u d as) (pl : d.plain = true) :
    ∃ P : Heap → Prop, PySem.W.KitX X.K u (.type (tyD d)) P ∧ P s.heap ∧ u ≠ .builtin "__main__.__loader__#opaque" := by
  cases r with
  | none => exact ⟨_, PySem.W.kitx_none, trivial, fun z => nomatch z⟩
  | bool b => exact ⟨_, PySem.W.kitx_bool, trivial, fun z => nomatch z⟩
  | int i t => exact ⟨_, PySem.W.kitx_int, trivial, fun z => nomatch z⟩
  | str x t => exact ⟨_, PySem.W.kitx_str, trivial, fun z => nomatch z⟩
  | list h1 h2 _ _ => exact ⟨_, PySem.W.kitx_list, ⟨_, h1, h2⟩, fun z => nomatch z⟩
  | tuple h1 h2 _ _ => exact ⟨_, PySem.W.kitx_tuple, ⟨_, h1, h2⟩, fun z => nomatch z⟩
  | dict => cases pl
/-- isinstance(x, T) -/
def rIsD (K : PySem.W.Frag) (T : String) : List V → Hp → VK → Prop := fun vs H Q => ∃ F pa x a b, vs = [x, .ty T] ∧ Rd K F pa H x a ∧ isT T a = some b ∧ Q (.bl b) H
theorem cl_isi {T : String} : CallR X (.builtin "isinstance") (rIsD X.K T) := by
  intro pins s σ H xs us Q I rs h
  obtain ⟨F, pa, x, a, b, rfl, ha, hg, q⟩ := h
  obtain ⟨u1, u2, rfl, r1, r2⟩ := vals2 rs
  cases (show u2 = Value.type T from r2)
  obtain ⟨as, rr⟩ := Dp.reads I a x u1 ha.dp r1
  obtain ⟨P, Z, p, hx⟩ := kit_read (X := X) (pins := pins) (σ := σ) (H := H) (x := x) rr ha.plain
  have e : PySem.W.kitOne X.K (.type (tyD a)) (.type T) = some b := by
    refine kit_ty ?_
    cases a <;> first | exact hg | (cases hg; done)
  exact PySem.W.kia_one Z I.kIn p e hx fun tk => ⟨.bl b, H, I.tok tk, rfl, q⟩
end
end Dg

/-! deedsagain: subscripts, slices, calls, comprehensions. -/
namespace Dg
open PySem PySem.Spec L2

abbrev MF := List D → Pl → Option (RV × Pl)
abbrev OF := Ev → Option (Option Int × Pl)
abbrev IF := Ev → Option (List D × Pl)
abbrev TF := D → List Sl → Option (List Sl)
namespace E
def px (i k : Nat) : EF := fun e => match e.r[i]?, e.p with
  | some .pool, some xs => (xs[k]?).map fun d => (.d d, e.p)
  | _, _ => none
def oN : OF := fun e => some (none, e.p)
def oS (f : EF) : OF := fun e => (f e).bind fun a => match a.1 with
  | .d (.int i) => some (some i, a.2)
  | _ => none
def gSl : D → Option Int → Option Int → Option RV
  | .list xs, lo, hi => some (.l (cutA xs lo hi))
  | .tuple xs, lo, hi => some (.d (.tuple (cutA xs lo hi)))
  | .str x, lo, hi => if x.length ≤ sizeLine then some (.d (.str (cutS x lo hi))) else none
  | _, _, _ => none
def sl (f : RF) (lo hi : OF) : EF := fun e => (f e).bind fun x => (lo (e.at x.2)).bind fun l => (hi (e.at l.2)).bind fun h => (gSl x.1 l.1 h.1).map fun r => (r, h.2)
def isi (T : String) (f : RF) : EF := un (gIsT T) f
/-- f(..), no pool handed over -/
def call (m : MF) (f : AF) : EF := fun e => (f e).bind fun a => (m a.1 none).map fun r => (r.1, a.2)
/-- f(pool, ..), the pool in slot i -/
def callP (i : Nat) (m : MF) (f : AF) : EF := fun e => match e.r[i]? with
  | some .pool => (f e).bind fun a => if a.2.isSome then m a.1 a.2 else none
  | _ => none
/-- a op b op' c -/
def chain (g g' : D → D → Option RV) (a b c : RF) : EF := fun e => (a e).bind fun x => (b (e.at x.2)).bind fun y => (g x.1 y.1).bind fun k => match k with
  | .d (.bool true) => (c (e.at y.2)).bind fun z => (g' y.1 z.1).map fun r => (r, z.2)
  | .d (.bool false) => some (.d (.bool false), y.2)
  | _ => none
/-- the items of what is walked -/
def iL (f : EF) : IF := fun e => (f e).bind fun a => match toD a.1 with
  | some (.list ds) => some (ds, a.2)
  | _ => none
def iT (f : EF) : IF := fun e => (f e).bind fun a => match toD a.1 with
  | some (.tuple ds) => some (ds, a.2)
  | _ => none
def rangeD (a : Int) (n : Nat) (c : Int) : List D := (List.range n).map fun (i : Nat) => .int (a + (i : Int) * c)
def small62 (i : Int) : Prop := -(2 ^ 62) ≤ i ∧ i < 2 ^ 62
instance (i : Int) : Decidable (small62 i) := inferInstanceAs (Decidable (_ ∧ _))
def iR1 (f : AF) : IF := fun e => (f e).bind fun a => match a.1 with
  | [.int j] => if small62 j then some (rangeD 0 j.toNat 1, a.2) else none
  | _ => none
def iR2 (f : AF) : IF := fun e => (f e).bind fun a => match a.1 with
  | [.int i, .int j] => if small62 i ∧ small62 j then some (rangeD i (j - i).toNat 1, a.2) else none
  | _ => none
/-- a target: one name; several -/
def tN (i : Nat) : TF := fun d r => some (r.set i (.d d))
def tT (is : List Nat) : TF := fun d r => match d with
  | .tuple ds => if ds.length = is.length then some ((is.zip ds).foldl (fun r q => r.set q.1 (.d q.2)) r) else none
  | _ => none
def wipeS (r : List Sl) : List Nat → List Sl
  | [] => r
  | v :: vs => (wipeS r vs).set v .un
def yes : BF := fun e => some (true, e.p)
def lcL (t : TF) (c : BF) (f : EF) (r : List Sl) : List D → Pl → List D → Option (List D × Pl)
  | [], p, acc => some (acc, p)
  | d :: ds, p, acc => (t d r).bind fun r1 => (c ⟨r1, p⟩).bind fun k =>
      if k.1 = true then (f ⟨r1, k.2⟩).bind fun a => (toD a.1).bind fun x => lcL t c f r ds a.2 (acc ++ [x]) else lcL t c f r ds k.2 acc
def lc (own : List Nat) (it : IF) (t : TF) (c : BF) (f : EF) : EF := fun e => (it e).bind fun a =>
  if a.1.length ≤ sizeLine then (lcL t c f (wipeS e.r own) a.1 a.2 []).map fun b => (.l b.1, b.2) else none
/-- list(range(n)) -/
def lR (f : EF) : EF := fun e => (f e).bind fun a => match a.1 with
  | .d (.int j) => if 0 ≤ j ∧ j ≤ 16777216 then some (.l (rangeD 0 j.toNat 1), a.2) else none
  | _ => none
end E

section
variable {X : Cx} {e a b c : Expr} {es rest : List Expr} {f g h : EF} {fa fb fc : RF} {fA : AF} {B B' : BF} {pos : Pos}
theorem de_ix (ha : DR X a fa) (hb : DR X b fb) (hs : PlainIx b := by exact fun _ _ => rfl) : DE X (.Subscript a b pos) (E.op gIx fa fb) :=
  pe_imp (pe_ix ix_d ha hb hs) fun _ _ _ w => tOp_of w
/-- pool[k] -/
theorem de_px {i k : Nat} {x : Str} {j : Nat} {p1 p2 : Pos} (h : PE X (.Name x p1) (tVar i)) : DE X (.Subscript (.Name x p1) (.Constant (.int (k : Int)) j p2) pos) (E.px i k) := by
  refine pe_imp (pe_ix ix_list h pe_int fun _ _ => rfl) fun σ H Q w => ?_
  obtain ⟨F, pa, e, r, p, R, ev, q⟩ := w
  unfold E.px at ev
  split at ev
  · rename_i xs h1 h2
    simp only [Option.map_eq_some_iff] at ev
    obtain ⟨d, e1, e2⟩ := ev
    cases e2
    obtain ⟨pa', e3, rfl⟩ := R.sl i _ h1
    have hp := R.pl
    rw [h2] at hp
    obtain ⟨nf, vs, hv, rv⟩ := hp
    obtain ⟨v, e4, r4⟩ := rv.get e1
    exact ⟨.ref pa', e3, pa', vs, k, v, rfl, rfl, SqL.of hv, atI_nat e4, q v F H .refl r4 R.pl⟩
  · cases ev
theorem de_un {o : UnaryOp} {gV : V → Hp → VK → Prop} {gD : D → Option RV} (ho : UnR X (unaryOp o) gV) (ha : DR X a fa)
    (hi : ∀ x H Q F pa d r, Rd X.K F pa H x d → gD d = some r → (∀ v, RepR X.K F H H v r → Q v H) → gV x H Q) : DE X (.UnaryOp o a pos) (E.un gD fa) := by
  refine pe_imp (pe_un ho ha) fun σ H Q w => ?_
  obtain ⟨F, pa, e, r, p, R, ev, q⟩ := w
  simp only [E.un, Option.bind_eq_some_iff, Option.map_eq_some_iff] at ev
  obtain ⟨⟨d, p1⟩, e1, r', e2, e3⟩ := ev
  obtain ⟨rfl, rfl⟩ := Prod.mk.inj e3
  exact ⟨F, pa, e, d, p1, R, e1, fun v F' H' P rd rp => hi v H' Q F' pa d _ rd e2 fun u ru => q u F' H' P (ru.back P) rp⟩
theorem de_neg (ha : DR X a fa) : DE X (.UnaryOp .USub a pos) (E.un gNeg fa) := de_un un_neg ha fun x H Q F pa d r rd hg q => by
  unfold gNeg at hg
  split at hg
  · cases hg
    exact ⟨_, rd.int, q _ (.int _)⟩
  · cases hg
/-- a call of a built-in of one argument -/
theorem tCB_of {K : PySem.W.Frag} {gD : D → Option RV} {σ : St} {H : Hp} {Q : VK} (w : trE K (E.un gD fa) σ H Q) : tCB (rD1 K gD) (tCons (trR K fa) tNil) σ H Q := by
  obtain ⟨F, pa, e, r, p, R, ev, q⟩ := w
  simp only [E.un, Option.bind_eq_some_iff, Option.map_eq_some_iff] at ev
  obtain ⟨⟨d, p1⟩, e1, r', e2, e3⟩ := ev
  obtain ⟨rfl, rfl⟩ := Prod.mk.inj e3
  refine ⟨F, pa, e, d, p1, R, e1, fun v F' H' P rd rp => ⟨F', pa, v, d, _, rfl, fo_post R.fo P, rd, e2, fun u F2 H2 P2 ru => ?_⟩⟩
  exact q u F2 H2 (P.trans P2.weak) (ru.back P) (rp.keep P2)
theorem de_b1 {x : Str} {id : String} {gD : D → Option RV} {p : Pos} (hc : CallR X (.builtin id) (rD1 X.K gD)) (hg : Gl X x) (hm : X.mg x = none) (hv : bootBuiltins x = some (.builtin id)) (ha : DR X a fa)
    (hn : x ≠ "__name__" := by decide) (hdb : (x == ("__debug__" : Str)) = false := by decide)
    (hs : starEach [a] X.env = (false, eval a X.env) :: starEach [] X.env := by rfl) : DE X (.Call (.Name x p) [a] [] pos) (E.un gD fa) :=
  pe_imp (pe_callB hc hg hm hv (pa_cons ha pa_nil hs) hn hdb hs) fun _ _ _ w => tCB_of w
theorem de_t1 {x : Str} {T : String} {gD : D → Option RV} {p : Pos} (hc : CallR X (.type T) (rD1 X.K gD)) (hg : Gl X x) (hm : X.mg x = none) (hv : bootBuiltins x = some (.type T)) (ha : DR X a fa)
    (hn : x ≠ "__name__" := by decide) (hdb : (x == ("__debug__" : Str)) = false := by decide)
    (hs : starEach [a] X.env = (false, eval a X.env) :: starEach [] X.env := by rfl) : DE X (.Call (.Name x p) [a] [] pos) (E.un gD fa) :=
  pe_imp (pe_callTy hc hg hm hv (pa_cons ha pa_nil hs) hn hdb hs) fun _ _ _ w => tCB_of w
/-- isinstance(x, T) -/
theorem de_isi {x y : Str} {T : String} {p p1 : Pos} (hg : Gl X "isinstance") (hm : X.mg "isinstance" = none) (ht : PE X (.Name y p1) (tC (.ty T))) (ha : DR X a fa)
    (hs : starEach [a, .Name y p1] X.env = (false, eval a X.env) :: starEach [.Name y p1] X.env := by rfl) : DE X (.Call (.Name "isinstance" p) [a, .Name y p1] [] pos) (E.isi T fa) := by
  refine pe_imp (pe_callB (cl_isi (T := T)) hg hm (by decide +kernel) (pa_cons ha (pa_cons ht pa_nil) hs) (he := hs)) fun σ H Q w => ?_
  obtain ⟨F, pa, e, r, p, R, ev, q⟩ := w
  simp only [E.isi, E.un, gIsT, Option.bind_eq_some_iff, Option.map_eq_some_iff] at ev
  obtain ⟨⟨d, p1⟩, e1, r', ⟨k, e2, e4⟩, e3⟩ := ev
  subst e4
  cases e3
  exact ⟨F, pa, e, d, _, R, e1, fun v F' H' P rd rp => ⟨F', pa, v, d, k, rfl, rd, e2, q _ F' H' P (.bl _) rp⟩⟩
/-! slices -/
def trO (K : PySem.W.Frag) (f : OF) : TO := fun σ H Q => ∃ F pa e o p, RepE K F pa σ H e ∧ f e = some (o, p) ∧ ∀ F' H', Post F pa H F' H' → RepP K F' pa H' p → Q o H'
abbrev DO (X : Cx) (e : Option Expr) (f : OF) : Prop := PO X e (trO X.K f)
theorem po_imp {X : Cx} {e : Option Expr} {t t' : TO} (h : PO X e t) (i : ∀ σ H Q, t' σ H Q → t σ H Q) : PO X e t' :=
  ⟨fun pins s σ H Q I w => h.run pins s σ H Q I (i _ _ _ w)⟩
theorem do_n : DO X none E.oN := po_imp po_none fun σ H Q w => by
  obtain ⟨F, pa, e, o, p, R, ev, q⟩ := w
  cases ev
  exact q F H .refl R.pl
theorem do_s (h : DE X a f) : DO X (some a) (E.oS f) := po_imp (po_some h) fun σ H Q w => by
  obtain ⟨F, pa, e, o, p, R, ev, q⟩ := w
  simp only [E.oS, Option.bind_eq_some_iff] at ev
  obtain ⟨⟨r, p1⟩, e1, e2⟩ := ev
  split at e2
  · rename_i i hi
    cases e2
    simp only at hi
    subst hi
    refine ⟨F, pa, e, _, _, R, e1, fun v F' H' P rr rp => ?_⟩
    cases rr
    exact ⟨i, rfl, q F' H' P rp⟩
  · cases e2
def rSlD (K : PySem.W.Frag) : V → Option Int → Option Int → Hp → VK → Prop := fun x lo hi H Q => ∃ F pa d r, (∀ a, F a → H a ≠ none) ∧ Rd K F pa H x d ∧ E.gSl d lo hi = some r ∧
  ∀ v F' H', Post F none H F' H' → RepR K F' H H' v r → Q v H'
theorem cutA_whole {α : Type} {xs : List α} {lo hi : Option Int} (h : HT.sIx xs.length 0 lo = 0 ∧ HT.sIx xs.length xs.length hi = xs.length) : cutA xs lo hi = xs := by
  unfold cutA
  rw [h.1, h.2]
  simp
theorem sl_d : L2.SlR X (rSlD X.K) := by
  intro pins s σ H x v vl vu lo hi sl Q I rx hs pl pu h
  obtain ⟨F, pa, d, r, fo, hd, hg, q⟩ := h
  unfold E.gSl at hg
  split at hg <;> first | (cases hg; done) | skip
  · cases hg
    obtain ⟨p1, vs, rfl, s1, e1⟩ := hd.list
    exact sl_list pins s σ H _ v vl vu lo hi sl Q I rx hs pl pu ⟨p1, vs, rfl, s1, fun p hp => new_lst fo hp (e1.cut lo hi) q⟩
  · cases hg
    obtain ⟨p1, vs, rfl, s1, e1⟩ := hd.tupH
    refine sl_tupA pins s σ H _ v vl vu lo hi sl Q I rx hs pl pu ⟨p1, vs, rfl, SqT.of s1, fun w => ?_, fun _ p hp => new_tup hp (e1.cut lo hi) q⟩
    have z := e1.cut lo hi
    rw [cutA_whole w] at z
    exact q _ F H .refl (.tup s1 z)
  · split at hg
    · cases hg
      exact sl_str pins s σ H _ v vl vu lo hi sl Q I rx hs pl pu ⟨_, hd.str, by assumption, q _ F H .refl (.str _)⟩
    · cases hg
theorem de_sl {lo hi : Option Expr} {fl fh : OF} {p2 : Pos} (ha : DR X a fa) (hl : DO X lo fl) (hh : DO X hi fh) : DE X (.Subscript a (.Slice lo hi none p2) pos) (E.sl fa fl fh) := by
  refine pe_imp (pe_slice sl_d ha hl hh) fun σ H Q w => ?_
  obtain ⟨F, pa, e, r, p, R, ev, q⟩ := w
  simp only [E.sl, Option.bind_eq_some_iff, Option.map_eq_some_iff] at ev
  obtain ⟨⟨d, p1⟩, e1, ⟨l, p2⟩, e2, ⟨h, p3⟩, e3, r', e4, e5⟩ := ev
  obtain ⟨rfl, rfl⟩ := Prod.mk.inj e5
  refine ⟨F, pa, e, d, p1, R, e1, fun v F1 H1 P1 rd rp1 => ?_⟩
  have R1 := R.post P1 rp1
  refine ⟨F1, pa, _, l, p2, R1, e2, fun F2 H2 P2 rp2 => ?_⟩
  have R2 := R1.post P2 rp2
  refine ⟨F2, pa, _, h, p3, R2, e3, fun F3 H3 P3 rp3 => ?_⟩
  have P13 := (P1.trans P2).trans P3
  refine ⟨F3, pa, d, _, fo_post R.fo P13, (rd.post P2 R1.pl.ok).post P3 R2.pl.ok, e4, fun w F4 H4 P4 rr => ?_⟩
  exact q w F4 H4 (P13.trans P4.weak) (rr.back P13) (rp3.keep P4)
/-! a op b op' c -/
theorem tChain_of {gd gd' : D → D → Option RV} {K : PySem.W.Frag} {σ : St} {H : Hp} {Q : VK} (w : trE K (E.chain gd gd' fa fb fc) σ H Q) : tChain (rD K gd) (rD K gd') (trR K fa) (trR K fb) (trR K fc) σ H Q := by
  obtain ⟨F, pa, e, r, p, R, ev, q⟩ := w
  simp only [E.chain, Option.bind_eq_some_iff] at ev
  obtain ⟨⟨x, p1⟩, e1, ⟨y, p2⟩, e2, k, e3, e4⟩ := ev
  refine ⟨F, pa, e, x, p1, R, e1, fun v F1 H1 P1 r1 rp1 => ?_⟩
  have R1 := R.post P1 rp1
  refine ⟨F1, pa, _, y, _, R1, e2, fun u F2 H2 P2 r2 rp2 => ?_⟩
  have P12 := P1.trans P2
  have R2 := R1.post P2 rp2
  refine ⟨F2, pa, x, y, k, fo_post R.fo P12, r1.post P2 R1.pl.ok, r2, e3, fun z F3 H3 P3 rr => ?_⟩
  have rp3 := rp2.keep P3
  have P13 := P12.trans P3.weak
  simp only at e4
  split at e4
  · cases rr
    refine ⟨true, rfl, ?_⟩
    rw [if_pos rfl]
    simp only [Option.bind_eq_some_iff, Option.map_eq_some_iff] at e4
    obtain ⟨⟨z, p4⟩, e5, r5, e6, e7⟩ := e4
    obtain ⟨rfl, rfl⟩ := Prod.mk.inj e7
    have R3 := R2.post P3.weak rp3
    refine ⟨F3, pa, _, z, p4, R3, e5, fun w F4 H4 P4 r4 rp4 => ?_⟩
    have P14 := P13.trans P4
    refine ⟨F4, pa, y, z, _, fo_post R.fo P14, (r2.post P3.weak R2.pl.ok).post P4 R3.pl.ok, r4, e6, fun u5 F5 H5 P5 r5 => ?_⟩
    exact q u5 F5 H5 (P14.trans P5.weak) (r5.back P14) (rp4.keep P5)
  · cases rr
    refine ⟨false, rfl, ?_⟩
    rw [if_neg Bool.false_ne_true]
    cases e4
    exact q _ F3 H3 P13 (.bl _) rp3
  · cases e4
theorem de_chain {o o' : CmpOp} {gd gd' : D → D → Option RV} (ho : OpR X (compareOp o) (rD X.K gd)) (ho' : OpR X (compareOp o') (rD X.K gd')) (ha : DR X a fa) (hb : DR X b fb) (hc : DR X c fc)
    (hm : lastMarks [o, o'] [b, c] = false := by with_unfolding_all rfl) : DE X (.Compare a [o, o'] [b, c] pos) (E.chain gd gd' fa fb fc) :=
  pe_imp (pe_chain ho ho' ha hb hc hm) fun _ _ _ w => tChain_of w
theorem db_chain {o o' : CmpOp} {gd gd' : D → D → Option RV} (ho : OpR X (compareOp o) (rD X.K gd)) (ho' : OpR X (compareOp o') (rD X.K gd')) (ha : DR X a fa) (hb : DR X b fb) (hc : DR X c fc)
    (hm : lastMarks [o, o'] [b, c] = false := by with_unfolding_all rfl) : DB X (.Compare a [o, o'] [b, c] pos) (E.toB (E.chain gd gd' fa fb fc)) :=
  pt_imp (pt_chain ho ho' ha hb hc hm) fun _ _ _ w => by
    obtain ⟨F, pa, e, r, p, R, ev, q⟩ := trB_toB w
    exact tChain_of ⟨F, pa, e, r, p, R, ev, q⟩

/-! ### calls of the program's own defs -/
/-- the pool's address ahead of the arguments -/
def withP : Option Addr → List V → List V
  | some a, us => .ref a :: us
  | none, us => us
/-- the promise of a def by its function on data -/
def spF (K : PySem.W.Frag) (hp : Bool) (n : Nat) (m : MF) : Sp := fun vs H Q _ => ∃ F pa ds p r p', (∀ a, F a → H a ≠ none) ∧ RepP K F pa H p ∧ pa.isSome = hp ∧ vs.length = n ∧
  (∃ us, RpAll K F H us ds ∧ vs = withP pa us) ∧ m ds p = some (r, p') ∧
  ∀ v F' H', Post F pa H F' H' → RepR K F' H H' v r → RepP K F' pa H' p' → Q v H'
/-- a def that can be called -/
structure Cal (P : Program) (w : World) (K : PySem.W.Frag) (mg : Str → Option Value) (base : Heap) (j : Nat) (x : Str) (hp : Bool) (n : Nat) (m : MF) : Prop where
  ex : ∃ f fd ps, FnOk P w K mg base CX0 j f fd ps (spF K hp n m) ∧ mg x = some (.ref f) ∧ PySem.W.keepIn K (.ref f) = true ∧ Binds K fd ps []
theorem Cal.mono {P : Program} {w : World} {K : PySem.W.Frag} {mg : Str → Option Value} {base : Heap} {i j : Nat} {x : Str} {hp : Bool} {n : Nat} {m : MF} (C : Cal P w K mg base i x hp n m) (h : i ≤ j) : Cal P w K mg base j x hp n m := by
  obtain ⟨f, fd, ps, G, r⟩ := C.ex
  exact ⟨f, fd, ps, G.mono h, r⟩
theorem de_call {j n : Nat} {x : Str} {m : MF} {p : Pos} (C : Cal X.prog X.w X.K X.mg X.base j x false n m) (hr : Room j X.A) (hg : Gl X x) (ha : DA X (a :: es) fA) (hn : ∀ ev ds q, fA ev = some (ds, q) → ds.length = n)
    (hdb : (x == ("__debug__" : Str)) = false := by decide) (he : starEach (a :: es) X.env = (false, eval a X.env) :: starEach es X.env := by rfl) (hpl : (backTo pos (starEach es X.env)).any (·.1) = false := by rfl) :
    DE X (.Call (.Name x p) (a :: es) [] pos) (E.call m fA) := by
  obtain ⟨f, fd, ps, G, hm, hk, hb⟩ := C.ex
  refine pe_imp (pe_call G hr hg hm hk hb .nil pass0 ha hdb he hpl) fun σ H Q w => ?_
  obtain ⟨F, pa, e, r, p, R, ev, q⟩ := w
  simp only [E.call, Option.bind_eq_some_iff, Option.map_eq_some_iff] at ev
  obtain ⟨⟨ds, p1⟩, e1, ⟨r', p2⟩, e2, e3⟩ := ev
  cases e3
  refine ⟨F, pa, e, ds, _, R, e1, fun vs F1 H1 P1 rv rp1 => ?_⟩
  have hl := hn _ _ _ e1
  refine ⟨F1, none, ds, none, r', p2, fo_post R.fo P1, trivial, rfl, by rw [List.append_nil, rv.length, hl], ⟨vs, rv, by rw [List.append_nil]; rfl⟩, e2, fun v F2 H2 P2 rr _ => ?_⟩
  exact q v F2 H2 (P1.trans P2.weak) (rr.back P1) (rp1.keep P2)
theorem de_callP {i j n : Nat} {x y : Str} {m : MF} {p py : Pos} (C : Cal X.prog X.w X.K X.mg X.base j x true (n + 1) m) (hr : Room j X.A) (hg : Gl X x) (hy : PE X (.Name y py) (tVar i)) (ha : DA X es fA) (hn : ∀ ev ds q, fA ev = some (ds, q) → ds.length = n)
    (hdb : (x == ("__debug__" : Str)) = false := by decide) (he : starEach (.Name y py :: es) X.env = (false, eval (.Name y py) X.env) :: starEach es X.env := by rfl) (hpl : (backTo pos (starEach es X.env)).any (·.1) = false := by rfl) :
    DE X (.Call (.Name x p) (.Name y py :: es) [] pos) (E.callP i m fA) := by
  obtain ⟨f, fd, ps, G, hm, hk, hb⟩ := C.ex
  refine pe_imp (pe_call G hr hg hm hk hb .nil pass0 (pa_cons hy ha he) hdb he hpl) fun σ H Q w => ?_
  obtain ⟨F, pa, e, r, p, R, ev, q⟩ := w
  unfold E.callP at ev
  split at ev
  · rename_i hi
    simp only [Option.bind_eq_some_iff] at ev
    obtain ⟨⟨ds, p1⟩, e1, e2⟩ := ev
    split at e2
    · rename_i hs
      obtain ⟨ad, e3, rfl⟩ := R.sl i _ hi
      refine ⟨.ref ad, e3, F, some ad, e, ds, p1, R, e1, fun vs F1 H1 P1 rv rp1 => ?_⟩
      have hl := hn _ _ _ e1
      refine ⟨F1, some ad, ds, p1, r, p, fo_post R.fo P1, rp1, rfl, by simp only [List.append_nil, List.length_cons, rv.length, hl], ⟨vs, rv, by rw [List.append_nil]; rfl⟩, e2, fun v F2 H2 P2 rr rp2 => ?_⟩
      exact q v F2 H2 (P1.trans P2) (rr.back P1) rp2
    · cases e2
  · cases ev
/-- the number of arguments -/
theorem len_nil : ∀ ev ds q, E.nil ev = some (ds, q) → ds.length = 0 := fun _ _ _ h => by cases h; rfl
theorem len_cons {f : EF} {fA : AF} {n : Nat} (h : ∀ ev ds q, fA ev = some (ds, q) → ds.length = n) : ∀ ev ds q, E.cons f fA ev = some (ds, q) → ds.length = n + 1 := fun ev ds q w => by
  simp only [E.cons, Option.bind_eq_some_iff] at w
  obtain ⟨_, _, d, _, ⟨ds', p2⟩, e3, e4⟩ := w
  cases e4
  rw [List.length_cons, h _ _ _ e3]
end

/-! ### what is walked -/
/-- lists known to stay, tuples stay -/
structure Ext (F : Addr → Prop) (H : Hp) (F' : Addr → Prop) (H' : Hp) : Prop where
  fr : ∀ a, F a → F' a ∧ H' a = H a
  tp : ∀ a vs, H a = some (.tup vs) → H' a = some (.tup vs)
theorem Post.ext {F F' : Addr → Prop} {pa : Option Addr} {H H' : Hp} (P : Post F pa H F' H') (ok : PaOk F pa H) (fo : ∀ a, F a → H a ≠ none) : Ext F H F' H' := by
  refine ⟨fun a h => ⟨P.fr a h, ?_⟩, fun a vs h => P.kp a _ h fun e => ?_⟩
  · cases z : H a with
    | none => exact absurd z (fo a h)
    | some o => exact P.kp a o z fun e => (ok a e.symm).1 h
  · obtain ⟨_, vs', h'⟩ := ok a e.symm
    rw [h] at h'; cases h'
theorem Ext.refl {F : Addr → Prop} {H : Hp} : Ext F H F H := ⟨fun _ h => ⟨h, rfl⟩, fun _ _ h => h⟩
theorem Ext.trans {F F' F'' : Addr → Prop} {H H' H'' : Hp} (a : Ext F H F' H') (b : Ext F' H' F'' H'') : Ext F H F'' H'' :=
  ⟨fun x h => ⟨(b.fr x (a.fr x h).1).1, ((b.fr x (a.fr x h).1).2).trans (a.fr x h).2⟩, fun x vs h => b.tp x vs (a.tp x vs h)⟩
theorem Ext.lkl {F F' : Addr → Prop} {H H' : Hp} (P : Ext F H F' H') : ∀ a vs, LkL F H a vs → LkL F' H' a vs := by
  intro a vs ⟨hf, h⟩
  exact ⟨(P.fr a hf).1, (P.fr a hf).2.trans h⟩
theorem Rp.ext {K : PySem.W.Frag} {F F' : Addr → Prop} {H H' : Hp} (P : Ext F H F' H') {v : V} {d : D} (h : Rp K F H v d) : Rp K F' H' v d := Rp.mono P.lkl P.tp d v h
theorem RpAll.ext {K : PySem.W.Frag} {F F' : Addr → Prop} {H H' : Hp} (P : Ext F H F' H') {vs : List V} {ds : List D} (h : RpAll K F H vs ds) : RpAll K F' H' vs ds := RpAll.mono P.lkl P.tp ds vs h
/-- J walks the items ds, whatever is done to other things -/
def Walk (K : PySem.W.Frag) (F : Addr → Prop) (H : Hp) (J : It) (ds : List D) : Prop := ∀ F' H', Ext F H F' H' →
  (∀ (i : Nat) (d : D), ds[i]? = some d → J.go i H' ∧ ∀ x H'', J.yld i H' x H'' → H'' = H' ∧ Rp K F' H' x d) ∧ J.stop ds.length H'
def trI (K : PySem.W.Frag) (f : IF) : TI := fun σ H R => ∃ F pa e ds p, RepE K F pa σ H e ∧ f e = some (ds, p) ∧
  ∀ J F' H', Post F pa H F' H' → RepP K F' pa H' p → Walk K F' H' J ds → R J H'
abbrev DI (X : Cx) (tg e : Expr) (f : IF) : Prop := PI X tg e (trI X.K f)
theorem pi_imp {X : Cx} {tg e : Expr} {t t' : TI} (h : PI X tg e t) (i : ∀ σ H R, t' σ H R → t σ H R) : PI X tg e t' :=
  ⟨fun pins s σ H R I w => h.run pins s σ H R I (i _ _ _ w)⟩
section
variable {X : Cx} {tg a : Expr} {f : EF} {fA : AF}
theorem walk_list {K : PySem.W.Frag} {F : Addr → Prop} {H : Hp} {a : Addr} {vs : List V} {ds : List D} (h : LkL F H a vs) (r : RpAll K F H vs ds) : Walk K F H (Itl K a) ds := by
  intro F' H' E
  have s1 : SqL K H' a vs := SqL.of (E.lkl a vs h).2
  refine ⟨fun i d e => ?_, ⟨vs, s1, by rw [r.length]; exact Nat.le_refl _⟩⟩
  obtain ⟨v, e1, r1⟩ := r.get e
  refine ⟨⟨vs, v, s1, e1⟩, fun x H'' y => ?_⟩
  obtain ⟨rfl, y⟩ := y
  have z := y vs s1
  rw [e1] at z
  cases z
  exact ⟨rfl, r1.ext E⟩
theorem walk_tup {K : PySem.W.Frag} {F : Addr → Prop} {H : Hp} {a : Addr} {vs : List V} {ds : List D} (h : H a = some (.tup vs)) (r : RpAll K F H vs ds) : Walk K F H (Itt K a) ds := by
  intro F' H' E
  have s1 : SqT K H' a vs := SqT.of (E.tp a vs h)
  refine ⟨fun i d e => ?_, ⟨vs, s1, by rw [r.length]; exact Nat.le_refl _⟩⟩
  obtain ⟨v, e1, r1⟩ := r.get e
  refine ⟨⟨vs, v, s1, e1⟩, fun x H'' y => ?_⟩
  obtain ⟨rfl, y⟩ := y
  have z := y vs s1
  rw [e1] at z
  cases z
  exact ⟨rfl, r1.ext E⟩
theorem walk_rng {K : PySem.W.Frag} {F : Addr → Prop} {H : Hp} {a : Int} {n : Nat} : Walk K F H (Itr a n) (E.rangeD a n 1) := by
  intro F' H' EE
  have hl : (E.rangeD a n 1).length = n := by unfold E.rangeD; rw [List.length_map, List.length_range]
  refine ⟨fun i d e => ?_, ?_⟩
  · unfold E.rangeD at e
    rw [List.getElem?_map] at e
    obtain ⟨j, e1, rfl⟩ := Option.map_eq_some_iff.mp e
    obtain ⟨h1, h2⟩ := List.getElem?_eq_some_iff.mp e1
    rw [List.getElem_range] at h2
    subst h2
    rw [List.length_range] at h1
    refine ⟨h1, fun x H'' y => ?_⟩
    obtain ⟨rfl, rfl⟩ := y
    refine ⟨rfl, ?_⟩
    rw [Int.mul_one]
    exact .int _
  · rw [hl]
    exact Nat.le_refl n
theorem di_l (h : DE X a f) : DI X tg a (E.iL f) := by
  refine pi_imp (pi_list h) fun σ H R w => ?_
  obtain ⟨F, pa, e, ds, p, Rr, ev, q⟩ := w
  simp only [E.iL, Option.bind_eq_some_iff] at ev
  obtain ⟨⟨r, p1⟩, e1, e2⟩ := ev
  split at e2
  · rename_i ds' hd
    cases e2
    refine ⟨F, pa, e, r, _, Rr, e1, fun v F' H' P rr rp => ?_⟩
    obtain ⟨F2, P2, r2, rp2⟩ := freeze P rr rp hd Rr.pl.ok
    cases r2 with
    | lst l1 l2 => exact ⟨_, rfl, ⟨_, SqL.of l1.2⟩, q _ F2 H' P2 rp2 (walk_list l1 l2)⟩
  · cases e2
theorem di_t (h : DE X a f) : DI X tg a (E.iT f) := by
  refine pi_imp (pi_tup h) fun σ H R w => ?_
  obtain ⟨F, pa, e, ds, p, Rr, ev, q⟩ := w
  simp only [E.iT, Option.bind_eq_some_iff] at ev
  obtain ⟨⟨r, p1⟩, e1, e2⟩ := ev
  split at e2
  · rename_i ds' hd
    cases e2
    refine ⟨F, pa, e, r, _, Rr, e1, fun v F' H' P rr rp => ?_⟩
    obtain ⟨F2, P2, r2, rp2⟩ := freeze P rr rp hd Rr.pl.ok
    cases r2 with
    | tup l1 l2 => exact ⟨_, rfl, ⟨_, SqT.of l1⟩, q _ F2 H' P2 rp2 (walk_tup l1 l2)⟩
  · cases e2
theorem di_r1 {p pos : Pos} (hg : Gl X "range") (hm : X.mg "range" = none) (ha : DA X [a] fA) (hs : starEach [a] X.env = [(false, eval a X.env)] := by rfl) : DI X tg (.Call (.Name "range" p) [a] [] pos) (E.iR1 fA) := by
  refine pi_imp (pi_range1 hg hm ha hs) fun σ H R w => ?_
  obtain ⟨F, pa, e, ds, p, Rr, ev, q⟩ := w
  simp only [E.iR1, Option.bind_eq_some_iff] at ev
  obtain ⟨⟨xs, p1⟩, e1, e2⟩ := ev
  split at e2
  · rename_i j hd
    split at e2
    · rename_i hj
      cases e2
      simp only at hd
      subst hd
      refine ⟨F, pa, e, _, _, Rr, e1, fun vs F' H' P rv rp => ?_⟩
      cases rv with
      | cons r1 r2 =>
        cases r1
        cases r2
        exact ⟨j, rfl, hj.1, hj.2, q _ F' H' P rp walk_rng⟩
    · cases e2
  · cases e2
theorem di_r2 {b : Expr} {p pos : Pos} (hg : Gl X "range") (hm : X.mg "range" = none) (ha : DA X [a, b] fA) (hs : starEach [a, b] X.env = [(false, eval a X.env), (false, eval b X.env)] := by rfl) (hs2 : starEach [b] X.env = [(false, eval b X.env)] := by rfl) :
    DI X tg (.Call (.Name "range" p) [a, b] [] pos) (E.iR2 fA) := by
  refine pi_imp (pi_range2 hg hm ha hs hs2) fun σ H R w => ?_
  obtain ⟨F, pa, e, ds, p, Rr, ev, q⟩ := w
  simp only [E.iR2, Option.bind_eq_some_iff] at ev
  obtain ⟨⟨xs, p1⟩, e1, e2⟩ := ev
  split at e2
  · rename_i i j hd
    split at e2
    · rename_i hj
      cases e2
      simp only at hd
      subst hd
      refine ⟨F, pa, e, _, _, Rr, e1, fun vs F' H' P rv rp => ?_⟩
      cases rv with
      | cons r1 r2 =>
        cases r1
        cases r2 with
        | cons r3 r4 =>
          cases r3
          cases r4
          exact ⟨i, j, rfl, ⟨hj.1.1, hj.1.2, hj.2.1, hj.2.2⟩, q _ F' H' P rp walk_rng⟩
    · cases e2
  · cases e2
/-- list(range(n)) -/
theorem de_lR {p p2 pos pos2 : Pos} (hc : X.calm = true) (hgl : Gl X "list") (hml : X.mg "list" = none) (hg : Gl X "range") (hm : X.mg "range" = none) (ha : DE X a f)
    (na : starEach [a] X.env = (false, eval a X.env) :: starEach [] X.env := by rfl) : DE X (.Call (.Name "list" p) [.Call (.Name "range" p2) [a] [] pos2] [] pos) (E.lR f) := by
  refine pe_imp (pe_listRg hc hgl hml (prg_1 hg hm ha na)) fun σ H Q w => ?_
  obtain ⟨F, pa, e, r, p, R, ev, q⟩ := w
  simp only [E.lR, Option.bind_eq_some_iff] at ev
  obtain ⟨⟨r1, p1⟩, e1, e2⟩ := ev
  split at e2
  · rename_i j hd
    split at e2
    · rename_i hj
      cases e2
      simp only at hd
      subst hd
      refine ⟨F, pa, e, _, _, R, e1, fun v F' H' P rr rp => ?_⟩
      cases rr
      refine ⟨j, rfl, .of_le (Int.le_refl _) hj.2 (by decide) hj.1, fun t ht => ?_⟩
      have N : Post F' none H' F' (upd H' t (.lst (rgV 0 j))) := .new ht
      have hn : H t = none := by
        cases z : H t with
        | none => rfl
        | some o => exact absurd ht (P.dm t (by rw [z]; simp))
      refine q _ F' _ (P.trans N.weak) ⟨t, _, rfl, hn, fun z => fo_post R.fo P t z ht, upd_same, ?_⟩ (rp.keep N)
      have e3 : rgV 0 j = ((List.range j.toNat).map fun (i : Nat) => (i : Int)).map V.int := by
        unfold rgV
        rw [List.map_map, Int.sub_zero]
        refine List.map_congr_left fun i _ => ?_
        show V.int (0 + (i : Int)) = V.int (i : Int)
        rw [Int.zero_add]
      have e4 : E.rangeD 0 j.toNat 1 = ((List.range j.toNat).map fun (i : Nat) => (i : Int)).map PyData.int := by
        unfold E.rangeD
        rw [List.map_map]
        refine List.map_congr_left fun i _ => ?_
        show PyData.int (0 + (i : Int) * 1) = PyData.int (i : Int)
        rw [Int.zero_add, Int.mul_one]
      rw [e3, e4]
      exact RpAll.ofInts _
    · cases e2
  · cases e2
end

/-! ### targets -/
section
variable {K : PySem.W.Frag} {F : Addr → Prop} {pa : Option Addr} {H : Hp} {σ : St} {e : Ev}
/-- a slot takes data -/
theorem RepE.setD {i : Nat} {v : V} {d : D} (R : RepE K F pa σ H e) (r : Rp K F H v d) : RepE K F pa (σ.set i (some v)) H ⟨e.r.set i (.d d), e.p⟩ := by
  refine ⟨by simp only [List.length_set, R.len], fun j s h => ?_, fun j k s t a hjk h1 h2 o1 o2 g1 g2 => ?_, R.pl, R.fo⟩
  · simp only at h
    by_cases hj : i = j
    · subst hj
      by_cases hl : i < e.r.length
      · rw [List.getElem?_set_self hl] at h
        cases h
        exact ⟨v, by rw [List.getElem?_set_self (by rw [R.len]; exact hl)], r⟩
      · rw [List.getElem?_eq_none (by simp only [List.length_set]; omega)] at h; cases h
    · rw [List.getElem?_set_ne hj] at h
      rw [List.getElem?_set_ne hj]
      exact R.sl j s h
  · simp only at h1 h2
    have n1 : i ≠ j := fun z => by
      subst z
      by_cases hl : i < e.r.length
      · rw [List.getElem?_set_self hl] at h1; cases h1; cases o1
      · rw [List.getElem?_eq_none (by simp only [List.length_set]; omega)] at h1; cases h1
    have n2 : i ≠ k := fun z => by
      subst z
      by_cases hl : i < e.r.length
      · rw [List.getElem?_set_self hl] at h2; cases h2; cases o2
      · rw [List.getElem?_eq_none (by simp only [List.length_set]; omega)] at h2; cases h2
    rw [List.getElem?_set_ne n1] at h1 g1
    rw [List.getElem?_set_ne n2] at h2 g2
    exact R.ow j k s t a hjk h1 h2 o1 o2 g1 g2
/-- a slot is forgotten -/
theorem RepE.forget {i : Nat} {o : Option V} (R : RepE K F pa σ H e) : RepE K F pa (σ.set i o) H ⟨e.r.set i .un, e.p⟩ := by
  refine ⟨by simp only [List.length_set, R.len], fun j s h => ?_, fun j k s t a hjk h1 h2 o1 o2 g1 g2 => ?_, R.pl, R.fo⟩
  · simp only at h
    by_cases hj : i = j
    · subst hj
      by_cases hl : i < e.r.length
      · rw [List.getElem?_set_self hl] at h
        cases h
        trivial
      · rw [List.getElem?_eq_none (by simp only [List.length_set]; omega)] at h; cases h
    · rw [List.getElem?_set_ne hj] at h
      rw [List.getElem?_set_ne hj]
      exact R.sl j s h
  · simp only at h1 h2
    have n1 : i ≠ j := fun z => by
      subst z
      by_cases hl : i < e.r.length
      · rw [List.getElem?_set_self hl] at h1; cases h1; cases o1
      · rw [List.getElem?_eq_none (by simp only [List.length_set]; omega)] at h1; cases h1
    have n2 : i ≠ k := fun z => by
      subst z
      by_cases hl : i < e.r.length
      · rw [List.getElem?_set_self hl] at h2; cases h2; cases o2
      · rw [List.getElem?_eq_none (by simp only [List.length_set]; omega)] at h2; cases h2
    rw [List.getElem?_set_ne n1] at h1 g1
    rw [List.getElem?_set_ne n2] at h2 g2
    exact R.ow j k s t a hjk h1 h2 o1 o2 g1 g2
theorem RepE.wipe (R : RepE K F pa σ H e) : ∀ vs : List Nat, RepE K F pa (L2.wipe σ vs) H ⟨E.wipeS e.r vs, e.p⟩
  | [] => R
  | v :: vs => (R.wipe vs).forget
end
/-- a target's reading: ts the slots that it stores -/
def trG (K : PySem.W.Frag) (ts : List Nat) (t : TF) : TG := fun v σ H Q => ∃ F pa e d r', RepE K F pa σ H e ∧ Rp K F H v d ∧ t d e.r = some r' ∧
  ∀ σ', (∀ j, j ∉ ts → σ'[j]? = σ[j]?) → σ'.length = σ.length → RepE K F pa σ' H ⟨r', e.p⟩ → Q σ' H
abbrev DG (X : Cx) (tg : Expr) (ts : List Nat) (t : TF) : Prop := PG X tg (trG X.K ts t)
theorem pg_imp {X : Cx} {tg : Expr} {t t' : TG} (h : PG X tg t) (i : ∀ v σ H Q, t' v σ H Q → t v σ H Q) : PG X tg t' :=
  ⟨fun pins s σ H v u Q I r w => h.run pins s σ H v u Q I r (i _ _ _ _ w)⟩
section
variable {X : Cx}
theorem dg_n {e : Expr} {i : Nat} (h : PG X e (gName i)) : DG X e [i] (E.tN i) := by
  refine pg_imp h fun v σ H Q w => ?_
  obtain ⟨F, pa, ev, d, r', R, rp, ht, q⟩ := w
  cases ht
  refine q _ (fun j hj => ?_) (by rw [List.length_set]) (R.setD rp)
  exact List.getElem?_set_ne fun e => hj (by simp [e])
/-- the names of a tuple target, one after the other -/
theorem gNames {K : PySem.W.Frag} : ∀ (is : List Nat) (gs : TGs) (_ : gs = is.foldr (fun i g => gCons (gName i) g) gNil) (F : Addr → Prop) (pa : Option Addr) (σ : St) (H : Hp) (r : List Sl) (p : Pl) (vs : List V) (ds : List D) (Q : St → Hp → Prop),
    RepE K F pa σ H ⟨r, p⟩ → RpAll K F H vs ds → ds.length = is.length →
    (∀ σ', (∀ j, j ∉ is → σ'[j]? = σ[j]?) → σ'.length = σ.length → RepE K F pa σ' H ⟨(is.zip ds).foldl (fun r q => r.set q.1 (.d q.2)) r, p⟩ → Q σ' H) → gs vs σ H Q
  | [], gs, hg, F, pa, σ, H, r, p, vs, ds, Q, R, rv, hl, q => by
    subst hg
    have e : ds = [] := List.length_eq_zero_iff.mp hl
    subst e
    cases rv
    exact ⟨rfl, q σ (fun _ _ => rfl) rfl R⟩
  | i :: is, gs, hg, F, pa, σ, H, r, p, vs, ds, Q, R, rv, hl, q => by
    subst hg
    cases ds with
    | nil => cases hl
    | cons d ds =>
      cases rv with
      | @cons v vs _ _ r1 r2 =>
        refine ⟨v, vs, rfl, ?_⟩
        refine gNames is _ rfl F pa (σ.set i (some v)) H (r.set i (.d d)) p vs ds Q (R.setD r1) r2 (by simpa using hl) fun σ' h1 h2 R' => ?_
        refine q σ' (fun j hj => ?_) (by rw [h2, List.length_set]) R'
        rw [h1 j fun z => hj (List.mem_cons_of_mem _ z), List.getElem?_set_ne fun z => hj (by simp [z])]
theorem dg_t {es : List Expr} {k : Nat} {pos : Pos} {is : List Nat} {gs : TGs} (h : PG X (.Tuple es k pos) (gTup X.K is.length gs)) (hg : gs = is.foldr (fun i g => gCons (gName i) g) gNil) : DG X (.Tuple es k pos) is (E.tT is) := by
  refine pg_imp h fun v σ H Q w => ?_
  obtain ⟨F, pa, ev, d, r', R, rp, ht, q⟩ := w
  unfold E.tT at ht
  split at ht
  · split at ht
    · rename_i ds hl
      cases ht
      cases rp with
      | @tup a vs _ s1 s2 =>
        exact ⟨a, vs, rfl, SqT.of s1, by rw [s2.length, hl], gNames is gs hg F pa σ H ev.r ev.p vs ds Q R s2 hl q⟩
    · cases ht
  · cases ht
end

/-! ### list comprehensions -/
section
variable {K : PySem.W.Frag} {F F' : Addr → Prop} {pa : Option Addr} {H H' : Hp}
/-- one's own list at t grows: what is known elsewhere stays -/
theorem grow_ext {t : Addr} {vs ws : List V} (h : H t = some (.lst vs)) (nf : ¬ F t) : Ext F H F (upd H t (.lst ws)) := by
  refine ⟨fun a f => ⟨f, upd_ne fun z => nf (z ▸ f)⟩, fun a us e => ?_⟩
  · rw [upd_ne (ne_of e h (by intro z; cases z))]; exact e
theorem wipe_same {σ σ' : St} {vs ts : List Nat} (h : ∀ j, j ∉ ts → σ'[j]? = (L2.wipe σ vs)[j]?) (hl : σ'.length = (L2.wipe σ vs).length) (hs : ∀ j ∈ ts, j ∈ vs) : L2.wipe σ' vs = L2.wipe σ vs := by
  have inn : ∀ (τ : St) (us : List Nat) (j : Nat), j ∈ us → j < τ.length → (L2.wipe τ us)[j]? = some none := by
    intro τ us
    induction us with
    | nil => intro j hj; cases hj
    | cons u us ih =>
      intro j hj hlt
      unfold L2.wipe
      by_cases hu : u = j
      · subst hu
        rw [List.getElem?_set_self (by rw [wipe_length]; exact hlt)]
      · rw [List.getElem?_set_ne hu]
        rcases List.mem_cons.mp hj with z | z
        · exact absurd z.symm hu
        · exact ih j z hlt
  refine List.ext_getElem? fun j => ?_
  by_cases hj : j ∈ vs
  · by_cases hlt : j < σ.length
    · rw [inn σ vs j hj hlt, inn σ' vs j hj (by rw [hl, wipe_length]; exact hlt)]
    · rw [List.getElem?_eq_none (by rw [wipe_length, hl, wipe_length]; omega), List.getElem?_eq_none (by rw [wipe_length]; omega)]
  · rw [wipe_out hj, wipe_out hj, h j fun z => hj (hs j z), wipe_out hj]
end
section
variable {X : Cx}
theorem tLc_of {K : PySem.W.Frag} {own ts : List Nat} {it : IF} {t : TF} {c : BF} {f : EF} (hs : ∀ j ∈ ts, j ∈ own) {σ : St} {H : Hp} {Q : VK} (w : trE K (E.lc own it t c f) σ H Q) :
    tLc (trI K it) (trG K ts t) (trB K c) (trE K f) own σ H Q := by
  obtain ⟨F, pa, e, r, p, R, ev, q⟩ := w
  simp only [E.lc, Option.bind_eq_some_iff] at ev
  obtain ⟨⟨ds, p1⟩, e1, e2⟩ := ev
  simp only at e2
  split at e2
  · rename_i hz
    simp only [Option.map_eq_some_iff] at e2
    obtain ⟨⟨out, p2⟩, e3, e4⟩ := e2
    obtain ⟨rfl, rfl⟩ := Prod.mk.inj e4
    refine ⟨F, pa, e, ds, p1, R, e1, fun J F1 H1 P1 rp1 wk => ?_⟩
    intro t0 ht0
    have hnH : H t0 = none := by
      cases z : H t0 with
      | none => rfl
      | some o => exact absurd ht0 (P1.dm t0 (by rw [z]; simp))
    have ok1 := rp1.ok
    have fo1 := fo_post R.fo P1
    have R1 := R.post P1 rp1
    have npa : pa ≠ some t0 := fun z => by
      obtain ⟨_, vs, h⟩ := ok1 t0 z
      rw [ht0] at h; cases h
    refine ⟨fun i m H' => ∃ F' pp acc accD, m = ds.length - i ∧ i ≤ ds.length ∧ Post F1 pa H1 F' H' ∧ Ext F1 H1 F' H' ∧ ¬ F' t0 ∧ H' t0 = some (.lst acc) ∧ RpAll K F' H' acc accD ∧ accD.length ≤ i ∧ RepP K F' pa H' pp ∧
        E.lcL t c f (E.wipeS e.r own) (ds.drop i) pp accD = some (out, p2), ?_, ?_⟩
    · refine ⟨ds.length, F1, p1, [], [], by simp, Nat.zero_le _, (Post.new ht0).weak, ?_, fun z => fo1 t0 z ht0, upd_same, .nil, Nat.le_refl _, rp1.keep (.new ht0), by simpa using e3⟩
      exact (Post.new ht0).ext okN fo1
    · rintro i m H' ⟨F', pp, acc, accD, rfl, hi, P', E', nf, hD, rA, hA, rpp, ev'⟩
      obtain ⟨wgo, wst⟩ := wk F' H' E'
      have P0 : Post F pa H F' H' := P1.trans P'
      by_cases hlt : i < ds.length
      · right
        have hd : ds[i]? = some ds[i] := List.getElem?_eq_getElem hlt
        obtain ⟨go, yl⟩ := wgo i _ hd
        rw [List.drop_eq_getElem_cons hlt] at ev'
        simp only [E.lcL, Option.bind_eq_some_iff] at ev'
        obtain ⟨r1, t1, ⟨k, p3⟩, t2, t3⟩ := ev'
        refine ⟨go, fun H'' => ∃ F'' pp' acc' accD', i + 1 ≤ ds.length ∧ Post F1 pa H1 F'' H'' ∧ Ext F1 H1 F'' H'' ∧ ¬ F'' t0 ∧ H'' t0 = some (.lst acc') ∧ RpAll K F'' H'' acc' accD' ∧ accD'.length ≤ i + 1 ∧ RepP K F'' pa H'' pp' ∧
          E.lcL t c f (E.wipeS e.r own) (ds.drop (i + 1)) pp' accD' = some (out, p2), ?_, fun x H2 y => ?_⟩
        · rintro H2 ⟨F2, pp2, acc2, accD2, b1, b2, b3, b4, b5, b6, b7, b8, b9⟩
          exact ⟨ds.length - (i + 1), by omega, F2, pp2, acc2, accD2, rfl, b1, b2, b3, b4, b5, b6, b7, b8, b9⟩
        · obtain ⟨rfl, rx⟩ := yl x H2 y
          have RW := (R.post P0 rpp).wipe own
          refine ⟨F', pa, _, ds[i], r1, RW, rx, t1, fun σ2 s1 s2 R2 => ⟨wipe_same s1 s2 hs, ?_⟩⟩
          refine ⟨F', pa, _, k, p3, R2, t2, fun F3 H3 P3 rp3 => ?_⟩
          have okp := rpp.ok
          have foF' := fo_post R.fo P0
          have hD3 : H3 t0 = some (.lst acc) := P3.kp t0 _ hD fun z => npa z.symm
          have nf3 : ¬ F3 t0 := fun z => by
            rcases P3.nw t0 z with z | ⟨z, _⟩
            · exact nf z
            · rw [hD] at z; cases z
          have E3 := P3.ext okp foF'
          simp only at t3
          dsimp only
          split
          · rename_i hk
            rw [if_pos hk] at t3
            simp only [Option.bind_eq_some_iff] at t3
            obtain ⟨⟨rr, p4⟩, t4, dx, t5, t6⟩ := t3
            have R3 := R2.post P3 rp3
            refine ⟨F3, pa, _, rr, p4, R3, t4, fun y4 F4 H4 P4 rr4 rp4 => ?_⟩
            obtain ⟨F5, P5, ry, rp5⟩ := freeze P4 rr4 rp4 t5 R3.pl.ok
            have hD4 : H4 t0 = some (.lst acc) := P5.kp t0 _ hD3 fun z => npa z.symm
            have nf5 : ¬ F5 t0 := fun z => by
              rcases P5.nw t0 z with z | ⟨z, _⟩
              · exact nf3 z
              · rw [hD3] at z; cases z
            have E5 := P5.ext R3.pl.ok (fo_post foF' P3)
            have G : Ext F5 H4 F5 (upd H4 t0 (.lst (acc ++ [y4]))) := grow_ext hD4 nf5
            have lenA : acc.length = accD.length := rA.length
            have P15 : Post F1 pa H1 F5 H4 := (P'.trans P3).trans P5
            refine ⟨acc, hD4, by omega, F5, p4, acc ++ [y4], accD ++ [dx], hlt, ⟨P15.fr, fun a z => ?_, fun a o e n => ?_, fun a z => ?_⟩, ((E'.trans E3).trans E5).trans G, nf5, upd_same,
              (((rA.ext E3).ext E5).ext G).append (.cons (ry.ext G) .nil), by rw [List.length_append]; exact Nat.add_le_add_right hA 1, ?_, t6⟩
            · rcases P15.nw a z with z | ⟨z1, z2⟩
              · exact .inl z
              · refine .inr ⟨z1, ?_⟩
                by_cases ha : a = t0
                · rw [ha, upd_same]; simp
                · rw [upd_ne ha]; exact z2
            · have ha : a ≠ t0 := ne_of_none e ht0
              rw [upd_ne ha]
              exact P15.kp a o e n
            · have q1 := P15.dm a z
              by_cases ha : a = t0
              · rw [ha, upd_same]; simp
              · rw [upd_ne ha]; exact q1
            · cases pa with
              | none => cases p4 <;> first | trivial | exact rp5.elim
              | some b =>
                cases p4 with
                | none => exact rp5.elim
                | some ys =>
                  obtain ⟨q1, us, q2, q3⟩ := rp5
                  refine ⟨q1, us, ?_, q3.ext G⟩
                  rw [upd_ne fun z => npa (by rw [z])]
                  exact q2
          · rename_i hk
            rw [if_neg hk] at t3
            exact ⟨F3, p3, acc, accD, hlt, P'.trans P3, E'.trans E3, nf3, hD3, rA.ext E3, Nat.le_succ_of_le hA, rp3, t3⟩
      · left
        have ei : i = ds.length := by omega
        subst ei
        refine ⟨wst, ?_⟩
        rw [List.drop_length] at ev'
        simp only [E.lcL, Option.some.injEq, Prod.mk.injEq] at ev'
        obtain ⟨rfl, rfl⟩ := ev'
        exact q _ F' H' P0 ⟨t0, acc, rfl, hnH, nf, hD, rA⟩ rpp
  · cases e2
theorem dts_yes {Y : Cx} : PTs Y [] (trB Y.K E.yes) := by
  refine ⟨fun pins s σ H Q I w => pts_nil.run pins s σ H Q I ?_⟩
  obtain ⟨F, pa, e, b, p, R, ev, q⟩ := w
  cases ev
  exact q F H .refl R.pl
theorem dts_one {Y : Cx} {e : Expr} {B : BF} (h : DB Y e B) : PTs Y [e] (trB Y.K B) := pts_one h
/-- [elt for tg in iter if ..] -/
theorem de_lc {elt tg iter : Expr} {ifs : List Expr} {scope : Scope} {own : List (Str × Nat)} {pos : Pos} {it : IF} {ts : List Nat} {t : TF} {c : BF} {f : EF} (hc : X.calm = true) (hN : X.N.Nodup) (hi : DI X tg iter it) (ok : BlkOk X.N X.env.scope scope own)
    (hg : ∀ (s : Shared) (H : Hp) (C : Addr) (cl : List (Str × Addr)) (fp : List Addr), PG (X.blk s H scope (compEnvC scope cl C X.env) fp) tg (trG X.K ts t)) (ht : ∀ (s : Shared) (H : Hp) (C : Addr) (cl : List (Str × Addr)) (fp : List Addr), PTs (X.blk s H scope (compEnvC scope cl C X.env) fp) ifs (trB X.K c))
    (he : ∀ (s : Shared) (H : Hp) (C : Addr) (cl : List (Str × Addr)) (fp : List Addr), PE (X.blk s H scope (compEnvC scope cl C X.env) fp) elt (trE X.K f)) (hts : ∀ j ∈ ts, j ∈ own.map (·.2) := by decide) (hs : ∀ x, foldedSetIterable iter X.env x = pure x := by intro _; rfl) :
    DE X (.ListComp elt [⟨tg, iter, ifs, 0⟩] scope pos) (E.lc (own.map (·.2)) it t c f) :=
  pe_imp (pe_lc hc hN hi ok hg ht he hs) fun _ _ _ w => tLc_of hts w
end
end Dg

/-! deedsagain: statements as functions of data. -/
namespace Dg
open PySem PySem.Spec L2

/-- how a statement ends -/
inductive Out where
  | nx (e : Ev) | rt (r : RV) (p : Pl) | bk (e : Ev) | ct (e : Ev)
abbrev SF := Ev → Option Out
/-- the entry of the def, and what else must stay -/
structure Bse where
  F0 : Addr → Prop
  H0 : Hp
  p0 : Option Addr
  An : (Addr → Prop) → Hp → Prop
  cl : ∀ F H F' H', Ext F H F' H' → An F H → An F' H'
structure RepB (K : PySem.W.Frag) (B : Bse) (F : Addr → Prop) (pa : Option Addr) (σ : St) (H : Hp) (e : Ev) : Prop where
  re : RepE K F pa σ H e
  po : Post B.F0 B.p0 B.H0 F H
  pq : pa = B.p0 ∨ (B.p0 = none ∧ ∀ a, pa = some a → B.H0 a = none)
  ow : ∀ (i : Nat) (s : Sl) (a : Addr), e.r[i]? = some s → owned s = true → σ[i]? = some (some (.ref a)) → B.H0 a = none
  an : B.An F H
def EndOk (K : PySem.W.Frag) (B : Bse) (Z : Ends) : Out → Prop
  | .nx e => ∀ F pa σ H, RepB K B F pa σ H e → Z.nx σ H
  | .bk e => ∀ F pa σ H, RepB K B F pa σ H e → Z.bk σ H
  | .ct e => ∀ F pa σ H, RepB K B F pa σ H e → Z.ct σ H
  | .rt r p => ∀ v F H, Post B.F0 B.p0 B.H0 F H → RepR K F B.H0 H v r → (B.p0.isSome = true → RepP K F B.p0 H p) → Z.rt v H
def trS (K : PySem.W.Frag) (B : Bse) (f : SF) : TS := fun Z σ H => ∃ F pa e o, RepB K B F pa σ H e ∧ f e = some o ∧ EndOk K B Z o
abbrev DS (X : Cx) (st : Stmt) (f : SF) : Prop := ∀ B : Bse, PS X st (trS X.K B f)
abbrev DSs (X : Cx) (st : List Stmt) (f : SF) : Prop := ∀ B : Bse, PSs X st (trS X.K B f)
theorem ps_imp {X : Cx} {st : Stmt} {t t' : TS} (h : PS X st t) (i : ∀ Z σ H, t' Z σ H → t Z σ H) : PS X st t' :=
  ⟨fun pins s σ H Z I w => h.run pins s σ H Z I (i _ _ _ w)⟩
theorem pss_imp {X : Cx} {st : List Stmt} {t t' : TS} (h : PSs X st t) (i : ∀ Z σ H, t' Z σ H → t Z σ H) : PSs X st t' :=
  ⟨fun pins s σ H Z I w => h.run pins s σ H Z I (i _ _ _ w)⟩
section
variable {K : PySem.W.Frag} {B : Bse} {F F' : Addr → Prop} {pa : Option Addr} {H H' : Hp} {σ : St} {e : Ev} {p : Pl} {v : V} {r : RV}
theorem RepB.post (R : RepB K B F pa σ H e) (P : Post F pa H F' H') (q : RepP K F' pa H' p) : RepB K B F' pa σ H' (e.at p) := by
  refine ⟨R.re.post P q, ?_, R.pq, R.ow, B.cl _ _ _ _ (P.ext R.re.pl.ok R.re.fo) R.an⟩
  rcases R.pq with z | ⟨z, n⟩
  · rw [z] at P
    exact R.po.trans P
  · have po := R.po
    rw [z] at po ⊢
    refine ⟨fun a h => P.fr a (po.fr a h), fun a h => ?_, fun a o h _ => ?_, fun a h => P.dm a (po.dm a h)⟩
    · rcases P.nw a h with h | ⟨h, h'⟩
      · rcases po.nw a h with y | ⟨y, y'⟩
        · exact .inl y
        · exact .inr ⟨y, P.dm a y'⟩
      · refine .inr ⟨?_, h'⟩
        cases y : B.H0 a with
        | none => rfl
        | some o => exact absurd h (po.dm a (by rw [y]; simp))
    · refine P.kp a o (po.kp a o h (by simp)) fun y => ?_
      have := n a y.symm
      rw [h] at this; cases this
theorem RepB.setD {i : Nat} {d : D} (R : RepB K B F pa σ H e) (q : Rp K F H v d) : RepB K B F pa (σ.set i (some v)) H ⟨e.r.set i (.d d), e.p⟩ := by
  refine ⟨R.re.setD q, R.po, R.pq, fun j s a h o g => ?_, R.an⟩
  simp only at h
  have n1 : i ≠ j := fun z => by
    subst z
    by_cases hl : i < e.r.length
    · rw [List.getElem?_set_self hl] at h; cases h; cases o
    · rw [List.getElem?_eq_none (by simp only [List.length_set]; omega)] at h; cases h
  rw [List.getElem?_set_ne n1] at h g
  exact R.ow j s a h o g
theorem RepP.none_any (q : RepP K F none H p) : RepP K F' none H' p := by
  cases p with
  | none => trivial
  | some xs => exact q.elim
/-- a result's list is new against the entry -/
theorem RepB.new0 {a : Addr} (R : RepB K B F pa σ H e) (h : H a = none) : B.H0 a = none := by
  cases y : B.H0 a with
  | none => rfl
  | some o => exact absurd h (R.po.dm a (by rw [y]; simp))
theorem RepE.notOwned {a : Addr} (R : RepE K F pa σ H e) (h : H a = none) : ∀ (j : Nat) (s : Sl), e.r[j]? = some s → owned s = true → σ[j]? = some (some (.ref a)) → False := by
  intro j s hj o g
  have q := R.sl j s hj
  cases s with
  | l xs =>
    obtain ⟨b, vs, e1, _, _, e2, _⟩ := q
    rw [g] at e1; cases e1
    rw [h] at e2; cases e2
  | m kvs =>
    obtain ⟨b, e1, _, _, e2⟩ := q
    rw [g] at e1; cases e1
    exact e2.there h
  | _ => cases o
/-- a slot takes a thing of one's own -/
theorem RepB.setO {i : Nat} {s : Sl} {a : Addr} (R : RepB K B F pa σ H e) (q : Dg.SlR K F pa H (some (some (.ref a))) s) (n0 : B.H0 a = none)
    (no : ∀ (j : Nat) (t : Sl), e.r[j]? = some t → owned t = true → j ≠ i → σ[j]? = some (some (.ref a)) → False) : RepB K B F pa (σ.set i (some (.ref a))) H ⟨e.r.set i s, e.p⟩ := by
  have key : ∀ (j : Nat) (t : Sl), (e.r.set i s)[j]? = some t → (j = i ∧ t = s ∧ i < e.r.length) ∨ (i ≠ j ∧ e.r[j]? = some t) := fun j t h => by
    by_cases hj : i = j
    · subst hj
      by_cases hl : i < e.r.length
      · rw [List.getElem?_set_self hl] at h; cases h; exact .inl ⟨rfl, rfl, hl⟩
      · rw [List.getElem?_eq_none (by simp only [List.length_set]; omega)] at h; cases h
    · rw [List.getElem?_set_ne hj] at h
      exact .inr ⟨hj, h⟩
  have hσ : i < e.r.length → (σ.set i (some (V.ref a)))[i]? = some (some (.ref a)) := fun hl => List.getElem?_set_self (by rw [R.re.len]; exact hl)
  refine ⟨⟨by simp only [List.length_set, R.re.len], fun j t h => ?_, fun j k t u b hjk h1 h2 o1 o2 g1 g2 => ?_, R.re.pl, R.re.fo⟩, R.po, R.pq, fun j t b h o g => ?_, R.an⟩
  · rcases key j t h with ⟨rfl, rfl, hl⟩ | ⟨hj, h⟩
    · rw [hσ hl]; exact q
    · rw [List.getElem?_set_ne hj]
      exact R.re.sl j t h
  · rcases key j t h1 with ⟨ej, et, hl⟩ | ⟨hj, h1'⟩
    · rcases key k u h2 with ⟨ek, _, _⟩ | ⟨hk, h2'⟩
      · exact hjk (ej.trans ek.symm)
      · rw [ej, hσ hl] at g1
        cases g1
        rw [List.getElem?_set_ne hk] at g2
        exact no k u h2' o2 (Ne.symm hk) g2
    · rw [List.getElem?_set_ne hj] at g1
      rcases key k u h2 with ⟨ek, et, hl⟩ | ⟨hk, h2'⟩
      · rw [ek, hσ hl] at g2
        cases g2
        exact no j t h1' o1 (Ne.symm hj) g1
      · rw [List.getElem?_set_ne hk] at g2
        exact R.re.ow j k t u b hjk h1' h2' o1 o2 g1 g2
  · rcases key j t h with ⟨rfl, rfl, hl⟩ | ⟨hj, h⟩
    · rw [hσ hl] at g
      cases g
      exact n0
    · rw [List.getElem?_set_ne hj] at g
      exact R.ow j t b h o g
/-- one's own list in slot i is changed -/
theorem RepB.updL {i : Nat} {xs ys : List D} {a : Addr} {vs ws : List V} (R : RepB K B F pa σ H e) (hi : e.r[i]? = some (.l xs)) (g : σ[i]? = some (some (.ref a))) (ha : H a = some (.lst vs)) (nf : ¬ F a) (np : pa ≠ some a)
    (rn : RpAll K F H ws ys) : RepB K B F pa σ (upd H a (.lst ws)) ⟨e.r.set i (.l ys), e.p⟩ := by
  have n0 := R.ow i _ a hi rfl g
  have G : Ext F H F (upd H a (.lst ws)) := grow_ext ha nf
  have hlt : i < e.r.length := (List.getElem?_eq_some_iff.mp hi).1
  have other : ∀ b, b ≠ a → (upd H a (.lst ws)) b = H b := fun b h => upd_ne h
  have po : Post B.F0 B.p0 B.H0 F (upd H a (.lst ws)) := by
    refine ⟨R.po.fr, fun b h => ?_, fun b o h n => ?_, fun b h => ?_⟩
    · rcases R.po.nw b h with z | ⟨z, z'⟩
      · exact .inl z
      · refine .inr ⟨z, ?_⟩
        by_cases hb : b = a
        · rw [hb, upd_same]; simp
        · rw [other b hb]; exact z'
    · have hb : b ≠ a := ne_of_none h n0
      rw [other b hb]
      exact R.po.kp b o h n
    · have z := R.po.dm b h
      by_cases hb : b = a
      · rw [hb, upd_same]; simp
      · rw [other b hb]; exact z
  refine ⟨⟨by simp only [List.length_set, R.re.len], fun j t h => ?_, fun j k t u b hjk h1 h2 o1 o2 g1 g2 => ?_, ?_, fun b h => ?_⟩, po, R.pq, fun j t b h o g' => ?_, B.cl _ _ _ _ G R.an⟩
  · simp only at h
    by_cases hj : i = j
    · subst hj
      rw [List.getElem?_set_self hlt] at h
      cases h
      exact ⟨a, ws, g, nf, np, upd_same, rn.ext G⟩
    · rw [List.getElem?_set_ne hj] at h
      have q := R.re.sl j t h
      cases t with
      | un => trivial
      | d x =>
        obtain ⟨v, e1, e2⟩ := q
        exact ⟨v, e1, e2.ext G⟩
      | l zs =>
        obtain ⟨b, us, e1, e2, e3, e4, e5⟩ := q
        have hb : b ≠ a := fun z => by
          subst z
          exact R.re.ow i j _ _ b hj hi h rfl rfl g e1
        exact ⟨b, us, e1, e2, e3, by rw [other b hb]; exact e4, e5.ext G⟩
      | m kvs =>
        obtain ⟨b, e1, e2, e3, es, e4, e5⟩ := q
        have hb : b ≠ a := fun z => by
          subst z
          exact R.re.ow i j _ _ b hj hi h rfl rfl g e1
        exact ⟨b, e1, e2, e3, es, by rw [other b hb]; exact e4, paired_imp e5 fun _ _ z => ⟨z.1, z.2.ext G⟩⟩
      | pool => exact q
      | s ns =>
        obtain ⟨b, e1, e2⟩ := q
        refine ⟨b, e1, ?_⟩
        rcases e2 with ⟨o, e2⟩ | e2
        · refine .inl ⟨o, ?_⟩
          rw [other b (ne_of e2 ha (by intro z; cases z))]
          exact e2
        · exact .inr e2
  · simp only at h1 h2
    have key : ∀ (j : Nat) (t : Sl), (e.r.set i (.l ys))[j]? = some t → owned t = true → ∃ t', e.r[j]? = some t' ∧ owned t' = true := fun j t h o => by
      by_cases hj : i = j
      · subst hj
        exact ⟨_, hi, rfl⟩
      · rw [List.getElem?_set_ne hj] at h
        exact ⟨t, h, o⟩
    obtain ⟨t', h1', o1'⟩ := key j t h1 o1
    obtain ⟨u', h2', o2'⟩ := key k u h2 o2
    exact R.re.ow j k t' u' b hjk h1' h2' o1' o2' g1 g2
  · have q := R.re.pl
    cases pa with
    | none => exact q.none_any
    | some b =>
      simp only
      cases hp : e.p with
      | none => rw [hp] at q; exact q.elim
      | some zs =>
        rw [hp] at q
        obtain ⟨q1, us, q2, q3⟩ := q
        refine ⟨q1, us, ?_, q3.ext G⟩
        rw [other b fun z => np (by rw [z])]
        exact q2
  · have z := R.re.fo b h
    by_cases hb : b = a
    · rw [hb, upd_same]; simp
    · rw [other b hb]; exact z
  · simp only at h
    by_cases hj : i = j
    · subst hj
      exact R.ow i _ b hi rfl g'
    · rw [List.getElem?_set_ne hj] at h
      exact R.ow j t b h o g'
/-- the pool is changed -/
theorem RepB.updP {ys : List D} {a : Addr} {ws : List V} (R : RepB K B F (some a) σ H e) (rn : RpAll K F H ws ys) : RepB K B F (some a) σ (upd H a (.lst ws)) ⟨e.r, some ys⟩ := by
  obtain ⟨nf, vs, ha⟩ := R.re.pl.ok a rfl
  have G : Ext F H F (upd H a (.lst ws)) := grow_ext ha nf
  have other : ∀ b, b ≠ a → (upd H a (.lst ws)) b = H b := fun b h => upd_ne h
  have po : Post B.F0 B.p0 B.H0 F (upd H a (.lst ws)) := by
    refine ⟨R.po.fr, fun b h => ?_, fun b o h n => ?_, fun b h => ?_⟩
    · rcases R.po.nw b h with z | ⟨z, z'⟩
      · exact .inl z
      · refine .inr ⟨z, ?_⟩
        by_cases hb : b = a
        · rw [hb, upd_same]; simp
        · rw [other b hb]; exact z'
    · have hb : b ≠ a := fun z => by
        rcases R.pq with q | ⟨_, q⟩
        · exact n (by rw [z, q])
        · rw [z, q a rfl] at h; cases h
      rw [other b hb]
      exact R.po.kp b o h n
    · have z := R.po.dm b h
      by_cases hb : b = a
      · rw [hb, upd_same]; simp
      · rw [other b hb]; exact z
  refine ⟨⟨R.re.len, fun j t h => ?_, R.re.ow, ⟨nf, ws, upd_same, rn.ext G⟩, fun b h => ?_⟩, po, R.pq, R.ow, B.cl _ _ _ _ G R.an⟩
  · have q := R.re.sl j t h
    cases t with
    | un => trivial
    | d x =>
      obtain ⟨v, e1, e2⟩ := q
      exact ⟨v, e1, e2.ext G⟩
    | l zs =>
      obtain ⟨b, us, e1, e2, e3, e4, e5⟩ := q
      have hb : b ≠ a := fun z => e3 (by rw [z])
      exact ⟨b, us, e1, e2, e3, by rw [other b hb]; exact e4, e5.ext G⟩
    | m kvs =>
      obtain ⟨b, e1, e2, e3, es, e4, e5⟩ := q
      have hb : b ≠ a := fun z => e3 (by rw [z])
      exact ⟨b, e1, e2, e3, es, by rw [other b hb]; exact e4, paired_imp e5 fun _ _ z => ⟨z.1, z.2.ext G⟩⟩
    | pool => exact q
    | s ns =>
      obtain ⟨b, e1, e2⟩ := q
      refine ⟨b, e1, ?_⟩
      rcases e2 with ⟨o, e2⟩ | e2
      · refine .inl ⟨o, ?_⟩
        rw [other b (ne_of e2 ha (by intro z; cases z))]
        exact e2
      · exact .inr e2
  · have z := R.re.fo b h
    by_cases hb : b = a
    · rw [hb, upd_same]; simp
    · rw [other b hb]; exact z
end

/-! ### statements -/
namespace S
def seq (a b : SF) : SF := fun e => (a e).bind fun o => match o with
  | .nx e' => b e'
  | o => some o
def nop : SF := fun e => some (.nx e)
def set (i : Nat) (f : EF) : SF := fun e => (f e).bind fun a => (toD a.1).map fun d => .nx ⟨e.r.set i (.d d), a.2⟩
/-- the slot takes a new list as its own -/
def setL (i : Nat) (f : EF) : SF := fun e => (f e).bind fun a => match a.1 with
  | .l xs => some (.nx ⟨e.r.set i (.l xs), a.2⟩)
  | _ => none
def setM (i : Nat) (f : EF) : SF := fun e => (f e).bind fun a => match a.1 with
  | .m xs => some (.nx ⟨e.r.set i (.m xs), a.2⟩)
  | _ => none
/-- the pool is made -/
def setPool (i : Nat) (f : EF) : SF := fun e => (f e).bind fun a => match a.1, a.2 with
  | .l xs, none => some (.nx ⟨e.r.set i .pool, some xs⟩)
  | _, _ => none
def tup (t : TF) (f : EF) : SF := fun e => (f e).bind fun a => (toD a.1).bind fun d => (t d e.r).map fun r => .nx ⟨r, a.2⟩
def ret (f : EF) : SF := fun e => (f e).map fun a => .rt a.1 a.2
/-- return of one's own list or dict -/
def retV (i : Nat) : SF := fun e => match e.r[i]? with
  | some (.l xs) => some (.rt (.l xs) e.p)
  | some (.m xs) => some (.rt (.m xs) e.p)
  | some (.d x) => some (.rt (.d x) e.p)
  | _ => none
/-- one's own list is from now on data -/
def frz (i : Nat) : SF := fun e => match e.r[i]? with
  | some (.l xs) => some (.nx ⟨e.r.set i (.d (.list xs)), e.p⟩)
  | _ => none
def ite (c : BF) (a b : SF) : SF := fun e => (c e).bind fun k => if k.1 = true then a (e.at k.2) else b (e.at k.2)
def whl (c : BF) (b : SF) : Nat → SF
  | 0 => fun _ => none
  | n + 1 => fun e => (c e).bind fun k => if k.1 = true then (b (e.at k.2)).bind (fun o => match o with
      | .nx e' => whl c b n e'
      | .ct e' => whl c b n e'
      | .bk e' => some (.nx e')
      | .rt r p => some (.rt r p)) else some (.nx (e.at k.2))
def forL (t : TF) (b : SF) : List D → SF
  | [] => fun e => some (.nx e)
  | d :: ds => fun e => (t d e.r).bind fun r => (b ⟨r, e.p⟩).bind fun o => match o with
      | .nx e' => forL t b ds e'
      | .ct e' => forL t b ds e'
      | .bk e' => some (.nx e')
      | .rt r p => some (.rt r p)
def for_ (it : IF) (t : TF) (b : SF) : SF := fun e => (it e).bind fun a => forL t b a.1 (e.at a.2)
def append (i : Nat) (f : EF) : SF := fun e => match e.r[i]? with
  | some (.l xs) => (f e).bind fun a => (toD a.1).bind fun x => if xs.length < sizeLine then some (.nx ⟨e.r.set i (.l (xs ++ [x])), a.2⟩) else none
  | _ => none
def extend (i : Nat) (f : EF) : SF := fun e => match e.r[i]? with
  | some (.l xs) => (f e).bind fun a => match toD a.1 with
      | some (.list ys) => if xs.length + ys.length ≤ sizeLine then some (.nx ⟨e.r.set i (.l (xs ++ ys)), a.2⟩) else none
      | _ => none
  | _ => none
/-- target = xs.pop() -/
def pop (t : TF) (i : Nat) : SF := fun e => match e.r[i]? with
  | some (.l xs) => (xs[xs.length - 1]?).bind fun d => (t d (e.r.set i (.l xs.dropLast))).map fun r => .nx ⟨r, e.p⟩
  | _ => none
/-- xs[j] = v -/
def setIx (i : Nat) (fj fv : EF) : SF := fun e => (fv e).bind fun a => (toD a.1).bind fun x => (fj (e.at a.2)).bind fun b => match e.r[i]?, b.1 with
  | some (.l xs), .d (.int k) => (ixN xs.length k).map fun j => .nx ⟨e.r.set i (.l (xs.set j x)), b.2⟩
  | _, _ => none
/-- pool[k] = v -/
def setP (i k : Nat) (fv : EF) : SF := fun e => (fv e).bind fun a => (toD a.1).bind fun x => match e.r[i]?, a.2 with
  | some .pool, some xs => if k < xs.length then some (.nx ⟨e.r, some (xs.set k x)⟩) else none
  | _, _ => none
/-- x += e of ints -/
def inc (i : Nat) (f : EF) : SF := fun e => match e.r[i]? with
  | some (.d (.int x)) => (f e).bind fun a => match a.1 with
      | .d (.int y) => some (.nx ⟨e.r.set i (.d (.int (x + y))), a.2⟩)
      | _ => none
  | _ => none
end S
section
variable {X : Cx} {st : Stmt} {sts : List Stmt} {a b : SF} {e : Expr} {f : EF} {c : BF} {pos : Pos}
theorem dss_nil : DSs X [] S.nop := fun B => pss_imp pss_nil fun Z σ H w => by
  obtain ⟨F, pa, e, o, R, ev, q⟩ := w
  cases ev
  exact q F pa σ H R
theorem tSeq_of {K : PySem.W.Frag} {B : Bse} {Z : Ends} {σ : St} {H : Hp} (w : trS K B (S.seq a b) Z σ H) : tSeq (trS K B a) (trS K B b) Z σ H := by
  obtain ⟨F, pa, e, o, R, ev, q⟩ := w
  simp only [S.seq, Option.bind_eq_some_iff] at ev
  obtain ⟨o1, e1, e2⟩ := ev
  refine ⟨F, pa, e, o1, R, e1, ?_⟩
  cases o1 with
  | nx e' => exact fun F' pa' σ' H' R' => ⟨F', pa', e', o, R', e2, q⟩
  | bk e' => cases e2; exact q
  | ct e' => cases e2; exact q
  | rt r p => cases e2; exact q
theorem dss_cons (h1 : DS X st a) (h2 : DSs X sts b) : DSs X (st :: sts) (S.seq a b) := fun B => pss_imp (pss_cons (h1 B) (h2 B)) fun _ _ _ w => tSeq_of w
theorem dss_one (h1 : DS X st a) : DSs X [st] a := fun B => pss_one (h1 B)
theorem EndOk.mono {K : PySem.W.Frag} {B : Bse} {Z : Ends} {o : Out} (h : EndOk K B Z o) : EndOk K B Z o := h
/-- a step that stands nowhere in the text: one's own list becomes data -/
theorem dss_frz {i : Nat} (h : DSs X sts b) : DSs X sts (S.seq (S.frz i) b) := fun B => pss_imp (h B) fun Z σ H w => by
  obtain ⟨F, pa, e, o, R, ev, q⟩ := w
  simp only [S.seq, Option.bind_eq_some_iff] at ev
  obtain ⟨o1, e1, e2⟩ := ev
  unfold S.frz at e1
  split at e1
  · rename_i xs hi
    cases e1
    obtain ⟨ad, vs, e3, nf, np, ha, hv⟩ := R.re.sl i _ hi
    have wk : ∀ b, F b → F b ∨ b = ad := fun b h => .inl h
    have fo' : ∀ b, (F b ∨ b = ad) → H b ≠ none := fun b h => by
      rcases h with h | rfl
      · exact R.re.fo b h
      · rw [ha]; simp
    have E1 : Ext F H (fun b => F b ∨ b = ad) H := ⟨fun b h => ⟨.inl h, rfl⟩, fun _ _ h => h⟩
    have hlt : i < e.r.length := (List.getElem?_eq_some_iff.mp hi).1
    have key : ∀ (j : Nat) (t : Sl), (e.r.set i (Sl.d (.list xs)))[j]? = some t → (j = i ∧ t = .d (.list xs)) ∨ (i ≠ j ∧ e.r[j]? = some t) := fun j t h => by
      by_cases hj : i = j
      · subst hj
        rw [List.getElem?_set_self hlt] at h; cases h; exact .inl ⟨rfl, rfl⟩
      · rw [List.getElem?_set_ne hj] at h
        exact .inr ⟨hj, h⟩
    refine ⟨fun b => F b ∨ b = ad, pa, _, o, ⟨⟨by simp only [List.length_set, R.re.len], fun j t h => ?_, fun j k t u b hjk h1 h2 o1 o2 g1 g2 => ?_, ?_, fo'⟩, ⟨fun b h => .inl (R.po.fr b h), fun b h => ?_, R.po.kp, R.po.dm⟩, R.pq, fun j t b h o' g => ?_, B.cl _ _ _ _ E1 R.an⟩, e2, q⟩
    · rcases key j t h with ⟨rfl, rfl⟩ | ⟨hj, h⟩
      · exact ⟨.ref ad, e3, .lst ⟨.inr rfl, ha⟩ (hv.weak wk)⟩
      · have z := R.re.sl j t h
        cases t with
        | un => trivial
        | d x =>
          obtain ⟨v, e4, e5⟩ := z
          exact ⟨v, e4, e5.weak wk⟩
        | l zs =>
          obtain ⟨b, us, e4, e5, e6, e7, e8⟩ := z
          refine ⟨b, us, e4, fun y => ?_, e6, e7, e8.weak wk⟩
          rcases y with y | rfl
          · exact e5 y
          · exact R.re.ow i j _ _ _ hj hi h rfl rfl e3 e4
        | m kvs =>
          obtain ⟨b, e4, e5, e6, e7⟩ := z
          refine ⟨b, e4, fun y => ?_, e6, e7.weak wk⟩
          rcases y with y | rfl
          · exact e5 y
          · exact R.re.ow i j _ _ _ hj hi h rfl rfl e3 e4
        | pool => exact z
        | s ns => exact z
    · rcases key j t h1 with ⟨_, rfl⟩ | ⟨_, h1⟩
      · cases o1
      · rcases key k u h2 with ⟨_, rfl⟩ | ⟨_, h2⟩
        · cases o2
        · exact R.re.ow j k t u b hjk h1 h2 o1 o2 g1 g2
    · have z := R.re.pl
      cases pa with
      | none => exact z.none_any
      | some b =>
        simp only
        cases hp : e.p with
        | none => rw [hp] at z; exact z.elim
        | some zs =>
          rw [hp] at z
          obtain ⟨q1, us, q2, q3⟩ := z
          refine ⟨fun y => ?_, us, q2, q3.weak wk⟩
          rcases y with y | y
          · exact q1 y
          · exact np (by rw [y])
    · rcases h with h | rfl
      · exact R.po.nw b h
      · exact .inr ⟨R.ow i _ _ hi rfl e3, by rw [ha]; simp⟩
    · rcases key j t h with ⟨_, rfl⟩ | ⟨_, h⟩
      · cases o'
      · exact R.ow j t b h o' g
  · cases e1
theorem ds_ite {ce : Expr} {sa sb : List Stmt} (hc : DB X ce c) (ha : DSs X sa a) (hb : DSs X sb b) : DS X (.If ce sa sb pos) (S.ite c a b) := fun B => ps_imp (ps_if hc (ha B) (hb B)) fun Z σ H w => by
  obtain ⟨F, pa, e, o, R, ev, q⟩ := w
  simp only [S.ite, Option.bind_eq_some_iff] at ev
  obtain ⟨⟨k, p⟩, e1, e2⟩ := ev
  refine ⟨F, pa, e, k, p, R.re, e1, fun F1 H1 P1 rp1 => ?_⟩
  simp only at e2
  split
  · rename_i hk
    rw [if_pos hk] at e2
    exact ⟨F1, pa, _, o, R.post P1 rp1, e2, q⟩
  · rename_i hk
    rw [if_neg hk] at e2
    exact ⟨F1, pa, _, o, R.post P1 rp1, e2, q⟩
/-- return e -/
theorem ds_ret (h : DE X e f) : DS X (.Return (some e) pos) (S.ret f) := fun B => ps_imp (ps_ret h) fun Z σ H w => by
  obtain ⟨F, pa, e, o, R, ev, q⟩ := w
  simp only [S.ret, Option.map_eq_some_iff] at ev
  obtain ⟨⟨r, p⟩, e1, rfl⟩ := ev
  refine ⟨F, pa, e, r, p, R.re, e1, fun v F1 H1 P1 rr rp1 => ?_⟩
  have R1 := R.post P1 rp1
  refine q v F1 H1 R1.po (rr.back R.po) fun hs => ?_
  rcases R.pq with z | ⟨z, _⟩
  · rw [← z]; exact rp1
  · rw [z] at hs; cases hs
theorem ds_retV {i : Nat} {x : Str} {px : Pos} (h : PE X (.Name x px) (tVar i)) : DS X (.Return (some (.Name x px)) pos) (S.retV i) := fun B => ps_imp (ps_ret h) fun Z σ H w => by
  obtain ⟨F, pa, e, o, R, ev, q⟩ := w
  have fin : ∀ (v : V) (r : RV), RepR X.K F B.H0 H v r → EndOk X.K B Z (.rt r e.p) → Z.rt v H := fun v r rr z => by
    refine z v F H R.po rr fun hs => ?_
    rcases R.pq with y | ⟨y, _⟩
    · rw [← y]; exact R.re.pl
    · rw [y] at hs; cases hs
  unfold S.retV at ev
  split at ev
  · rename_i xs hi
    cases ev
    obtain ⟨ad, vs, e3, nf, np, ha, hv⟩ := R.re.sl i _ hi
    exact ⟨.ref ad, e3, fin _ (.l xs) ⟨ad, vs, rfl, R.ow i _ _ hi rfl e3, nf, ha, hv⟩ q⟩
  · rename_i xs hi
    cases ev
    obtain ⟨ad, e3, nf, np, hv⟩ := R.re.sl i _ hi
    exact ⟨.ref ad, e3, fin _ (.m xs) ⟨ad, rfl, R.ow i _ _ hi rfl e3, nf, hv⟩ q⟩
  · rename_i xs hi
    cases ev
    obtain ⟨v, e3, hv⟩ := R.re.sl i _ hi
    exact ⟨v, e3, fin v (.d xs) hv q⟩
  · cases ev
/-- name = value: data -/
theorem tSet_of {K : PySem.W.Frag} {B : Bse} {Z : Ends} {σ : St} {H : Hp} {i : Nat} (w : trS K B (S.set i f) Z σ H) : tAsg (trE K f) (gName i) Z σ H := by
  obtain ⟨F, pa, e, o, R, ev, q⟩ := w
  simp only [S.set, Option.bind_eq_some_iff, Option.map_eq_some_iff] at ev
  obtain ⟨⟨r, p⟩, e1, d, e2, rfl⟩ := ev
  refine ⟨F, pa, e, r, p, R.re, e1, fun v F1 H1 P1 rr rp1 => ?_⟩
  obtain ⟨F2, P2, r2, rp2⟩ := freeze P1 rr rp1 e2 R.re.pl.ok
  exact q F2 pa _ H1 ((R.post P2 rp2).setD r2)
theorem tSetL_of {K : PySem.W.Frag} {B : Bse} {Z : Ends} {σ : St} {H : Hp} {i : Nat} (w : trS K B (S.setL i f) Z σ H) : tAsg (trE K f) (gName i) Z σ H := by
  obtain ⟨F, pa, e, o, R, ev, q⟩ := w
  simp only [S.setL, Option.bind_eq_some_iff] at ev
  obtain ⟨⟨r, p⟩, e1, e2⟩ := ev
  split at e2
  · rename_i xs hr
    simp only at hr
    subst hr
    cases e2
    refine ⟨F, pa, e, _, p, R.re, e1, fun v F1 H1 P1 rr rp1 => ?_⟩
    obtain ⟨ad, vs, rfl, hn, nf, ha, hv⟩ := rr
    have R1 := R.post P1 rp1
    have np : pa ≠ some ad := fun z => by
      obtain ⟨_, us, k⟩ := R.re.pl.ok ad z
      rw [hn] at k; cases k
    exact q F1 pa _ H1 (R1.setO (s := .l xs) ⟨ad, vs, rfl, nf, np, ha, hv⟩ (R.new0 hn) fun j t h1 h2 _ h3 => R.re.notOwned hn j t h1 h2 h3)
  · cases e2
theorem tSetM_of {K : PySem.W.Frag} {B : Bse} {Z : Ends} {σ : St} {H : Hp} {i : Nat} (w : trS K B (S.setM i f) Z σ H) : tAsg (trE K f) (gName i) Z σ H := by
  obtain ⟨F, pa, e, o, R, ev, q⟩ := w
  simp only [S.setM, Option.bind_eq_some_iff] at ev
  obtain ⟨⟨r, p⟩, e1, e2⟩ := ev
  split at e2
  · rename_i xs hr
    simp only at hr
    subst hr
    cases e2
    refine ⟨F, pa, e, _, p, R.re, e1, fun v F1 H1 P1 rr rp1 => ?_⟩
    obtain ⟨ad, rfl, hn, nf, hv⟩ := rr
    have R1 := R.post P1 rp1
    have np : pa ≠ some ad := fun z => by
      obtain ⟨_, us, k⟩ := R.re.pl.ok ad z
      rw [hn] at k; cases k
    exact q F1 pa _ H1 (R1.setO (s := .m xs) ⟨ad, rfl, nf, np, hv⟩ (R.new0 hn) fun j t h1 h2 _ h3 => R.re.notOwned hn j t h1 h2 h3)
  · cases e2
theorem tSetPool_of {K : PySem.W.Frag} {B : Bse} {Z : Ends} {σ : St} {H : Hp} {i : Nat} (hp0 : B.p0 = none) (w : trS K B (S.setPool i f) Z σ H) : tAsg (trE K f) (gName i) Z σ H := by
  obtain ⟨F, pa, e, o, R, ev, q⟩ := w
  simp only [S.setPool, Option.bind_eq_some_iff] at ev
  obtain ⟨⟨r, p⟩, e1, e2⟩ := ev
  split at e2
  · rename_i xs hr hp
    simp only at hr hp
    subst hr hp
    cases e2
    refine ⟨F, pa, e, _, none, R.re, e1, fun v F1 H1 P1 rr rp1 => ?_⟩
    obtain ⟨ad, vs, rfl, hn, nf, ha, hv⟩ := rr
    have hpa : pa = none := by
      cases pa with
      | none => rfl
      | some b => exact rp1.elim
    subst hpa
    have R1 := R.post P1 rp1
    have n0 := R.new0 hn
    have ns := R1.re.sl
    refine q F1 (some ad) (σ.set i (some (.ref ad))) H1 ⟨⟨by simp only [List.length_set, R.re.len], fun j t h => ?_, fun j k t u b hjk h1 h2 o1 o2 g1 g2 => ?_, ⟨nf, vs, ha, hv⟩, R1.re.fo⟩, R1.po, .inr ⟨hp0, fun b hb => by cases hb; exact n0⟩, fun j t b h o g => ?_, R1.an⟩
    · simp only at h
      by_cases hj : i = j
      · subst hj
        by_cases hl : i < e.r.length
        · rw [List.getElem?_set_self hl] at h
          cases h
          exact ⟨ad, List.getElem?_set_self (by rw [R.re.len]; exact hl), rfl⟩
        · rw [List.getElem?_eq_none (by simp only [List.length_set]; omega)] at h; cases h
      · rw [List.getElem?_set_ne hj] at h
        rw [List.getElem?_set_ne hj]
        have z := ns j t h
        cases t with
        | un => trivial
        | d x => exact z
        | l zs =>
          obtain ⟨b, us, e4, e5, e6, e7, e8⟩ := z
          refine ⟨b, us, e4, e5, fun y => ?_, e7, e8⟩
          cases y
          exact R.re.notOwned hn j _ h rfl e4
        | m kvs =>
          obtain ⟨b, e4, e5, e6, e7⟩ := z
          refine ⟨b, e4, e5, fun y => ?_, e7⟩
          cases y
          exact R.re.notOwned hn j _ h rfl e4
        | pool =>
          obtain ⟨b, _, z2⟩ := z
          cases z2
        | s ns => exact z
    · simp only at h1 h2
      have n1 : i ≠ j := fun z => by
        subst z
        by_cases hl : i < e.r.length
        · rw [List.getElem?_set_self hl] at h1; cases h1; cases o1
        · rw [List.getElem?_eq_none (by simp only [List.length_set]; omega)] at h1; cases h1
      have n2 : i ≠ k := fun z => by
        subst z
        by_cases hl : i < e.r.length
        · rw [List.getElem?_set_self hl] at h2; cases h2; cases o2
        · rw [List.getElem?_eq_none (by simp only [List.length_set]; omega)] at h2; cases h2
      rw [List.getElem?_set_ne n1] at h1 g1
      rw [List.getElem?_set_ne n2] at h2 g2
      exact R.re.ow j k t u b hjk h1 h2 o1 o2 g1 g2
    · simp only at h
      have n1 : i ≠ j := fun z => by
        subst z
        by_cases hl : i < e.r.length
        · rw [List.getElem?_set_self hl] at h; cases h; cases o
        · rw [List.getElem?_eq_none (by simp only [List.length_set]; omega)] at h; cases h
      rw [List.getElem?_set_ne n1] at h g
      exact R.ow j t b h o g
  · cases e2
section
variable {i : Nat} {x : Str} {pos' : Pos}
theorem ds_set (hN : X.N.Nodup) (h : DE X e f) (hi : X.N[i]? = some x := by rfl) (hx : Loc X.env.scope x := by first | exact Or.inl rfl | exact Or.inr rfl) (hs : swapsWith e (some (.Name x pos')) pos.line X.env = pure false := by rfl)
    (hf : X.fn x = true ∨ X.env.scope.names.lookup x = some .local := by first | exact .inl rfl | exact .inr rfl) : DS X (.Assign [.Name x pos'] e pos) (S.set i f) := fun B => ps_imp (ps_set hN hi hx h hs hf) fun _ _ _ w => tSet_of w
theorem ds_setL (hN : X.N.Nodup) (h : DE X e f) (hi : X.N[i]? = some x := by rfl) (hx : Loc X.env.scope x := by first | exact Or.inl rfl | exact Or.inr rfl) (hs : swapsWith e (some (.Name x pos')) pos.line X.env = pure false := by rfl)
    (hf : X.fn x = true ∨ X.env.scope.names.lookup x = some .local := by first | exact .inl rfl | exact .inr rfl) : DS X (.Assign [.Name x pos'] e pos) (S.setL i f) := fun B => ps_imp (ps_set hN hi hx h hs hf) fun _ _ _ w => tSetL_of w
theorem ds_setM (hN : X.N.Nodup) (h : DE X e f) (hi : X.N[i]? = some x := by rfl) (hx : Loc X.env.scope x := by first | exact Or.inl rfl | exact Or.inr rfl) (hs : swapsWith e (some (.Name x pos')) pos.line X.env = pure false := by rfl)
    (hf : X.fn x = true ∨ X.env.scope.names.lookup x = some .local := by first | exact .inl rfl | exact .inr rfl) : DS X (.Assign [.Name x pos'] e pos) (S.setM i f) := fun B => ps_imp (ps_set hN hi hx h hs hf) fun _ _ _ w => tSetM_of w
/-- y = [..] on one line -/
theorem ds_lc {elt tg iter : Expr} {ifs : List Expr} {scope : Scope} {own : List (Str × Nat)} {lpos py : Pos} {y : Str} {it : IF} {ts : List Nat} {t : TF} {c : BF} {f : EF} (hc : X.calm = true) (hN : X.N.Nodup) (hi : DI X tg iter it) (ok : BlkOk X.N X.env.scope scope own)
    (hg : ∀ (s : Shared) (H : Hp) (C : Addr) (cl : List (Str × Addr)) (fp : List Addr), PG (X.blk s H scope (compEnvC scope cl C X.env) fp) tg (trG X.K ts t)) (ht : ∀ (s : Shared) (H : Hp) (C : Addr) (cl : List (Str × Addr)) (fp : List Addr), PTs (X.blk s H scope (compEnvC scope cl C X.env) fp) ifs (trB X.K c))
    (he : ∀ (s : Shared) (H : Hp) (C : Addr) (cl : List (Str × Addr)) (fp : List Addr), PE (X.blk s H scope (compEnvC scope cl C X.env) fp) elt (trE X.K f))
    (hsw : swapsWith (.ListComp elt [⟨tg, iter, ifs, 0⟩] scope lpos) (some (.Name y py)) pos.line X.env = pure true) (hy : X.N[i]? = some y := by rfl) (hyl : X.env.scope.names.lookup y = some .local := by rfl)
    (hts : ∀ j ∈ ts, j ∈ own.map (·.2) := by decide) (hs : ∀ x, foldedSetIterable iter X.env x = pure x := by intro _; rfl) :
    ∀ (own' : List Nat), own' = own.map (·.2) → DS X (.Assign [.Name y py] (.ListComp elt [⟨tg, iter, ifs, 0⟩] scope lpos) pos) (S.set i (E.lc own' it t c f)) ∧ DS X (.Assign [.Name y py] (.ListComp elt [⟨tg, iter, ifs, 0⟩] scope lpos) pos) (S.setL i (E.lc own' it t c f)) := fun own' ho => by
  subst ho
  have base := ps_setLc (pos := lpos) (spos := pos) hc hN hy hyl hsw hi ok hg ht he hs
  have go : ∀ {Z : Ends} {σ : St} {H : Hp}, tAsg (trE X.K (E.lc (own.map (·.2)) it t c f)) (gName i) Z σ H → tAsg (tLc (trI X.K it) (trG X.K ts t) (trB X.K c) (trE X.K f) (own.map (·.2))) (gName i) Z σ H := fun w => tLc_of hts w
  exact ⟨fun B => ps_imp base fun _ _ _ w => go (tSet_of w), fun B => ps_imp base fun _ _ _ w => go (tSetL_of w)⟩
end
/-- targets: a tuple taken apart -/
theorem tTup_of {K : PySem.W.Frag} {B : Bse} {Z : Ends} {σ : St} {H : Hp} {is : List Nat} {gs : TGs} (hg : gs = is.foldr (fun i g => gCons (gName i) g) gNil) (w : trS K B (S.tup (E.tT is) f) Z σ H) : tAsg (trE K f) (gTup K is.length gs) Z σ H := by
  obtain ⟨F, pa, e, o, R, ev, q⟩ := w
  simp only [S.tup, Option.bind_eq_some_iff, Option.map_eq_some_iff] at ev
  obtain ⟨⟨r, p⟩, e1, d, e2, r', e3, rfl⟩ := ev
  refine ⟨F, pa, e, r, p, R.re, e1, fun v F1 H1 P1 rr rp1 => ?_⟩
  obtain ⟨F2, P2, r2, rp2⟩ := freeze P1 rr rp1 e2 R.re.pl.ok
  have R2 := R.post P2 rp2
  unfold E.tT at e3
  split at e3
  · split at e3
    · rename_i ds hl
      cases e3
      cases r2 with
      | @tup ad vs _ s1 s2 =>
        refine ⟨ad, vs, rfl, SqT.of s1, by rw [s2.length, hl], ?_⟩
        -- the names one after the other, over RepB
        have run : ∀ (is : List Nat) (gs : TGs) (_ : gs = is.foldr (fun i g => gCons (gName i) g) gNil) (σ : St) (r : List Sl) (vs : List V) (ds : List D), RepB K B F2 pa σ H1 ⟨r, p⟩ → RpAll K F2 H1 vs ds → ds.length = is.length →
            EndOk K B Z (.nx ⟨(is.zip ds).foldl (fun r q => r.set q.1 (.d q.2)) r, p⟩) → gs vs σ H1 Z.nx := by
          intro is
          induction is with
          | nil =>
            intro gs hg σ r vs ds R rv hl q
            subst hg
            have e : ds = [] := List.length_eq_zero_iff.mp hl
            subst e
            cases rv
            exact ⟨rfl, q _ _ σ H1 R⟩
          | cons i is ih =>
            intro gs hg σ r vs ds R rv hl q
            subst hg
            cases ds with
            | nil => cases hl
            | cons d ds =>
              cases rv with
              | @cons v vs _ _ r1 r2 => exact ⟨v, vs, rfl, ih _ rfl (σ.set i (some v)) (r.set i (.d d)) vs ds (R.setD r1) r2 (by simpa using hl) q⟩
        exact run is gs hg σ e.r vs ds R2 s2 hl q
    · cases e3
  · cases e3
theorem ds_tup {tg : Expr} {is : List Nat} {gs : TGs} (h : DE X e f) (hg : PG X tg (gTup X.K is.length gs)) (he : gs = is.foldr (fun i g => gCons (gName i) g) gNil := by rfl)
    (hs : swapsWithSole [tg] e pos.line X.env = pure false := by rfl) (hw : swappedStores [tg] e X.env = pure none := by rfl) (h1 : (assignEach [tg] X.env).map (·.2) = [assign tg X.env] := by rfl) :
    DS X (.Assign [tg] e pos) (S.tup (E.tT is) f) := fun B => ps_imp (ps_asg h hg hs hw h1) fun _ _ _ w => tTup_of he w
/-- a, b = x, y -/
def S.par (i j : Nat) (f : AF) : SF := fun e => (f e).bind fun a => match a.1 with
  | [x, y] => some (.nx ⟨(e.r.set i (.d x)).set j (.d y), a.2⟩)
  | _ => none
theorem ds_par {i j : Nat} {x y : Str} {ea eb : Expr} {fA : AF} {px py pt : Pos} {kt k2 pt2} (hc : X.calm = true) (hN : X.N.Nodup) (ha : DA X [ea, eb] fA) (hij : i ≠ j := by decide) (hi : X.N[i]? = some x := by rfl) (hj : X.N[j]? = some y := by rfl)
    (hx : X.env.scope.names.lookup x = some .local := by rfl) (hy : X.env.scope.names.lookup y = some .local := by rfl)
    (hw : swappedStores [.Tuple [.Name x px, .Name y py] kt pt] (.Tuple [ea, eb] k2 pt2) X.env = pure (some [x, y]) := by rfl)
    (hs : swapsWithSole [.Tuple [.Name x px, .Name y py] kt pt] (.Tuple [ea, eb] k2 pt2) pos.line X.env = pure false := by rfl) :
    DS X (.Assign [.Tuple [.Name x px, .Name y py] kt pt] (.Tuple [ea, eb] k2 pt2) pos) (S.par i j fA) := fun B => ps_imp (ps_par hc hN hi hj hij hx hy ha hw hs) fun Z σ H w => by
  obtain ⟨F, pa, e, o, R, ev, q⟩ := w
  simp only [S.par, Option.bind_eq_some_iff] at ev
  obtain ⟨⟨ds, p⟩, e1, e2⟩ := ev
  split at e2
  · rename_i d1 d2 hd
    simp only at hd
    subst hd
    cases e2
    refine ⟨F, pa, e, _, p, R.re, e1, fun vs F1 H1 P1 rv rp1 => ?_⟩
    cases rv with
    | @cons v _ _ _ r1 rr =>
      cases rr with
      | @cons u _ _ _ r2 rr =>
        cases rr
        exact ⟨v, u, rfl, q F1 pa _ H1 (((R.post P1 rp1).setD r1).setD r2)⟩
  · cases e2
/-! ### loops -/
theorem ds_whl {ce : Expr} {body : List Stmt} (n : Nat) (hp : PassesOwn (model X.prog X.w) X.A X.env X.xe) (hc : DB X ce c) (hb : DSs X body b) : DS X (.While ce body [] pos) (S.whl c b n) := fun B => ps_imp (ps_while hp hc (hb B)) fun Z σ H w => by
  obtain ⟨F, pa, e, o, R, ev, q⟩ := w
  refine ⟨fun m σ H => ∃ F pa e, RepB X.K B F pa σ H e ∧ S.whl c b m e = some o, ⟨n, F, pa, e, R, ev⟩, ?_⟩
  rintro m σ H ⟨F, pa, e, R, ev⟩
  cases m with
  | zero => cases ev
  | succ m =>
    simp only [S.whl, Option.bind_eq_some_iff] at ev
    obtain ⟨⟨k, p⟩, e1, e2⟩ := ev
    refine ⟨F, pa, e, k, p, R.re, e1, fun F1 H1 P1 rp1 => ?_⟩
    have R1 := R.post P1 rp1
    simp only at e2
    dsimp only
    split
    · rename_i hk
      rw [if_pos hk] at e2
      simp only [Option.bind_eq_some_iff] at e2
      obtain ⟨o1, e3, e4⟩ := e2
      refine ⟨fun σ' H' => ∃ F' pa' e', RepB X.K B F' pa' σ' H' e' ∧ S.whl c b m e' = some o, fun σ' H' ⟨F', pa', e', R', z⟩ => ⟨m, Nat.lt_succ_self m, F', pa', e', R', z⟩, F1, pa, _, o1, R1, e3, ?_⟩
      cases o1 with
      | nx e' => exact fun F' pa' σ' H' R' => ⟨F', pa', e', R', e4⟩
      | ct e' => exact fun F' pa' σ' H' R' => ⟨F', pa', e', R', e4⟩
      | bk e' => cases e4; exact q
      | rt r p => cases e4; exact q
    · rename_i hk
      rw [if_neg hk] at e2
      cases e2
      exact q F1 pa σ H1 R1
theorem ds_for {tg iter : Expr} {body : List Stmt} {it : IF} {ts : List Nat} {t : TF} (hp : PassesOwn (model X.prog X.w) X.A X.env X.xe) (hc : X.calm = true) (hi : DI X tg iter it)
    (hg : ∀ (B : Bse), PG X tg (fun v σ H Q => ∃ F pa e d r', RepB X.K B F pa σ H e ∧ Rp X.K F H v d ∧ t d e.r = some r' ∧ ∀ σ', RepB X.K B F pa σ' H ⟨r', e.p⟩ → Q σ' H)) (hb : DSs X body b)
    (hs : ∀ x, foldedSetIterable iter X.env x = pure x := by intro _; rfl) : DS X (.For tg iter body [] pos) (S.for_ it t b) := fun B => by
  refine ⟨fun pins s σ H Z I w => ?_⟩
  obtain ⟨F, pa, e, o, R, ev, q⟩ := w
  simp only [S.for_, Option.bind_eq_some_iff] at ev
  obtain ⟨⟨ds, p⟩, e1, e2⟩ := ev
  -- the anchor: what stood when the walk began stands
  refine (ps_for (tb := fun Z σ H => ∃ (F1 : Addr → Prop) (H1 : Hp), trS X.K ⟨B.F0, B.H0, B.p0, fun F' H' => B.An F' H' ∧ Ext F1 H1 F' H', fun a b c d x y => ⟨B.cl a b c d x y.1, y.2.trans x⟩⟩ b Z σ H)
    (g := fun v σ H Q => ∃ (B : Bse), ∃ F pa e d r', RepB X.K B F pa σ H e ∧ Rp X.K F H v d ∧ t d e.r = some r' ∧ ∀ σ', RepB X.K B F pa σ' H ⟨r', e.p⟩ → Q σ' H)
    hp hc hi ⟨fun pins s σ H v u Q I r w => ?_⟩ ⟨fun pins s σ H Z I w => ?_⟩ hs).run pins s σ H Z I ?_
  · obtain ⟨B', w⟩ := w
    exact (hg B').run pins s σ H v u Q I r w
  · obtain ⟨F1, H1, w⟩ := w
    exact (hb _).run pins s σ H Z I w
  · refine ⟨F, pa, e, ds, p, R.re, e1, fun J F1 H1 P1 rp1 wk => ?_⟩
    have R1 := R.post P1 rp1
    let B1 : Bse := ⟨B.F0, B.H0, B.p0, fun F' H' => B.An F' H' ∧ Ext F1 H1 F' H', fun a b c d x y => ⟨B.cl a b c d x y.1, y.2.trans x⟩⟩
    have up : ∀ {F' : Addr → Prop} {pa' : Option Addr} {σ' : St} {H' : Hp} {e' : Ev}, RepB X.K B1 F' pa' σ' H' e' → RepB X.K B F' pa' σ' H' e' := fun z => ⟨z.re, z.po, z.pq, z.ow, z.an.1⟩
    refine ⟨fun i m σ' H' => ∃ F' pa' e', m = ds.length - i ∧ i ≤ ds.length ∧ RepB X.K B1 F' pa' σ' H' e' ∧ S.forL t b (ds.drop i) e' = some o, ⟨ds.length, F1, pa, _, by simp, Nat.zero_le _, ⟨R1.re, R1.po, R1.pq, R1.ow, R1.an, .refl⟩, by simpa using e2⟩, ?_⟩
    rintro i m σ' H' ⟨F', pa', e', rfl, hi', R', ev'⟩
    obtain ⟨wgo, wst⟩ := wk F' H' R'.an.2
    by_cases hlt : i < ds.length
    · right
      obtain ⟨go, yl⟩ := wgo i _ (List.getElem?_eq_getElem hlt)
      rw [List.drop_eq_getElem_cons hlt] at ev'
      simp only [S.forL, Option.bind_eq_some_iff] at ev'
      obtain ⟨r1, t1, o1, t2, t3⟩ := ev'
      refine ⟨go, fun σ2 H2 => ∃ F2 pa2 e2, RepB X.K B1 F2 pa2 σ2 H2 e2 ∧ S.forL t b (ds.drop (i + 1)) e2 = some o, fun σ2 H2 ⟨F2, pa2, e2, z1, z2⟩ => ⟨ds.length - (i + 1), by omega, F2, pa2, e2, rfl, hlt, z1, z2⟩, fun x H2 y => ?_⟩
      obtain ⟨rfl, rx⟩ := yl x H2 y
      refine ⟨B1, F', pa', e', _, r1, R', rx, t1, fun σ2 R2 => ⟨F1, H1, F', pa', _, o1, R2, t2, ?_⟩⟩
      cases o1 with
      | nx e3 => exact fun F3 pa3 σ3 H3 R3 => ⟨F3, pa3, e3, R3, t3⟩
      | ct e3 => exact fun F3 pa3 σ3 H3 R3 => ⟨F3, pa3, e3, R3, t3⟩
      | bk e3 => cases t3; exact fun F3 pa3 σ3 H3 R3 => q F3 pa3 σ3 H3 (up R3)
      | rt r p => cases t3; exact q
    · left
      have ei : i = ds.length := by omega
      subst ei
      rw [List.drop_length] at ev'
      cases ev'
      exact ⟨wst, q F' pa' σ' H' (up R')⟩
/-- the targets of a for -/
theorem fg_n {tg : Expr} {i : Nat} (h : PG X tg (gName i)) : ∀ (B : Bse), PG X tg (fun v σ H Q => ∃ F pa e d r', RepB X.K B F pa σ H e ∧ Rp X.K F H v d ∧ E.tN i d e.r = some r' ∧ ∀ σ', RepB X.K B F pa σ' H ⟨r', e.p⟩ → Q σ' H) := fun B =>
  pg_imp h fun v σ H Q w => by
    obtain ⟨F, pa, e, d, r', R, rp, ht, q⟩ := w
    cases ht
    exact q _ (R.setD rp)
theorem fg_t {es : List Expr} {k : Nat} {ps : Pos} {is : List Nat} {gs : TGs} (h : PG X (.Tuple es k ps) (gTup X.K is.length gs)) (hg : gs = is.foldr (fun i g => gCons (gName i) g) gNil := by rfl) :
    ∀ (B : Bse), PG X (.Tuple es k ps) (fun v σ H Q => ∃ F pa e d r', RepB X.K B F pa σ H e ∧ Rp X.K F H v d ∧ E.tT is d e.r = some r' ∧ ∀ σ', RepB X.K B F pa σ' H ⟨r', e.p⟩ → Q σ' H) := fun B =>
  pg_imp h fun v σ H Q w => by
    obtain ⟨F, pa, e, d, r', R, rp, ht, q⟩ := w
    unfold E.tT at ht
    split at ht
    · split at ht
      · rename_i ds hl
        cases ht
        cases rp with
        | @tup ad vs _ s1 s2 =>
          refine ⟨ad, vs, rfl, SqT.of s1, by rw [s2.length, hl], ?_⟩
          have run : ∀ (is : List Nat) (gs : TGs) (_ : gs = is.foldr (fun i g => gCons (gName i) g) gNil) (σ : St) (r : List Sl) (vs : List V) (ds : List D), RepB X.K B F pa σ H ⟨r, e.p⟩ → RpAll X.K F H vs ds → ds.length = is.length →
              (∀ σ', RepB X.K B F pa σ' H ⟨(is.zip ds).foldl (fun r q => r.set q.1 (.d q.2)) r, e.p⟩ → Q σ' H) → gs vs σ H Q := by
            intro is
            induction is with
            | nil =>
              intro gs hg σ r vs ds R rv hl q
              subst hg
              have e : ds = [] := List.length_eq_zero_iff.mp hl
              subst e
              cases rv
              exact ⟨rfl, q σ R⟩
            | cons i is ih =>
              intro gs hg σ r vs ds R rv hl q
              subst hg
              cases ds with
              | nil => cases hl
              | cons d ds =>
                cases rv with
                | @cons v vs _ _ r1 r2 => exact ⟨v, vs, rfl, ih _ rfl (σ.set i (some v)) (r.set i (.d d)) vs ds (R.setD r1) r2 (by simpa using hl) q⟩
          exact run is gs hg σ e.r vs ds R s2 hl q
      · cases ht
    · cases ht
/-! ### one's own lists -/
theorem ds_append {i : Nat} {x : Str} {px apos cpos : Pos} (hx : PE X (.Name x px) (tVar i)) (h : DE X e f) (hs : starEach [e] X.env = (false, eval e X.env) :: starEach [] X.env := by rfl)
    (hbase : attributeBase (.Name x px) "append" X.env (eval (.Name x px) X.env) = eval (.Name x px) X.env := by rfl)
    (hfew : ((backTo cpos (starEach [e] X.env)).all (fun x => !x.1) && (backToKw cpos (keywordEach [] X.env)).all (fun x => x.1.isSome)
      && decide ([e].length + ([] : List Keyword).length + (if ([] : List Keyword).isEmpty then 0 else 1) < 30)) = true := by rfl)
    (hline : (apos.endLine == cpos.line) = true := by rfl) (hplain : (backTo cpos (starEach [] X.env)).any (·.1) = false := by rfl)
    (hsw : swapsWith (.Call (.Attribute (.Name x px) "append" apos) [e] [] cpos) none pos.line X.env = pure false := by rfl) :
    DS X (.Expr (.Call (.Attribute (.Name x px) "append" apos) [e] [] cpos) pos) (S.append i f) := fun B =>
  ps_imp (ps_expr (pe_bm PySem.F.plainAttrs_list PySem.F.slot_list_append PySem.F.type_list_append mt_append hx (pa_cons h pa_nil hs) hbase hfew hline hs hplain) hsw) fun Z σ H w => by
    obtain ⟨F, pa, e, o, R, ev, q⟩ := w
    unfold S.append at ev
    split at ev
    · rename_i xs hi
      simp only [Option.bind_eq_some_iff] at ev
      obtain ⟨⟨r, p⟩, e1, d, e2, e3⟩ := ev
      split at e3
      · rename_i hz
        cases e3
        obtain ⟨ad, vs, e4, nf, np, ha, hv⟩ := R.re.sl i _ hi
        refine ⟨.ref ad, e4, .inl ⟨rfl, vs, SqL.of ha⟩, F, pa, e, r, p, R.re, e1, fun v F1 H1 P1 rr rp1 => ?_⟩
        obtain ⟨F2, P2, r2, rp2⟩ := freeze P1 rr rp1 e2 R.re.pl.ok
        have R2 := R.post P2 rp2
        obtain ⟨ad', vs', e4', nf', np', ha', hv'⟩ := R2.re.sl i _ hi
        rw [e4] at e4'
        cases e4'
        exact ⟨ad, vs', v, rfl, rfl, ha', by rw [hv'.length]; exact hz, q F2 pa σ _ (R2.updL hi e4 ha' nf' np' (hv'.append (.cons r2 .nil)))⟩
      · cases e3
    · cases ev
theorem ds_extend {i : Nat} {x : Str} {px apos cpos : Pos} (hx : PE X (.Name x px) (tVar i)) (h : DE X e f) (hs : starEach [e] X.env = (false, eval e X.env) :: starEach [] X.env := by rfl)
    (hbase : attributeBase (.Name x px) "extend" X.env (eval (.Name x px) X.env) = eval (.Name x px) X.env := by rfl)
    (hfew : ((backTo cpos (starEach [e] X.env)).all (fun x => !x.1) && (backToKw cpos (keywordEach [] X.env)).all (fun x => x.1.isSome)
      && decide ([e].length + ([] : List Keyword).length + (if ([] : List Keyword).isEmpty then 0 else 1) < 30)) = true := by rfl)
    (hline : (apos.endLine == cpos.line) = true := by rfl) (hplain : (backTo cpos (starEach [] X.env)).any (·.1) = false := by rfl)
    (hsw : swapsWith (.Call (.Attribute (.Name x px) "extend" apos) [e] [] cpos) none pos.line X.env = pure false := by rfl) :
    DS X (.Expr (.Call (.Attribute (.Name x px) "extend" apos) [e] [] cpos) pos) (S.extend i f) := fun B =>
  ps_imp (ps_expr (pe_bm PySem.F.plainAttrs_list PySem.F.slot_list_extend PySem.F.type_list_extend mt_extend hx (pa_cons h pa_nil hs) hbase hfew hline hs hplain) hsw) fun Z σ H w => by
    obtain ⟨F, pa, e, o, R, ev, q⟩ := w
    unfold S.extend at ev
    split at ev
    · rename_i xs hi
      simp only [Option.bind_eq_some_iff] at ev
      obtain ⟨⟨r, p⟩, e1, e3⟩ := ev
      split at e3
      · rename_i ys e2
        split at e3
        · rename_i hz
          cases e3
          obtain ⟨ad, vs, e4, nf, np, ha, hv⟩ := R.re.sl i _ hi
          refine ⟨.ref ad, e4, .inl ⟨rfl, vs, SqL.of ha⟩, F, pa, e, r, p, R.re, e1, fun v F1 H1 P1 rr rp1 => ?_⟩
          obtain ⟨F2, P2, r2, rp2⟩ := freeze P1 rr rp1 e2 R.re.pl.ok
          have R2 := R.post P2 rp2
          obtain ⟨ad', vs', e4', nf', np', ha', hv'⟩ := R2.re.sl i _ hi
          rw [e4] at e4'
          cases e4'
          cases r2 with
          | @lst b us _ l1 l2 =>
            exact ⟨ad, b, vs', us, rfl, rfl, ha', l1.2, by rw [hv'.length, l2.length]; exact hz, q F2 pa σ _ (R2.updL hi e4 ha' nf' np' (hv'.append l2))⟩
        · cases e3
      · cases e3
    · cases ev
/-- xs.pop() into a target -/
def trPop (K : PySem.W.Frag) (B : Bse) (t : TF) : TG := fun v σ H Q => ∃ F pa e d r', RepB K B F pa σ H e ∧ Rp K F H v d ∧ t d e.r = some r' ∧ ∀ σ', RepB K B F pa σ' H ⟨r', e.p⟩ → Q σ' H
theorem tPop_of {K : PySem.W.Frag} {B : Bse} {Z : Ends} {σ : St} {H : Hp} {i : Nat} {t : TF} {g : TG} (hg : ∀ v σ H Q, trPop K B t v σ H Q → g v σ H Q) (w : trS K B (S.pop t i) Z σ H) : tAsg (tBM0 K "list" rPop (tVar i)) g Z σ H := by
  obtain ⟨F, pa, e, o, R, ev, q⟩ := w
  unfold S.pop at ev
  split at ev
  · rename_i xs hi
    simp only [Option.bind_eq_some_iff, Option.map_eq_some_iff] at ev
    obtain ⟨d, e1, r', e2, rfl⟩ := ev
    obtain ⟨ad, vs, e4, nf, np, ha, hv⟩ := R.re.sl i _ hi
    obtain ⟨v, e5, e6⟩ := hv.get e1
    have G : Ext F H F (upd H ad (.lst vs.dropLast)) := grow_ext ha nf
    refine ⟨.ref ad, e4, .inl ⟨rfl, vs, SqL.of ha⟩, ad, vs, v, rfl, rfl, ha, by rw [hv.length]; exact e5, ?_⟩
    exact hg _ _ _ _ ⟨F, pa, _, d, r', R.updL hi e4 ha nf np hv.dropLast, e6.ext G, e2, fun σ' R' => q F pa σ' _ R'⟩
  · cases ev
theorem ds_pop {i j : Nat} {x y : Str} {px py apos cpos : Pos} (hN : X.N.Nodup) (hx : PE X (.Name x px) (tVar i)) (hy : PG X (.Name y py) (gName j))
    (hbase : attributeBase (.Name x px) "pop" X.env (eval (.Name x px) X.env) = eval (.Name x px) X.env := by rfl) (hline : (apos.endLine == cpos.line) = true := by rfl)
    (hs : swapsWithSole [.Name y py] (.Call (.Attribute (.Name x px) "pop" apos) [] [] cpos) pos.line X.env = pure false := by rfl) (hw : swappedStores [.Name y py] (.Call (.Attribute (.Name x px) "pop" apos) [] [] cpos) X.env = pure none := by rfl)
    (h1 : (assignEach [.Name y py] X.env).map (·.2) = [assign (.Name y py) X.env] := by rfl) :
    DS X (.Assign [.Name y py] (.Call (.Attribute (.Name x px) "pop" apos) [] [] cpos) pos) (S.pop (E.tN j) i) := fun B =>
  ps_imp (ps_asg (pe_bm0 PySem.F.plainAttrs_list PySem.F.slot_list_pop PySem.F.type_list_pop mt_pop hx hbase hline) (fg_n hy B) hs hw h1) fun _ _ _ w => tPop_of (fun _ _ _ _ z => z) w
theorem ds_popT {i : Nat} {x : Str} {px apos cpos pt : Pos} {es : List Expr} {k : Nat} {is : List Nat} {gs : TGs} (hx : PE X (.Name x px) (tVar i)) (hy : PG X (.Tuple es k pt) (gTup X.K is.length gs)) (hg : gs = is.foldr (fun i g => gCons (gName i) g) gNil := by rfl)
    (hbase : attributeBase (.Name x px) "pop" X.env (eval (.Name x px) X.env) = eval (.Name x px) X.env := by rfl) (hline : (apos.endLine == cpos.line) = true := by rfl)
    (hs : swapsWithSole [.Tuple es k pt] (.Call (.Attribute (.Name x px) "pop" apos) [] [] cpos) pos.line X.env = pure false := by rfl) (hw : swappedStores [.Tuple es k pt] (.Call (.Attribute (.Name x px) "pop" apos) [] [] cpos) X.env = pure none := by rfl)
    (h1 : (assignEach [.Tuple es k pt] X.env).map (·.2) = [assign (.Tuple es k pt) X.env] := by rfl) :
    DS X (.Assign [.Tuple es k pt] (.Call (.Attribute (.Name x px) "pop" apos) [] [] cpos) pos) (S.pop (E.tT is) i) := fun B =>
  ps_imp (ps_asg (pe_bm0 PySem.F.plainAttrs_list PySem.F.slot_list_pop PySem.F.type_list_pop mt_pop hx hbase hline) (fg_t hy hg B) hs hw h1) fun _ _ _ w => tPop_of (fun _ _ _ _ z => z) w
theorem ds_setIx {i : Nat} {x : Str} {px tpos : Pos} {j : Expr} {fj : EF} (hx : PE X (.Name x px) (tVar i)) (hj : DE X j fj) (h : DE X e f)
    (ha : ∀ v, assign (.Subscript (.Name x px) j tpos) X.env v = (do
      let ov ← holding [v] (eval (.Name x px) X.env)
      let iv ← holding [v, ov] (eval j X.env)
      standAt tpos
      holding [v, ov, iv] (setItem ov iv v)
      release [v, ov, iv] []) := by intro _; rfl)
    (hs : swapsWithSole [.Subscript (.Name x px) j tpos] e pos.line X.env = pure false := by rfl) (hw : swappedStores [.Subscript (.Name x px) j tpos] e X.env = pure none := by rfl)
    (h1 : (assignEach [.Subscript (.Name x px) j tpos] X.env).map (·.2) = [assign (.Subscript (.Name x px) j tpos) X.env] := by rfl) :
    DS X (.Assign [.Subscript (.Name x px) j tpos] e pos) (S.setIx i fj f) := fun B => ps_imp (ps_asg h (pg_sub hx hj set_list ha) hs hw h1) fun Z σ H w => by
  obtain ⟨F, pa, e, o, R, ev, q⟩ := w
  simp only [S.setIx, Option.bind_eq_some_iff] at ev
  obtain ⟨⟨r, p⟩, e1, d, e2, ⟨r', p'⟩, e3, e4⟩ := ev
  split at e4
  · rename_i xs k hi hk
    simp only at hk
    subst hk
    simp only [Option.map_eq_some_iff] at e4
    obtain ⟨m, e5, rfl⟩ := e4
    refine ⟨F, pa, e, r, p, R.re, e1, fun v F1 H1 P1 rr rp1 => ?_⟩
    obtain ⟨F2, P2, r2, rp2⟩ := freeze P1 rr rp1 e2 R.re.pl.ok
    have R2 := R.post P2 rp2
    obtain ⟨ad, vs, e6, nf, np, ha, hv⟩ := R2.re.sl i _ hi
    refine ⟨.ref ad, e6, F2, pa, _, _, p', R2.re, e3, fun u F3 H3 P3 ru rp3 => ?_⟩
    cases ru
    have R3 := R2.post P3 rp3
    obtain ⟨ad', vs', e6', nf', np', ha', hv'⟩ := R3.re.sl i _ hi
    rw [e6] at e6'
    cases e6'
    refine ⟨ad, vs', k, m, rfl, rfl, ha', by rw [hv'.length]; exact e5, q F3 pa σ _ (R3.updL hi e6 ha' nf' np' (hv'.set m (r2.post P3 R2.re.pl.ok)))⟩
  · cases e4
theorem ds_setP {i k : Nat} {x : Str} {px tpos pk : Pos} {jk : Nat} (hx : PE X (.Name x px) (tVar i)) (h : DE X e f)
    (ha : ∀ v, assign (.Subscript (.Name x px) (.Constant (.int (k : Int)) jk pk) tpos) X.env v = (do
      let ov ← holding [v] (eval (.Name x px) X.env)
      let iv ← holding [v, ov] (eval (.Constant (.int (k : Int)) jk pk) X.env)
      standAt tpos
      holding [v, ov, iv] (setItem ov iv v)
      release [v, ov, iv] []) := by intro _; rfl)
    (hs : swapsWithSole [.Subscript (.Name x px) (.Constant (.int (k : Int)) jk pk) tpos] e pos.line X.env = pure false := by rfl) (hw : swappedStores [.Subscript (.Name x px) (.Constant (.int (k : Int)) jk pk) tpos] e X.env = pure none := by rfl)
    (h1 : (assignEach [.Subscript (.Name x px) (.Constant (.int (k : Int)) jk pk) tpos] X.env).map (·.2) = [assign (.Subscript (.Name x px) (.Constant (.int (k : Int)) jk pk) tpos) X.env] := by rfl) :
    DS X (.Assign [.Subscript (.Name x px) (.Constant (.int (k : Int)) jk pk) tpos] e pos) (S.setP i k f) := fun B => ps_imp (ps_asg h (pg_sub hx pe_int set_list ha) hs hw h1) fun Z σ H w => by
  obtain ⟨F, pa, e, o, R, ev, q⟩ := w
  simp only [S.setP, Option.bind_eq_some_iff] at ev
  obtain ⟨⟨r, p⟩, e1, d, e2, e4⟩ := ev
  split at e4
  · rename_i xs hi hk
    simp only at hk
    subst hk
    split at e4
    · rename_i hl
      cases e4
      obtain ⟨ad, e6, rfl⟩ := R.re.sl i _ hi
      refine ⟨F, _, e, r, _, R.re, e1, fun v F1 H1 P1 rr rp1 => ?_⟩
      obtain ⟨F2, P2, r2, rp2⟩ := freeze P1 rr rp1 e2 R.re.pl.ok
      have R2 := R.post P2 rp2
      obtain ⟨nf, vs, ha, hv⟩ := rp2
      refine ⟨.ref ad, e6, ad, vs, (k : Int), k, rfl, rfl, ha, ?_, q F2 _ σ _ (R2.updP (hv.set k r2))⟩
      unfold ixN
      rw [hv.length, if_pos (Int.natCast_nonneg k), if_pos (by exact_mod_cast hl)]
      rfl
    · cases e4
  · cases e4
theorem ds_inc {i : Nat} {x : Str} {pos' : Pos} (hN : X.N.Nodup) (h : DE X e f) (hi : X.N[i]? = some x := by rfl) (hx : Loc X.env.scope x := by first | exact Or.inl rfl | exact Or.inr rfl)
    (hf : X.fn x = true ∨ X.env.scope.names.lookup x = some .local := by first | exact .inl rfl | exact .inr rfl) : DS X (.AugAssign (.Name x pos') .Add e pos) (S.inc i f) := fun B => ps_imp (ps_aug hN hi hx h ip_add hf) fun Z σ H w => by
  obtain ⟨F, pa, e, o, R, ev, q⟩ := w
  unfold S.inc at ev
  split at ev
  · rename_i n hn
    simp only [Option.bind_eq_some_iff] at ev
    obtain ⟨⟨r, p⟩, e1, e2⟩ := ev
    split at e2
    · rename_i m hm
      simp only at hm
      subst hm
      cases e2
      obtain ⟨v, e3, e4⟩ := R.re.sl i _ hn
      cases e4
      refine ⟨_, e3, F, pa, e, _, p, R.re, e1, fun v F1 H1 P1 rr rp1 => ?_⟩
      cases rr
      exact ⟨_, _, rfl, rfl, q F1 pa _ H1 ((R.post P1 rp1).setD (.int _))⟩
    · cases e2
  · cases ev
end

/-! ### defs -/
/-- a body run on arguments: n parameters (the pool among them, if there is one), N slots -/
def runB (N : Nat) (hp : Bool) (n : Nat) (body : SF) : MF := fun ds p =>
  if ds.length + (if hp then 1 else 0) = n ∧ n ≤ N then
    (body ⟨(if hp then [.pool] else []) ++ ds.map .d ++ List.replicate (N - n) .un, p⟩).bind fun o => match o with
      | .nx e => some (.d .none, if hp then e.p else none)
      | .rt r p => some (r, if hp then p else none)
      | _ => none
  else none
section
variable {P : Program} {w : World} {K : PySem.W.Frag} {mg : Str → Option Value} {base : Heap}
theorem start_len {N : List Str} {vs : List V} (h : vs.length ≤ N.length) : (L2.start N vs).length = N.length := by
  unfold L2.start
  rw [List.length_append, List.length_map, List.length_replicate]
  omega
theorem repE_start {F : Addr → Prop} {pa : Option Addr} {H : Hp} {N : List Str} {us : List V} {ds : List D} {p : Pl} (fo : ∀ a, F a → H a ≠ none) (rp : RepP K F pa H p) (r : RpAll K F H us ds)
    {vs : List V} (hv : vs = withP pa us) (hl : vs.length ≤ N.length) :
    RepE K F pa (L2.start N vs) H ⟨(if pa.isSome then [.pool] else []) ++ ds.map .d ++ List.replicate (N.length - vs.length) .un, p⟩ := by
  have hd : ∀ (i : Nat) (s : Sl), ((if pa.isSome then [Sl.pool] else []) ++ ds.map Sl.d ++ List.replicate (N.length - vs.length) Sl.un)[i]? = some s → Dg.SlR K F pa H ((L2.start N vs)[i]?) s ∧ owned s = false := by
    intro i s h
    have l1 : ((if pa.isSome then [Sl.pool] else []) ++ ds.map Sl.d).length = vs.length := by
      have hr := r.length
      subst hv
      cases pa with
      | none => simp [withP, hr]
      | some a => simp [withP, hr]
    by_cases hi : i < vs.length
    · rw [List.getElem?_append_left (by rw [l1]; exact hi)] at h
      have hs : (L2.start N vs)[i]? = vs[i]?.map some := by
        unfold L2.start
        rw [List.getElem?_append_left (by rw [List.length_map]; exact hi), List.getElem?_map]
      rw [hs]
      subst hv
      cases pa with
      | none =>
        simp only [Option.isSome_none, Bool.false_eq_true, if_false, List.nil_append, List.getElem?_map] at h
        obtain ⟨d, e1, rfl⟩ := Option.map_eq_some_iff.mp h
        obtain ⟨v, e2, e3⟩ := r.get e1
        exact ⟨⟨v, by simp only [withP, e2]; rfl, e3⟩, rfl⟩
      | some a =>
        cases i with
        | zero =>
          simp only [Option.isSome_some, if_true, List.cons_append, List.getElem?_cons_zero] at h
          cases h
          exact ⟨⟨a, rfl, rfl⟩, rfl⟩
        | succ i =>
          simp only [Option.isSome_some, if_true, List.cons_append, List.nil_append, List.getElem?_cons_succ, List.getElem?_map] at h
          obtain ⟨d, e1, rfl⟩ := Option.map_eq_some_iff.mp h
          obtain ⟨v, e2, e3⟩ := r.get e1
          exact ⟨⟨v, by simp only [withP, List.getElem?_cons_succ, e2]; rfl, e3⟩, rfl⟩
    · rw [List.getElem?_append_right (by rw [l1]; omega)] at h
      have hs := List.eq_of_mem_replicate (List.mem_of_getElem? h)
      subst hs
      exact ⟨trivial, rfl⟩
  refine ⟨?_, fun i s h => (hd i s h).1, fun i j s t a _ h1 _ o1 _ _ _ => ?_, rp, fo⟩
  · rw [start_len hl]
    have hr := r.length
    subst hv
    cases pa with
    | none =>
      simp only [withP] at hl ⊢
      simp only [Option.isSome_none, Bool.false_eq_true, if_false, List.nil_append, List.length_append, List.length_map, List.length_replicate]
      omega
    | some a =>
      simp only [withP, List.length_cons] at hl ⊢
      simp only [Option.isSome_some, if_true, List.length_append, List.length_map, List.length_replicate, List.length_cons, List.length_nil]
      omega
  · rw [(hd i s h1).2] at o1; cases o1
/-- THE RULE of a def -/
theorem fn_ok {x qual : Str} {st : Stmt} {f : Addr} {fd : FuncData} {N ps : List Str} {k : Nat} {hp : Bool} {n : Nat} {body : SF} (Fn : Fun K x qual st f fd) (S : FnScope N ps (defScope st)) (hn : n = ps.length) (hm : mg x = some (.ref f)) (hb : Binds K fd ps [])
    (hbody : ∀ (cdv : Value) (A : Around) (outer : List Env) (s : Shared) (H : Hp) (E : XK), Room k (A.deeper (PyProof.Rows.envOfC qual (defScope st) s.heap.objs.size f cdv)) →
      DSs (cxOf CX0 P w K mg base N qual (defScope st) f cdv A outer s H E).nox (defBody st) body) : Cal P w K mg base (k + 1) x hp n (runB N.length hp n body) := by
  refine ⟨f, fd, ps, Fn.ok S (fun vs H Q E h => ?_) (fun cdv A outer s H vs Q E hr h => ?_), hm, Fn.kp, hb⟩
  · obtain ⟨F, pa, ds, p, r, p', _, _, _, hl, _⟩ := h
    rw [hl, hn]
  · obtain ⟨F, pa, ds, p, r, p', fo, rp, hpa, hl, ⟨us, ru, hv⟩, hm, q⟩ := h
    unfold runB at hm
    by_cases hc : ds.length + (if hp = true then 1 else 0) = n ∧ n ≤ N.length
    · rw [if_pos hc] at hm
      simp only [Option.bind_eq_some_iff] at hm
      obtain ⟨o, e1, e2⟩ := hm
      let B : Bse := ⟨F, H, pa, fun _ _ => True, fun _ _ _ _ _ _ => trivial⟩
      refine ⟨_, hbody cdv A outer s H E hr B, F, pa, _, o, ⟨repE_start fo rp ru hv (by omega), .refl, .inl rfl, fun i s a h1 h2 h3 => ?_, trivial⟩, by rw [hpa, hl]; exact e1, ?_⟩
      · exfalso
        have hd := repE_start (N := N) fo rp ru hv (by omega)
        have z := hd.sl i s h1
        have no : ∀ (i : Nat) (s : Sl), ((if pa.isSome then [Sl.pool] else []) ++ ds.map Sl.d ++ List.replicate (N.length - vs.length) Sl.un)[i]? = some s → owned s = false := by
          intro i s h
          have hm := List.mem_of_getElem? h
          simp only [List.mem_append, List.mem_map, List.mem_replicate] at hm
          rcases hm with (hm | ⟨d, _, rfl⟩) | ⟨_, rfl⟩
          · cases pa with
            | none => simp at hm
            | some a => simp at hm; subst hm; rfl
          · rfl
          · rfl
        rw [no i s h1] at h2
        cases h2
      · cases o with
        | nx e =>
          simp only [Option.some.injEq, Prod.mk.injEq] at e2
          obtain ⟨rfl, rfl⟩ := e2
          intro F' pa' σ' H' R'
          have hpq : pa' = pa ∨ (pa = none ∧ ∀ a, pa' = some a → H a = none) := R'.pq
          refine q .non F' H' R'.po .non ?_
          cases pa with
          | none =>
            have z : hp = false := by rw [← hpa]; rfl
            subst z
            exact trivial
          | some a =>
            have z : hp = true := by rw [← hpa]; rfl
            subst z
            rcases hpq with z | ⟨z, _⟩
            · rw [← z]; exact R'.re.pl
            · cases z
        | rt r p =>
          simp only [Option.some.injEq, Prod.mk.injEq] at e2
          obtain ⟨rfl, rfl⟩ := e2
          intro v F' H' P' rr z
          refine q v F' H' P' rr ?_
          cases pa with
          | none =>
            have z : hp = false := by rw [← hpa]; rfl
            subst z
            exact trivial
          | some a =>
            have y : hp = true := by rw [← hpa]; rfl
            subst y
            exact z rfl
        | bk e => cases e2
        | ct e => cases e2
    · rw [if_neg hc] at hm
      cases hm
end
end Dg

/-! deedsagain: sorted(set(..)) of ints, slices with a step, the script, repr. -/
namespace Dg
open PySem PySem.Spec L2

/-! ### ascending lists of ints -/
def ins (k : Int) : List Int → List Int
  | [] => [k]
  | x :: r => if k < x then k :: x :: r else if k = x then x :: r else x :: ins k r
def usort (ns : List Int) : List Int := ns.foldr ins []
theorem mem_ins {k j : Int} : ∀ {l : List Int}, j ∈ ins k l ↔ j = k ∨ j ∈ l
  | [] => by simp [ins]
  | x :: r => by
    unfold ins
    split
    · simp
    · split
      · rename_i h; subst h; simp
      · simp only [List.mem_cons, mem_ins (l := r)]
        constructor
        · rintro (h | h | h)
          · exact .inr (.inl h)
          · exact .inl h
          · exact .inr (.inr h)
        · rintro (h | h | h)
          · exact .inr (.inl h)
          · exact .inl h
          · exact .inr (.inr h)
theorem ins_pw {k : Int} : ∀ {l : List Int}, l.Pairwise (· < ·) → (ins k l).Pairwise (· < ·)
  | [], _ => by simp [ins]
  | x :: r, h => by
    obtain ⟨h1, h2⟩ := List.pairwise_cons.mp h
    unfold ins
    split
    · rename_i hk
      refine List.pairwise_cons.mpr ⟨fun y hy => ?_, h⟩
      rcases List.mem_cons.mp hy with z | z
      · rw [z]; exact hk
      · have := h1 y z; omega
    · split
      · exact h
      · refine List.pairwise_cons.mpr ⟨fun y hy => ?_, ins_pw h2⟩
        rcases mem_ins.mp hy with z | z
        · rw [z]; omega
        · exact h1 y z
theorem usort_pw : ∀ ns : List Int, (usort ns).Pairwise (· < ·)
  | [] => .nil
  | n :: r => ins_pw (usort_pw r)
theorem mem_usort {j : Int} : ∀ {ns : List Int}, j ∈ usort ns ↔ j ∈ ns
  | [] => by simp [usort]
  | n :: r => by
    show j ∈ ins n (usort r) ↔ _
    rw [mem_ins, mem_usort, List.mem_cons]
theorem asc_unique : ∀ {l k : List Int}, l.Pairwise (· < ·) → k.Pairwise (· < ·) → (∀ j, j ∈ l ↔ j ∈ k) → l = k
  | [], [], _, _, _ => rfl
  | [], y :: k, _, _, h => absurd ((h y).mpr List.mem_cons_self) (by simp)
  | x :: l, [], _, _, h => absurd ((h x).mp List.mem_cons_self) (by simp)
  | x :: l, y :: k, h1, h2, h => by
    obtain ⟨a1, a2⟩ := List.pairwise_cons.mp h1
    obtain ⟨b1, b2⟩ := List.pairwise_cons.mp h2
    have e : x = y := by
      have p := (h x).mp List.mem_cons_self
      have q := (h y).mpr List.mem_cons_self
      rcases List.mem_cons.mp p with p | p
      · exact p
      · rcases List.mem_cons.mp q with q | q
        · exact q.symm
        · have := b1 x p
          have := a1 y q
          omega
    subst e
    congr 1
    refine asc_unique a2 b2 fun j => ⟨fun hj => ?_, fun hj => ?_⟩
    · rcases List.mem_cons.mp ((h j).mp (List.mem_cons_of_mem _ hj)) with z | z
      · have := a1 j hj; omega
      · exact z
    · rcases List.mem_cons.mp ((h j).mpr (List.mem_cons_of_mem _ hj)) with z | z
      · have := b1 j hj; omega
      · exact z

/-! ### set(xs), xs a list of ints (HandS.SetFor has the tuple) -/
section
variable {P : Program} {w : World} {A : Around} {E : Value → Shared → Prop} {s : Shared}
set_option maxHeartbeats 3200000 in
theorem set_of_ints {l : Addr} {items : Array Value} (ns : List Int) {Q : Value → Shared → Prop} (hh : A.handled = none) (hl : s.heap.IsList l items) (hit : PyProof.Rows.IntsAre items.toList ns) (hb : ns.length + 1 < scanBound)
    (h : ∀ (h' : Heap) (tk c : Nat), SetR w h' s.heap.objs.size (fun j => decide (j ∈ ns)) c → c ≤ ns.length → (∀ b o, s.heap.get? b = some o → h'.get? b = some o) → Q (.ref s.heap.objs.size) { s with heap := h', toks := tk }) :
    wpAny (model P w) A (call (.type "set") [.ref l]) Q E s := by
  have hisz : items.size = ns.length := by have q := PyProof.Rows.IntsAre.length hit; rw [Array.length_toList] at q; exact q
  obtain ⟨c, tl, hmro⟩ := F.called_set.mro
  have hmade := F.called_set.made; have hsub := F.called_set.sub
  refine wpAny_call (codeAny_of_tree ?_); show wpAny _ _ (callAny (.type "set") _) _ _ _
  refine wpAny_pure ⟨Code.quiet_builtin _ (by decide +kernel), codeAny_builtin F.entry_type_call ?_⟩
  rw [Around.under_plain (weight_type_call_type "set" [.ref l] []) rfl]
  have h1 := F.called_set.notType; have h2 := F.called_set.canCreate; have hct := F.typeCall_set_1 (.ref l)
  repeat (any_goals (first | assumption | wp_step))
  let o0 : Obj := { cls := .type "set", dict := none, data := .set #[] 0 (.fresh 0 0 (!w.params.followText "set-order")) }
  refine codeAny_mono (code_set_led1 (.ref l) (E := E) (Q₁ := fun obj s₁ => obj = .ref s.heap.objs.size ∧ s₁ = { s with heap := s.heap.push o0 }) ⟨rfl, rfl⟩) fun r s₁ hr => ?_
  cases r with
  | error e => exact hr
  | ok fl =>
    cases fl with
    | ret obj =>
      obtain ⟨rfl, rfl⟩ := hr
      have hS : (s.heap.push o0).get? s.heap.objs.size = some o0 := Heap.get?_push_size _ rfl
      have hT : Shared.TypeIs { s with heap := s.heap.push o0 } (.ref s.heap.objs.size) "set" := ⟨_, hS, rfl⟩
      have hli := F.called_set.init.lookup; have hbi := F.called_set.init.bind (.ref s.heap.objs.size)
      repeat (any_goals (first | assumption | wp_step))
      refine codeAny_mono (codeAny_call_builtin (R := wants (fun r s₂ => r = .none ∧ ∃ h' tk c, s₂ = { s with heap := h', toks := tk } ∧ SetR w h' s.heap.objs.size (fun j => decide (j ∈ ns)) c ∧ c ≤ ns.length ∧
          (∀ b o, s.heap.get? b = some o → h'.get? b = some o)) E) F.called_set.init.plain F.entry_set_init (check_set_init_1 hT ?_)) fun r₂ s₂ hr₂ => ?_
      · obtain ⟨⟨ocls, odict, odata, oslots⟩, hol, hcl, nl, hdl⟩ := hl
        simp only at hcl hdl
        subst hcl hdl
        have hol' : (s.heap.push o0).get? l = some { cls := .type "list", dict := odict, data := .seq items nl, slots := oslots } := Heap.get?_push_of_some _ hol
        have hsls := F.sub_list_set; have hslf := F.sub_list_frozenset
        have hne : (Value.type "list" == Value.type "dict") = false := by decide
        have hl1 : (s.heap.push o0).IsList l items := ⟨_, hol', rfl, nl, rfl⟩
        unfold Builtin.«set.__init__» noKeywords Builtin.Frozenset.updateFrom
        generalize hPI : pyIter = PI
        wp_walk
        subst hPI
        refine wpAny_pyIter_list hl1 ?_
        refine wpAny_bind (wpAny_runValue ?_)
        have hlS : l < s.heap.objs.size := Heap.lt_size hol
        have hh3 : A.in1.in1.in1.handled = none := by simp [hh]
        have hneI : l ≠ (s.heap.push o0).objs.size := by rw [Heap.size_push]; exact Nat.ne_of_lt (Nat.lt_succ_of_lt hlS)
        have hSf : s.heap.objs.size ∉ [(s.heap.push o0).objs.size, l] := by
          rw [Heap.size_push]; simp only [List.mem_cons, List.mem_singleton, List.not_mem_nil, or_false, not_or]
          exact ⟨Nat.ne_of_lt (Nat.lt_succ_self _), Nat.ne_of_gt hlS⟩
        have hval : ∀ (i : Nat) (v : Value), items[i]? = some v → ∃ k t, ns[i]? = some k ∧ v = .int k t := fun i v hv => by
          have hi : i < ns.length := by rw [← hisz]; exact (Array.getElem?_eq_some_iff.mp hv).1
          obtain ⟨t, e⟩ := PyProof.Rows.IntsAre.int_at hit i v (by rw [Array.getElem?_toList]; exact hv)
          exact ⟨ns[i], t, List.getElem?_eq_getElem hi, by rw [e, List.getD_eq_getElem?_getD, List.getElem?_eq_getElem hi]; rfl⟩
        refine set_update_ints ((Walks.list hh3 _ l hneI items).toS) s.heap.objs.size hSf ns hisz hb hval (items.size - 0) 0 _ (by omega) (Nat.zero_le _)
          ⟨⟨_, Heap.get?_push_size _ rfl, rfl, rfl⟩, (hl1.push _)⟩ ⟨0, Nat.le_refl 0, setR_new_at (Heap.get?_push_of_some _ hS)⟩ fun s' c' hm hc' hS' => ?_
        obtain ⟨h', g2, d', tk', os'⟩ := s'
        have eg : g2 = s.gens := hm.gens
        have ed : d' = s.drawn := hm.drawn
        have eo : os' = s.os := hm.os
        subst eg ed eo
        show wpAny _ _ _ _ _ _
        refine wpAny_pure ?_
        show wpAny _ _ (ret Value.none) _ _ _
        rw [hisz] at hc'
        refine wpAny_pure ⟨rfl, h', tk', c', rfl, hS', hc', fun b o e => ?_⟩
        have hb0 : b < s.heap.objs.size := Heap.lt_size e
        refine hm.heap b o ?_ (Heap.get?_push_of_some _ (Heap.get?_push_of_some _ e))
        simp only [List.mem_cons, List.mem_singleton, List.not_mem_nil, or_false, not_or]
        exact ⟨Nat.ne_of_lt hb0, by rw [Heap.size_push]; exact Nat.ne_of_lt (Nat.lt_succ_of_lt hb0)⟩
      · cases r₂ with
        | error e => exact hr₂
        | ok fl₂ =>
          cases fl₂ with
          | ret r =>
            obtain ⟨rfl, h', tk, c', rfl, hS', hc', hk'⟩ := hr₂
            repeat (any_goals (first | assumption | wp_step))
            exact h _ _ _ hS' hc' hk'
          | _ => exact hr₂.elim
    | _ => exact hr.elim
end
end Dg

/-! deedsagain: sorted(set(..)), slices with a step, repr, the script and the pool. -/
namespace Dg
open PySem PySem.Spec L2

namespace E
/-- sorted(set(x)) of ints -/
def gSset : D → Option RV
  | .list xs => (intsOf xs).bind fun ns => if ns.length < 63 then some (.l ((usort ns).map .int)) else none
  | .tuple xs => (intsOf xs).bind fun ns => if ns.length < 63 then some (.l ((usort ns).map .int)) else none
  | _ => none
def pick3 {α : Type} (xs : List α) (lo hi st : Option Int) : List α :=
  (sliceRange (sliceBounds lo hi st xs.length).1 (sliceBounds lo hi st xs.length).2.1 (sliceBounds lo hi st xs.length).2.2).filterMap (xs[·]?)
def gSl3 : D → Option Int → Option Int → Option Int → Option RV
  | .list xs, lo, hi, st => if (pick3 xs lo hi st).length ≤ sizeLine ∧ st ≠ some 0 then some (.l (pick3 xs lo hi st)) else none
  | _, _, _, _ => none
def sl3 (f : RF) (lo hi st : OF) : EF := fun e => (f e).bind fun x => (lo (e.at x.2)).bind fun l => (hi (e.at l.2)).bind fun h => (st (e.at h.2)).bind fun t => (gSl3 x.1 l.1 h.1 t.1).map fun r => (r, t.2)
def gRepr (d : D) : Option RV := if d.showable = true ∧ d.hasDict = false ∧ d.shown.length ≤ sizeLine ∧ d.depth ≤ 60 then some (.d (.str d.shown)) else none
end E

section
variable {X : Cx} {e a b c : Expr} {es rest : List Expr} {f g h : EF} {fa fb fc : RF} {fA : AF} {B B' : BF} {pos : Pos}
theorem cl_repr (hg : X.A.guards = some []) (hu : X.A.units + 64 < cLine) : CallR X (.builtin "repr") (rD1 X.K E.gRepr) := by
  intro pins s σ H xs us Q I rs h
  obtain ⟨F, pa, x, d, r, rfl, fo, ha, hgd, q⟩ := h
  unfold E.gRepr at hgd
  split at hgd
  · rename_i hd
    obtain ⟨h1, h2, h3, h4⟩ := hd
    cases hgd
    obtain ⟨u, rfl, rx⟩ := vals1 rs
    have fin : ∀ (s' : Shared) (t : Tok), Inv X pins σ H s' → EP X pins σ Q (.str d.shown t) s' := fun s' t J => ⟨.str d.shown, H, J, ⟨t, rfl⟩, q _ F H .refl (.str _)⟩
    obtain ⟨as, rr⟩ := Dp.reads I d x u ha.dp rx
    cases rr with
    | none => exact PySem.P.repr_of_none (by rw [PyData.shown] at fin; exact fin _ _ (I.tok _))
    | bool => exact PySem.P.repr_of_bool (by rw [PyData.shown] at fin; exact fin _ _ (I.tok _))
    | int =>
      rw [PyData.showable] at h1
      exact PySem.P.repr_of_int (of_decide_eq_true h1) (by rw [PyData.shown] at fin; exact fin _ _ (I.tok _))
    | str =>
      rw [PyData.shown] at h3
      exact PySem.P.repr_of_str (by rw [PyData.shown] at fin; exact fin _ _ (I.tok _)) h3
    | list h5 h6 h7 h8 => exact PySem.repr_of_reads' (.list h5 h6 h7 h8) h1 (by rw [h2]; exact fun z => by cases z) hg (by omega) (fun _ _ z => z) (fun h' t tk kp => fin _ t (I.kept (t' := tk) kp)) h3
    | tuple h5 h6 h7 h8 => exact PySem.repr_of_reads' (.tuple h5 h6 h7 h8) h1 (by rw [h2]; exact fun z => by cases z) hg (by omega) (fun _ _ z => z) (fun h' t tk kp => fin _ t (I.kept (t' := tk) kp)) h3
    | dict h5 h6 h7 h8 h9 => exact PySem.repr_of_reads' (.dict h5 h6 h7 h8 h9) h1 (by rw [h2]; exact fun z => by cases z) hg (by omega) (fun _ _ z => z) (fun h' t tk kp => fin _ t (I.kept (t' := tk) kp)) h3
  · cases hgd

/-! ### sorted(set(x)) -/
theorem boot_sorted' : bootBuiltins "sorted" = some (.builtin "sorted") := by decide +kernel
theorem boot_set' : bootBuiltins "set" = some (.type "set") := by decide +kernel
theorem boot_repr' : bootBuiltins "repr" = some (.builtin "repr") := by decide +kernel
def rSetI (K : PySem.W.Frag) (w : World) : List V → Hp → VK → Prop := fun vs H Q => ∃ F pa x d, ∃ ns : List Int, vs = [x] ∧ Rd K F pa H x d ∧ (d = .list (ns.map .int) ∨ d = .tuple (ns.map .int)) ∧ ns.length < 63 ∧
  ∀ p c, H p = none → c ≤ ns.length → Q (.ref p) (upd H p (SetO w p (fun j => decide (j ∈ ns)) c))
theorem cl_setI (hc : X.calm = true) : CallR X (.type "set") (rSetI X.K X.w) := by
  intro pins s σ H xs us Q I rs h
  obtain ⟨F, pa, x, d, ns, rfl, rd, hd, hl, q⟩ := h
  obtain ⟨u, rfl, rx⟩ := vals1 rs
  have hdl := I.ok.hd hc
  have room : ns.length + 1 < scanBound := by unfold scanBound; omega
  have fin : ∀ (h' : Heap) (tk c : Nat), SetR X.w h' s.heap.objs.size (fun j => decide (j ∈ ns)) c → c ≤ ns.length → (∀ b o, s.heap.get? b = some o → h'.get? b = some o) → EP X pins σ Q (.ref s.heap.objs.size) { s with heap := h', toks := tk } :=
    fun h' tk c R hcn k => ⟨.ref s.heap.objs.size, upd H s.heap.objs.size (SetO X.w s.heap.objs.size (fun j => decide (j ∈ ns)) c), I.laid (t' := tk) k (Nat.le_refl _) (setO_new R), rfl, q _ c (I.hok.fresh (Nat.le_refl _)) hcn⟩
  rcases hd with rfl | rfl
  · obtain ⟨p1, vs, rfl, s1, e1⟩ := rd.list
    have ev := e1.ints
    subst ev
    cases rx
    obtain ⟨its, rv, pt, hz⟩ := I.list s1
    exact set_of_ints ns hdl pt.isList (ints_of_vals rv) room fin
  · obtain ⟨p1, vs, rfl, s1, e1⟩ := rd.tup
    have ev := e1.ints
    subst ev
    cases rx
    obtain ⟨its, rv, pt, hz⟩ := I.tuple s1
    exact call_set_tupI ns hdl (show s.heap.IsTuple p1 its.toArray from pt) (ints_of_vals rv) room fin
theorem de_sset {p1 p2 pos2 : Pos} (hc : X.calm = true) (hg1 : Gl X "sorted") (hm1 : X.mg "sorted" = none) (hg2 : Gl X "set") (hm2 : X.mg "set" = none) (ha : DR X a fa)
    (hs2 : starEach [a] X.env = (false, eval a X.env) :: starEach [] X.env := by rfl)
    (hs1 : starEach [.Call (.Name "set" p2) [a] [] pos2] X.env = (false, eval (.Call (.Name "set" p2) [a] [] pos2) X.env) :: starEach [] X.env := by rfl) :
    DE X (.Call (.Name "sorted" p1) [.Call (.Name "set" p2) [a] [] pos2] [] pos) (E.un E.gSset fa) := by
  refine pe_imp (pe_callB (cr_sortedSet hc) hg1 hm1 boot_sorted' (pa_cons (pe_callTy (cl_setI hc) hg2 hm2 boot_set' (pa_cons ha pa_nil hs2) (he := hs2)) pa_nil hs1) (he := hs1)) fun σ H Q w => ?_
  obtain ⟨F, pa, e, r, p, R, ev, q⟩ := w
  simp only [E.un, Option.bind_eq_some_iff, Option.map_eq_some_iff] at ev
  obtain ⟨⟨d, p1⟩, e1, r', e2, e3⟩ := ev
  obtain ⟨rfl, rfl⟩ := Prod.mk.inj e3
  refine ⟨F, pa, e, d, p1, R, e1, fun v F1 H1 P1 rd rp1 => ?_⟩
  have key : ∃ ns : List Int, (d = .list (ns.map .int) ∨ d = .tuple (ns.map .int)) ∧ ns.length < 63 ∧ r' = .l ((usort ns).map .int) := by
    have e2' : E.gSset d = some r' := e2
    cases d with
    | list xs =>
      simp only [E.gSset, Option.bind_eq_some_iff] at e2'
      obtain ⟨ns, ex3, e4⟩ := e2'
      split at e4
      · cases e4
        exact ⟨ns, .inl (congrArg _ (intsOf_some ex3)), by assumption, rfl⟩
      · cases e4
    | tuple xs =>
      simp only [E.gSset, Option.bind_eq_some_iff] at e2'
      obtain ⟨ns, ex3, e4⟩ := e2'
      split at e4
      · cases e4
        exact ⟨ns, .inr (congrArg _ (intsOf_some ex3)), by assumption, rfl⟩
      · cases e4
    | _ => cases e2'
  obtain ⟨ns, hd, hl, rfl⟩ := key
  refine ⟨F1, pa, v, d, ns, rfl, rd, hd, hl, fun t c ht hcn => ?_⟩
  refine ⟨t, _, c, rfl, upd_same, by omega, fun ks p2 hs hm hlen hp2 => ?_⟩
  have P2 : Post F1 none H1 F1 (upd H1 t (SetO X.w t (fun j => decide (j ∈ ns)) c)) := .new ht
  have P3 : Post F1 none (upd H1 t (SetO X.w t (fun j => decide (j ∈ ns)) c)) F1 (upd (upd H1 t (SetO X.w t (fun j => decide (j ∈ ns)) c)) p2 (.lst (ks.map V.int))) := .new hp2
  have P := P2.trans P3
  have hk : ks = usort ns := asc_unique hs (usort_pw ns) fun j => by rw [hm, mem_usort, decide_eq_true_eq]
  subst hk
  have hn1 : H1 p2 = none := by
    cases z : H1 p2 with
    | none => rfl
    | some o => exact absurd hp2 (P2.dm p2 (by rw [z]; simp))
  have hn : H p2 = none := by
    cases z : H p2 with
    | none => rfl
    | some o => exact absurd hn1 (P1.dm p2 (by rw [z]; simp))
  refine q (.ref p2) F1 _ (P1.trans P.weak) ⟨p2, _, rfl, hn, fun z => fo_post R.fo P1 p2 z hn1, upd_same, RpAll.ofInts _⟩ (rp1.keep P)

/-! ### slices with a step -/
theorem pick3_arr (its : List Value) (lo hi st : Option Int) : slicePick its.toArray lo hi st = (E.pick3 its lo hi st).toArray := by
  unfold slicePick E.pick3
  rw [List.size_toArray]
  congr 1
  refine congrArg (fun f => List.filterMap f _) (funext fun j => ?_)
  exact List.getElem?_toArray
theorem RpAll.pick {K : PySem.W.Frag} {F : Addr → Prop} {H : Hp} {vs : List V} {ds : List D} (h : RpAll K F H vs ds) : ∀ js : List Nat, RpAll K F H (js.filterMap (vs[·]?)) (js.filterMap (ds[·]?))
  | [] => .nil
  | j :: js => by
    rw [List.filterMap_cons, List.filterMap_cons]
    cases hd : ds[j]? with
    | none =>
      have hv : vs[j]? = none := by
        rw [List.getElem?_eq_none_iff] at hd ⊢
        rw [h.length]; exact hd
      rw [hv]
      exact RpAll.pick h js
    | some d =>
      obtain ⟨v, e1, e2⟩ := h.get hd
      rw [e1]
      exact .cons e2 (RpAll.pick h js)
theorem vals_pick {vs : List V} {us : List Value} (h : Vals vs us) : ∀ js : List Nat, Vals (js.filterMap (vs[·]?)) (js.filterMap (us[·]?))
  | [] => .nil
  | j :: js => by
    rw [List.filterMap_cons, List.filterMap_cons]
    cases hd : vs[j]? with
    | none =>
      have hv : us[j]? = none := by
        rw [List.getElem?_eq_none_iff] at hd ⊢
        rw [← h.length]; exact hd
      rw [hv]
      exact vals_pick h js
    | some d =>
      obtain ⟨v, e1, e2⟩ := h.get hd
      rw [e1]
      exact .cons e2 (vals_pick h js)
theorem de_sl3 {lo hi : Option Expr} {st : Expr} {fl fh ft : OF} {p2 : Pos} (ha : DR X a fa) (hl : DO X lo fl) (hh : DO X hi fh) (ht : DO X (some st) ft)
    (htl : ∀ (x y : Addr) (sh : Shared), True := by intros; trivial) : DE X (.Subscript a (.Slice lo hi (some st) p2) pos) (E.sl3 fa fl fh ft) := by
  refine ⟨fun pins s σ H Q I w => ?_⟩
  obtain ⟨F, pa, e, r, p, R, ev, q⟩ := w
  simp only [E.sl3, Option.bind_eq_some_iff, Option.map_eq_some_iff] at ev
  obtain ⟨⟨d, p1⟩, e1, ⟨l, p2⟩, e2, ⟨h, p3⟩, e3, ⟨t, p4⟩, e4, r', e5, e6⟩ := ev
  obtain ⟨rfl, rfl⟩ := Prod.mk.inj e6
  refine PyProof.Rows.Subscript_ (thn (ha.run pins s σ H _ I ⟨F, pa, e, d, p1, R, e1, fun v F1 H1 P1 rd rp1 => (⟨F1, P1, rd, rp1⟩ : (fun v H1 => ∃ F1, Post F pa H F1 H1 ∧ Rd X.K F1 pa H1 v d ∧ RepP X.K F1 pa H1 p1) v H1)⟩) fun u1 s1 ⟨v1, H1, I1, r1, F1, P1, rd, rp1⟩ => ?_)
  have R1 := R.post P1 rp1
  refine wpAny_Slice (thn (hl.run pins s1 σ H1 (fun o H2 => o = l ∧ ∃ F2, Post F1 pa H1 F2 H2 ∧ RepP X.K F2 pa H2 p2) I1 ⟨F1, pa, _, l, p2, R1, e2, fun F2 H2 P2 rp2 => ⟨rfl, F2, P2, rp2⟩⟩) fun vl s2 ⟨l', H2, I2, pl, el, F2, P2, rp2⟩ => ?_)
  subst el
  have R2 := R1.post P2 rp2
  refine thn (hh.run pins s2 σ H2 (fun o H3 => o = h ∧ ∃ F3, Post F2 pa H2 F3 H3 ∧ RepP X.K F3 pa H3 p3) I2 ⟨F2, pa, _, h, p3, R2, e3, fun F3 H3 P3 rp3 => ⟨rfl, F3, P3, rp3⟩⟩) fun vu s3 ⟨h', H3, I3, pu, eh, F3, P3, rp3⟩ => ?_
  subst eh
  have R3 := R2.post P3 rp3
  refine thn (ht.run pins s3 σ H3 (fun o H4 => o = t ∧ ∃ F4, Post F3 pa H3 F4 H4 ∧ RepP X.K F4 pa H4 p4) I3 ⟨F3, pa, _, t, p4, R3, e4, fun F4 H4 P4 rp4 => ⟨rfl, F4, P4, rp4⟩⟩) fun vs s4 ⟨t', H4, I4, ps, et, F4, P4, rp4⟩ => ?_
  subst et
  have R4 := R3.post P4 rp4
  have P14 := ((P1.trans P2).trans P3).trans P4
  have e5' : E.gSl3 d l' h' t' = some r' := e5
  cases d with
  | list xs =>
    simp only [E.gSl3] at e5'
    split at e5'
    · rename_i hz
      cases e5'
      have rd4 := ((rd.post P2 R1.pl.ok).post P3 R2.pl.ok).post P4 R3.pl.ok
      obtain ⟨ad, ws, rfl, sq, rw4⟩ := rd4.list
      cases r1
      have I5 : Inv X pins σ H4 { s4 with heap := s4.heap.push { cls := .type "slice", data := .fields #[vl, vu, vs] } } := I4.kept (t' := s4.toks) fun b ob z => Heap.get?_push_of_some _ z
      obtain ⟨its, rv, pt, hzz⟩ := I5.list sq
      have hlen := rv.length
      refine PyProof.Rows.tail_any (ops := [.ref ad, .ref s4.heap.objs.size]) pt.isList.typeIs (PySem.slot_list_getitem.lookup) ?_ (by with_unfolding_all rfl)
      refine wpAny_getItem_list_slice pt.isList (Heap.IsSliceOf.new _ vl vu vs) pl pu ps hz.2 ?_ (by rw [List.size_toArray]; omega)
      rw [pick3_arr]
      have e7 : E.pick3 its l' h' t' = (sliceRange (sliceBounds l' h' t' ws.length).1 (sliceBounds l' h' t' ws.length).2.1 (sliceBounds l' h' t' ws.length).2.2).filterMap (its[·]?) := by rw [hlen]; rfl
      have e8 : E.pick3 xs l' h' t' = (sliceRange (sliceBounds l' h' t' ws.length).1 (sliceBounds l' h' t' ws.length).2.1 (sliceBounds l' h' t' ws.length).2.2).filterMap (xs[·]?) := by rw [rw4.length]; rfl
      have rp := rw4.pick (sliceRange (sliceBounds l' h' t' ws.length).1 (sliceBounds l' h' t' ws.length).2.1 (sliceBounds l' h' t' ws.length).2.2)
      have vp := vals_pick rv (sliceRange (sliceBounds l' h' t' ws.length).1 (sliceBounds l' h' t' ws.length).2.1 (sliceBounds l' h' t' ws.length).2.2)
      rw [← e8] at rp
      rw [← e7] at vp
      have hn5 := I5.hok.fresh (Nat.le_refl _)
      refine ⟨.ref _, _, I5.laid (t' := s4.toks) (o := .lst ((sliceRange (sliceBounds l' h' t' ws.length).1 (sliceBounds l' h' t' ws.length).2.1 (sliceBounds l' h' t' ws.length).2.2).filterMap (ws[·]?))) (fun b ob z => Heap.get?_push_of_some _ z) (Nat.le_refl _) ?_, rfl, ?_⟩
      · exact ⟨by rw [rp.length]; exact hz.1, _, 0, vp, Heap.get?_push_size _ rfl⟩
      · obtain ⟨p5, ep⟩ : ∃ p5, p5 = (s4.heap.push { cls := .type "slice", data := .fields #[vl, vu, vs] }).objs.size := ⟨_, rfl⟩
        rw [← ep] at hn5 ⊢
        have N : Post F4 none H4 F4 (upd H4 p5 (.lst ((sliceRange (sliceBounds l' h' t' ws.length).1 (sliceBounds l' h' t' ws.length).2.1 (sliceBounds l' h' t' ws.length).2.2).filterMap (ws[·]?)))) := .new hn5
        have hn : H p5 = none := by
          cases z : H p5 with
          | none => rfl
          | some o => exact absurd hn5 (P14.dm p5 (by rw [z]; simp))
        exact q (.ref p5) F4 _ (P14.trans N.weak) ⟨p5, _, rfl, hn, fun z => R4.fo p5 z hn5, upd_same, rp.post N okN⟩ (rp4.keep N)
    · cases e5'
  | _ => cases e5'
end
end Dg

/-! deedsagain: the script, the pool, the law's def. -/
namespace Dg
open PySem PySem.Spec L2
namespace E
/-- list(script), script[:k], f(script) -/
def scL (i : Nat) : EF := fun e => match e.r[i]? with
  | some (.s ns) => some (.l (ns.map .int), e.p)
  | _ => none
def scT (i : Nat) (k : Nat) : EF := fun e => match e.r[i]? with
  | some (.s ns) => some (.l ((cutA ns none (some (k : Int))).map .int), e.p)
  | _ => none
def callS (i : Nat) (m : List Int → Option RV) : EF := fun e => match e.r[i]? with
  | some (.s ns) => (m ns).map fun r => (r, e.p)
  | _ => none
end E
/-! ### a def of the script -/
def spS (K : PySem.W.Frag) (m : List Int → Option RV) : Sp := fun vs H Q _ => ∃ F a ns r, (∀ a, F a → H a ≠ none) ∧ vs = [.ref a] ∧ Scr K H a (ns.map .int) ∧ m ns = some r ∧
  ∀ v F' H', Post F none H F' H' → RepR K F' H H' v r → Q v H'
structure CalS (P : Program) (w : World) (K : PySem.W.Frag) (mg : Str → Option Value) (base : Heap) (j : Nat) (x : Str) (m : List Int → Option RV) : Prop where
  ex : ∃ f fd y, FnOk P w K mg base CX0 j f fd [y] (spS K m) ∧ mg x = some (.ref f) ∧ PySem.W.keepIn K (.ref f) = true ∧ Binds K fd [y] []
theorem CalS.mono {P : Program} {w : World} {K : PySem.W.Frag} {mg : Str → Option Value} {base : Heap} {i j : Nat} {x : Str} {m : List Int → Option RV} (C : CalS P w K mg base i x m) (h : i ≤ j) : CalS P w K mg base j x m := by
  obtain ⟨f, fd, y, G, r⟩ := C.ex
  exact ⟨f, fd, y, G.mono h, r⟩
def runS (N : Nat) (body : SF) : List Int → Option RV := fun ns => (body ⟨.s ns :: List.replicate (N - 1) .un, none⟩).bind fun o => match o with
  | .nx _ => some (.d .none)
  | .rt r _ => some r
  | _ => none
/-- a statement where no pool came in -/
abbrev DS0 (X : Cx) (st : Stmt) (f : SF) : Prop := ∀ B : Bse, B.p0 = none → PS X st (trS X.K B f)
abbrev DSs0 (X : Cx) (st : List Stmt) (f : SF) : Prop := ∀ B : Bse, B.p0 = none → PSs X st (trS X.K B f)
section
variable {X : Cx} {e a b c : Expr} {es rest : List Expr} {f g h : EF} {pos : Pos} {st : Stmt} {sts : List Stmt} {sa sb : SF}
theorem new_of {K : PySem.W.Frag} {F : Addr → Prop} {H : Hp} {Q : VK} {l : Addr} {vs : List V} {ds : List D} (fo : ∀ a, F a → H a ≠ none) (hl : H l = none) (r : RpAll K F H vs ds)
    (q : ∀ v F' H', Post F none H F' H' → RepR K F' H H' v (.l ds) → Q v H') : Q (.ref l) (upd H l (.lst vs)) := by
  have N : Post F none H F (upd H l (.lst vs)) := .new hl
  exact q _ F _ N ⟨l, vs, rfl, hl, fun z => fo l z hl, upd_same, r.post N okN⟩
theorem de_scL {i : Nat} {y : Str} {p py : Pos} (hg : Gl X "list") (hm : X.mg "list" = none) (hv : bootBuiltins "list" = some (.type "list")) (hy : PE X (.Name y py) (tVar i))
    (hs : starEach [.Name y py] X.env = (false, eval (.Name y py) X.env) :: starEach [] X.env := by rfl) : DE X (.Call (.Name "list" p) [.Name y py] [] pos) (E.scL i) := by
  refine pe_imp (pe_callTy call_list_of hg hm hv (pa_cons hy pa_nil hs) (he := hs)) fun σ H Q w => ?_
  obtain ⟨F, pa, e, r, p, R, ev, q⟩ := w
  unfold E.scL at ev
  split at ev
  · rename_i ns hi
    cases ev
    obtain ⟨ad, e1, sc⟩ := R.sl i _ hi
    exact ⟨.ref ad, e1, ad, _, rfl, .inl sc.sq, fun l hl => new_of R.fo hl (RpAll.ofInts ns) fun v F' H' P rr => q v F' H' P.weak rr (R.pl.keep P)⟩
  · cases ev
theorem cutA_map {α β : Type} (f : α → β) (xs : List α) (lo hi : Option Int) : (cutA xs lo hi).map f = cutA (xs.map f) lo hi := by
  unfold cutA
  rw [List.length_map, List.map_take, List.map_drop]
theorem de_scT {i k j : Nat} {y : Str} {p py p2 : Pos} (hy : PE X (.Name y py) (tVar i)) : DE X (.Subscript (.Name y py) (.Slice none (some (.Constant (.int (k : Int)) j p)) none p2) pos) (E.scT i k) := by
  refine pe_imp (pe_slice sl_list hy po_none (po_some pe_int)) fun σ H Q w => ?_
  obtain ⟨F, pa, e, r, p, R, ev, q⟩ := w
  unfold E.scT at ev
  split at ev
  · rename_i ns hi
    cases ev
    obtain ⟨ad, e1, sc⟩ := R.sl i _ hi
    refine ⟨.ref ad, e1, (k : Int), rfl, ad, _, rfl, sc.sq, fun l hl => ?_⟩
    rw [cutA_map] at q
    have z : RpAll X.K F H (cutV (ns.map V.int) none (some (k : Int))) (cutA (ns.map PyData.int) none (some (k : Int))) := (RpAll.ofInts ns).cut none (some (k : Int))
    exact new_of R.fo hl z fun v F' H' P rr => q v F' H' P.weak rr (R.pl.keep P)
  · cases ev
theorem de_callS {i j : Nat} {x y : Str} {m : List Int → Option RV} {p py : Pos} (C : CalS X.prog X.w X.K X.mg X.base j x m) (hr : Room j X.A) (hg : Gl X x) (hy : PE X (.Name y py) (tVar i))
    (hdb : (x == ("__debug__" : Str)) = false := by decide) (he : starEach [.Name y py] X.env = (false, eval (.Name y py) X.env) :: starEach [] X.env := by rfl) (hpl : (backTo pos (starEach [] X.env)).any (·.1) = false := by rfl) :
    DE X (.Call (.Name x p) [.Name y py] [] pos) (E.callS i m) := by
  obtain ⟨f, fd, ps, G, hm, hk, hb⟩ := C.ex
  refine pe_imp (pe_call G hr hg hm hk hb .nil pass0 (pa_cons hy pa_nil he) hdb he hpl) fun σ H Q w => ?_
  obtain ⟨F, pa, e, r, p, R, ev, q⟩ := w
  unfold E.callS at ev
  split at ev
  · rename_i ns hi
    simp only [Option.map_eq_some_iff] at ev
    obtain ⟨r', e2, e3⟩ := ev
    obtain ⟨rfl, rfl⟩ := Prod.mk.inj e3
    obtain ⟨ad, e1, sc⟩ := R.sl i _ hi
    refine ⟨.ref ad, e1, F, ad, ns, _, R.fo, rfl, sc, e2, fun v F' H' P rr => q v F' H' P.weak rr (R.pl.keep P)⟩
  · cases ev
theorem ds0_of (h : DS X st sa) : DS0 X st sa := fun B _ => h B
theorem dss0_of (h : DSs X sts sa) : DSs0 X sts sa := fun B _ => h B
theorem dss0_cons (h1 : DS0 X st sa) (h2 : DSs X sts sb) : DSs0 X (st :: sts) (S.seq sa sb) := fun B hp => pss_imp (pss_cons (h1 B hp) (h2 B)) fun _ _ _ w => tSeq_of w
theorem ds0_setPool {i : Nat} {x : Str} {pos' : Pos} (hN : X.N.Nodup) (h : DE X e f) (hi : X.N[i]? = some x := by rfl) (hx : Loc X.env.scope x := by first | exact Or.inl rfl | exact Or.inr rfl) (hs : swapsWith e (some (.Name x pos')) pos.line X.env = pure false := by rfl)
    (hf : X.fn x = true ∨ X.env.scope.names.lookup x = some .local := by first | exact .inl rfl | exact .inr rfl) : DS0 X (.Assign [.Name x pos'] e pos) (S.setPool i f) := fun B hp => ps_imp (ps_set hN hi hx h hs hf) fun _ _ _ w => tSetPool_of hp w
end
/-! ### its entry -/
section
variable {P : Program} {w : World} {K : PySem.W.Frag} {mg : Str → Option Value} {base : Heap}
theorem start_one {N : List Str} {a : V} (i : Nat) : (L2.start N [a])[i + 1]? = (List.replicate (N.length - 1) (none : Option V))[i]? := by
  unfold L2.start
  rw [List.map_cons, List.map_nil, List.singleton_append, List.getElem?_cons_succ]
  rfl
theorem repE_script {F : Addr → Prop} {H : Hp} {N : List Str} {a : Addr} {ns : List Int} (fo : ∀ a, F a → H a ≠ none) (sc : Scr K H a (ns.map .int)) (hl : 1 ≤ N.length) :
    RepE K F none (L2.start N [.ref a]) H ⟨.s ns :: List.replicate (N.length - 1) .un, none⟩ := by
  have hs : ∀ (i : Nat) (s : Sl), (Sl.s ns :: List.replicate (N.length - 1) Sl.un)[i]? = some s → (i = 0 ∧ s = .s ns) ∨ s = .un := by
    intro i s h
    cases i with
    | zero =>
      rw [List.getElem?_cons_zero] at h
      cases h
      exact .inl ⟨rfl, rfl⟩
    | succ i =>
      rw [List.getElem?_cons_succ] at h
      exact .inr (List.eq_of_mem_replicate (List.mem_of_getElem? h))
  refine ⟨?_, fun i s h => ?_, fun i j s t b _ h1 _ o1 _ _ _ => ?_, trivial, fo⟩
  · rw [start_len (by simpa using hl)]
    simp only [List.length_cons, List.length_replicate]
    omega
  · rcases hs i s h with ⟨rfl, rfl⟩ | rfl
    · exact ⟨a, rfl, sc⟩
    · trivial
  · rcases hs i s h1 with ⟨_, rfl⟩ | rfl <;> cases o1
theorem script_run {X : Cx} {F : Addr → Prop} {H : Hp} {N : List Str} {a : Addr} {ns : List Int} {body : SF} {r : RV} {Q : VK} (fo : ∀ a, F a → H a ≠ none) (sc : Scr X.K H a (ns.map .int)) (hl : 1 ≤ N.length) (hm : runS N.length body ns = some r)
    (q : ∀ v F' H', Post F none H F' H' → RepR X.K F' H H' v r → Q v H') :
    trS X.K ⟨F, H, none, fun _ _ => True, fun _ _ _ _ _ _ => trivial⟩ body { nx := fun _ H' => Q .non H', rt := Q } (L2.start N [.ref a]) H := by
  unfold runS at hm
  simp only [Option.bind_eq_some_iff] at hm
  obtain ⟨o, e1, e2⟩ := hm
  have R0 := repE_script (K := X.K) fo sc hl
  refine ⟨F, none, _, o, ⟨R0, .refl, .inl rfl, fun i s b h1 h2 h3 => ?_, trivial⟩, e1, ?_⟩
  · exfalso
    cases i with
    | zero =>
      rw [List.getElem?_cons_zero] at h1
      cases h1
      cases h2
    | succ i =>
      rw [List.getElem?_cons_succ] at h1
      rw [List.eq_of_mem_replicate (List.mem_of_getElem? h1)] at h2
      cases h2
  · cases o with
    | nx e =>
      cases e2
      exact fun F' pa' σ' H' R' => q .non F' H' R'.po .non
    | rt r p =>
      cases e2
      exact fun v F' H' P' rr _ => q v F' H' P' rr
    | bk e => cases e2
    | ct e => cases e2
theorem fn_okS {x qual y : Str} {st : Stmt} {f : Addr} {fd : FuncData} {N : List Str} {k : Nat} {body : SF} (Fn : Fun K x qual st f fd) (S : FnScope N [y] (defScope st)) (hm : mg x = some (.ref f)) (hb : Binds K fd [y] []) (hl : 1 ≤ N.length)
    (hbody : ∀ (cdv : Value) (A : Around) (outer : List Env) (s : Shared) (H : Hp) (E : XK), Room k (A.deeper (PyProof.Rows.envOfC qual (defScope st) s.heap.objs.size f cdv)) →
      DSs (cxOf CX0 P w K mg base N qual (defScope st) f cdv A outer s H E).nox (defBody st) body) : CalS P w K mg base (k + 1) x (runS N.length body) := by
  refine ⟨f, fd, y, Fn.ok S (fun vs H Q E h => ?_) (fun cdv A outer s H vs Q E hr h => ?_), hm, Fn.kp, hb⟩
  · obtain ⟨F, a, ns, r, _, rfl, _⟩ := h
    rfl
  · obtain ⟨F, a, ns, r, fo, rfl, sc, hm, q⟩ := h
    exact ⟨_, hbody cdv A outer s H E hr _, script_run (X := (cxOf CX0 P w K mg base N qual (defScope st) f cdv A outer s H E).nox) fo sc hl hm q⟩
end
end Dg

/-! deedsagain: the law's def where the caller stands (nothing is being shown there). -/
namespace Dg
open PySem PySem.Spec L2
section
variable {P : Program} {w : World} {K : PySem.W.Frag} {mg : Str → Option Value} {base : Heap}
/-- a def of the text, entered under a known surrounding -/
theorem enter_at {A : Around} {x qual : Str} {st : Stmt} {f : Addr} {fd : FuncData} {N ps : List Str} {k : Nat} {s : Shared} {H : Hp} {args : Args} {us : List Value} {vs : List V} {Q : VK} {E : XK}
    (Fn : Fun K x qual st f fd) (S : FnScope N ps (defScope st)) (hr : Room (k + 1) A) (e0 : Env0 P w K mg base A [] s H) (hb : BindsTo s fd args (ps.zip us)) (hl : vs.length = ps.length) (rv : Vals vs us)
    (hbody : ∀ cdv : Value, Room k (A.deeper (PyProof.Rows.envOfC qual (defScope st) s.heap.objs.size f cdv)) →
      ∃ t, PSs (cxOf CX0 P w K mg base N qual (defScope st) f cdv A [] s H E).nox (defBody st) t ∧ t { nx := fun _ H' => Q .non H', rt := Q } (L2.start N vs) H) :
    codeAny (model P w) A (.call (.ref f) args) (CR CX0 [] P w H s Q E) s := by
  obtain ⟨oc, od, kV, doc, pm, an, cdv, ct, osl, rfl, lk, hcd⟩ := Fn.ex
  obtain ⟨t, ht, hq⟩ := hbody cdv (hr.deeper _)
  have hin : K.In s.heap := e0.mod.kin.keeps fun b o z => (e0.bs b o z).1
  have hnl : s.heap.NoLimit := e0.mod.nolimit.keeps fun b o z => (e0.bs b o z).1
  have kinds : ∀ y ∈ ps.zip us, (defScope st).names.lookup y.1 = some .local ∨ ((defScope st).names.lookup y.1 = some .cell ∧ ((cellsFrom (s.heap.objs.size + 1) (defScope st).names []).lookup y.1).isSome = true) := by
    rintro ⟨n, v⟩ hy
    exact (S.par n (List.of_mem_zip hy).1).imp id fun z => ⟨z, PySem.W.cellsFrom_some _ _ _ (.inl z)⟩
  refine codeAny_call_function hr.depth (hin _ _ lk) rfl S.co S.gen rfl (PySem.W.codeRec_of hin hcd) (hb _ _ _ _ (wpAny_newFunctionEnv_cells S.kind kinds fun env he s1 hc => ?_))
  cases he
  have J := inv_start (CX := CX0) (E := E) S hr.hd e0 hl rv hc
  refine ⟨hnl.keeps hc.toInCall.keep, codeAny_func (wpAny_mono (ht.nox.run [] s1 (L2.start N vs) H _ J hq) (fun fl s2 z => ?_) fun e s2 z => z)⟩
  have fin : ∀ {τ : St} {H2 : Hp} {v : V} {u : Value}, Inv (cxOf CX0 P w K mg base N qual (defScope st) f cdv A [] s H E) [] τ H2 s2 → RelV v u → Q v H2 → CE [] P w H s Q u s2 :=
    fun J2 r2 q2 => ⟨_, _, J2.os, J2.bare, J2.base, J2.hok, r2, q2⟩
  cases fl with
  | next => exact let ⟨τ, H2, J2, q2⟩ := z; fin (v := V.non) (u := Value.none) J2 rfl q2
  | ret u => exact let ⟨v, τ, H2, J2, r2, q2⟩ := z; fin J2 r2 q2
  | brk => exact False.elim (let ⟨_, _, _, q2⟩ := z; q2)
  | cont => exact False.elim (let ⟨_, _, _, q2⟩ := z; q2)
/-- what stands where: the script alone, if the module does not hold it -/
def onlyS (K : PySem.W.Frag) (a : Addr) (o : Obj) (xs : List V) : Hp := fun b => if b = a ∧ K.lookup a = none then some (.frz o (.lst xs)) else none
theorem onlyS_some {K : PySem.W.Frag} {a : Addr} {o : Obj} {xs : List V} {b : Addr} {u : HO} (h : onlyS K a o xs b = some u) : b = a ∧ K.lookup a = none ∧ u = .frz o (.lst xs) := by
  unfold onlyS at h
  split at h
  · rename_i c
    cases h
    exact ⟨c.1, c.2, rfl⟩
  · cases h
theorem law_at {l : PySem.W.OpenLaw} {k : Nat} {q : Program} {loose : List Str} {XP : (Str → Option Value) → Heap → Prop} {YP : World → Heap → Prop} {d : DefRec} {K : Params → PySem.W.Frag} {x qual y : Str} {st : Stmt} {N : List Str} {body : SF}
    (hn : l.most = some 63) (hdf : d.params.defaults = []) (hr : Room (k + 1) PySem.callerA) (hY : ∀ (w : World) (h : Heap), YP w h → (K w.params).In h) (S : FnScope N [y] (defScope st)) (hN : 1 ≤ N.length)
    (F : ∀ (w : World) (mg : Str → Option Value) (fa : Addr) (h : Heap), (K w.params).In h → h.Ns mainGlobals mg → mg d.name = some (.ref fa) →
      ∃ fd : FuncData, Fun (K w.params) x qual st fa fd ∧ (∀ (s : Shared) (u : Value), BindsTo s fd ⟨[u], []⟩ [(y, u)]) ∧
        ∀ base : Heap, (K w.params).In base → base.Ns mainGlobals mg → ∀ (cdv : Value) (s : Shared) (H : Hp) (E : XK), Room k (PySem.callerA.deeper (PyProof.Rows.envOfC qual (defScope st) s.heap.objs.size fa cdv)) →
          DSs0 (cxOf CX0 l.prog w (K w.params) mg base N qual (defScope st) fa cdv PySem.callerA [] s H E).nox (defBody st) body)
    (hm : ∀ ns : List Int, ns.length ≤ 63 → (∀ z ∈ ns, Builtin.Int.intBits z ≤ 1048576) → runS N.length body ns = some (.d (.bool true))) :
    PySem.W.WalkO q loose XP YP l.row.toRowW d [] (fun f vs => PySem.call f vs) := by
  refine Att.attach_callB hn hdf fun w s₀ s₁ mg mb fa o pm cd doc a vs ns G Y ho hd hcd hmg hobj hints hlen hbits hg => ?_
  have KX := hY w _ Y
  obtain ⟨fd, Fn, hbd, hF⟩ := F w mg fa _ KX G.T.g hmg
  have rv : Vals (ns.map V.int) vs := vals_ints hints
  have hsz : (ns.map V.int).length ≤ sizeLine := by rw [List.length_map]; exact Nat.le_trans hlen (by decide)
  have lv : vs.length = ns.length := by have z := rv.length; rw [List.length_map] at z; exact z.symm
  obtain ⟨H, eH⟩ : ∃ H : Hp, H = onlyS (K w.params) a { cls := .type "list", data := .seq vs.toArray } (ns.map V.int) := ⟨_, rfl⟩
  have hsome : ∀ {b : Addr} {u : HO}, H b = some u → b = a ∧ (K w.params).lookup a = none ∧ u = .frz { cls := .type "list", data := .seq vs.toArray } (.lst (ns.map V.int)) := fun {b u} h => by
    rw [eH] at h
    exact onlyS_some h
  have free : ∀ {b : Addr} {o : Obj}, s₁.heap.get? b = some o → (∀ its n, o.data ≠ .seq its n) → H b = none := fun {b o} e nd => by
    cases z : H b with
    | none => rfl
    | some u =>
      obtain ⟨rfl, _, _⟩ := hsome z
      rw [hobj] at e
      cases e
      exact absurd rfl (nd _ _)
  have nsH : ∀ {b : Addr} {m : Str → Option Value}, s₁.heap.Ns b m → (hidT s₁.heap H).Ns b m := fun {b m} h => by
    obtain ⟨o, es, ep, e1, e2, e3⟩ := h
    exact ⟨o, es, ep, hidT_get e1 (free e1 fun its n z => by rw [e2] at z; cases z), e2, e3⟩
  have kinH : (K w.params).In (hidT s₁.heap H) := fun b o e => hidT_get (KX b o e) (by
    cases z : H b with
    | none => rfl
    | some u =>
      obtain ⟨rfl, n, _⟩ := hsome z
      rw [n] at e; cases e)
  have sc : Scr (K w.params) H a (ns.map .int) := by
    cases hk : (K w.params).lookup a with
    | none => exact .inl ⟨_, by rw [eH]; exact if_pos ⟨rfl, hk⟩⟩
    | some o =>
      have e := KX a o hk
      rw [hobj] at e
      cases e
      exact .inr ⟨_, vs.toArray, _, hk, rfl, rfl, rfl, by rw [List.size_toArray, lv, ← List.length_map (f := V.int)]; exact hsz, by simpa using rv⟩
  have hok : HOk l.prog w H s₁.heap := fun b u z => by
    obtain ⟨rfl, _, rfl⟩ := hsome z
    exact ⟨hobj, hsz, vs, _, rv, hobj⟩
  have hM : Mod (K w.params) mg (hidT s₁.heap H) := ⟨kinH, nsH G.T.g, ⟨mb, nsH G.T.b, G.T.builtins⟩, let ⟨mc, z1, z2⟩ := G.T.nolimit; ⟨mc, nsH z1, z2⟩⟩
  have e0 : Env0 l.prog w (K w.params) mg (hidT s₁.heap H) PySem.callerA [] s₁ H :=
    ⟨rfl, hM, fun b o z => of_hidT z, Nat.le_of_eq (hidT_size _ _), trivial, fun b z => absurd (show b ∈ ([] : List Addr) from z) (by simp), hok, .of_eq hg⟩
  have run := enter_at (Q := fun v _ => v = .bl true) (E := fun _ _ _ => False) (vs := [.ref a]) Fn S hr e0 (hbd s₁ (.ref a)) rfl (.cons rfl .nil) fun cdv hr' =>
    ⟨_, hF _ kinH (nsH G.T.g) cdv s₁ H (fun _ _ _ => False) hr' _ rfl, script_run (Q := fun v _ => v = .bl true) (X := (cxOf CX0 l.prog w (K w.params) mg (hidT s₁.heap H) N qual (defScope st) fa cdv PySem.callerA [] s₁ H (fun _ _ _ => False)).nox) (F := fun _ => False) (fun _ z => z.elim) sc hN (hm ns hlen hbits) fun v F' H' _ rr => by cases rr; rfl⟩
  refine codeAny_mono run fun r s' h => ?_
  cases r with
  | error e => exact h.elim
  | ok fl =>
    cases fl with
    | ret u =>
      obtain ⟨v, H', os, bare, un, hok', r', q⟩ := h
      cases q
      cases (show u = Value.bool true from r')
      refine ⟨rfl, OldK.of_keep fun b o e => ?_, os, bare⟩
      cases z : H b with
      | none => exact un.keep b o e z (fun y => absurd (show b ∈ ([] : List Addr) from y) (by simp)) (by simp)
      | some u =>
        obtain ⟨rfl, _, rfl⟩ := hsome z
        obtain ⟨e1, _⟩ := hok' b _ (un.frzs b _ _ z)
        rw [hobj] at e
        cases e
        exact e1
    | _ => exact False.elim h
end
end Dg

/-! deedsagain: small rules for the printed derivations. -/
namespace Dg
open PySem PySem.Spec L2
section
variable {X : Cx} {elt tg iter : Expr} {ifs : List Expr} {scope : Scope} {own : List (Str × Nat)} {own' : List Nat} {lpos py pos : Pos} {y : Str} {it : IF} {ts : List Nat} {t : TF} {c : BF} {f : EF} {i : Nat}
theorem ds_lcS (ho : own' = own.map (·.2)) (hc : X.calm = true) (hN : X.N.Nodup) (hi : DI X tg iter it) (ok : BlkOk X.N X.env.scope scope own)
    (hg : ∀ (s : Shared) (H : Hp) (C : Addr) (cl : List (Str × Addr)) (fp : List Addr), PG (X.blk s H scope (compEnvC scope cl C X.env) fp) tg (trG X.K ts t)) (ht : ∀ (s : Shared) (H : Hp) (C : Addr) (cl : List (Str × Addr)) (fp : List Addr), PTs (X.blk s H scope (compEnvC scope cl C X.env) fp) ifs (trB X.K c))
    (he : ∀ (s : Shared) (H : Hp) (C : Addr) (cl : List (Str × Addr)) (fp : List Addr), PE (X.blk s H scope (compEnvC scope cl C X.env) fp) elt (trE X.K f))
    (hsw : swapsWith (.ListComp elt [⟨tg, iter, ifs, 0⟩] scope lpos) (some (.Name y py)) pos.line X.env = pure true := by rfl) (hy : X.N[i]? = some y := by rfl) (hyl : X.env.scope.names.lookup y = some .local := by rfl)
    (hts : ∀ j ∈ ts, j ∈ own.map (·.2) := by decide) (hs : ∀ x, foldedSetIterable iter X.env x = pure x := by intro _; rfl) :
    DS X (.Assign [.Name y py] (.ListComp elt [⟨tg, iter, ifs, 0⟩] scope lpos) pos) (S.set i (E.lc own' it t c f)) := (ds_lc hc hN hi ok hg ht he hsw hy hyl hts hs own' ho).1
theorem ds_lcO (ho : own' = own.map (·.2)) (hc : X.calm = true) (hN : X.N.Nodup) (hi : DI X tg iter it) (ok : BlkOk X.N X.env.scope scope own)
    (hg : ∀ (s : Shared) (H : Hp) (C : Addr) (cl : List (Str × Addr)) (fp : List Addr), PG (X.blk s H scope (compEnvC scope cl C X.env) fp) tg (trG X.K ts t)) (ht : ∀ (s : Shared) (H : Hp) (C : Addr) (cl : List (Str × Addr)) (fp : List Addr), PTs (X.blk s H scope (compEnvC scope cl C X.env) fp) ifs (trB X.K c))
    (he : ∀ (s : Shared) (H : Hp) (C : Addr) (cl : List (Str × Addr)) (fp : List Addr), PE (X.blk s H scope (compEnvC scope cl C X.env) fp) elt (trE X.K f))
    (hsw : swapsWith (.ListComp elt [⟨tg, iter, ifs, 0⟩] scope lpos) (some (.Name y py)) pos.line X.env = pure true := by rfl) (hy : X.N[i]? = some y := by rfl) (hyl : X.env.scope.names.lookup y = some .local := by rfl)
    (hts : ∀ j ∈ ts, j ∈ own.map (·.2) := by decide) (hs : ∀ x, foldedSetIterable iter X.env x = pure x := by intro _; rfl) :
    DS X (.Assign [.Name y py] (.ListComp elt [⟨tg, iter, ifs, 0⟩] scope lpos) pos) (S.setL i (E.lc own' it t c f)) := (ds_lc hc hN hi ok hg ht he hsw hy hyl hts hs own' ho).2
end
/-- a def of the text that is never entered -/
theorem Cal.zero {P : Program} {w : World} {K : PySem.W.Frag} {mg : Str → Option Value} {base : Heap} {x qual : Str} {st : Stmt} {f : Addr} {fd : FuncData} {ps : List Str} {hp : Bool} {n : Nat} (F : Fun K x qual st f fd) (hm : mg x = some (.ref f)) (hb : Binds K fd ps []) :
    Cal P w K mg base 0 x hp n (fun _ _ => none) := by
  have no : ∀ vs H Q E, ¬ spF K hp n (fun _ _ => none) vs H Q E := fun vs H Q E h => by
    obtain ⟨_, _, _, _, _, _, _, _, _, _, _, z, _⟩ := h
    cases z
  exact ⟨f, fd, ps, ⟨fun vs H Q E h => absurd h (no vs H Q E), fun A outer s H args us vs Q E _ _ _ _ h => absurd h (no vs H Q E)⟩, hm, F.kp, hb⟩
end Dg

/-! deedsagain: running the functions of data step by step. The rest of a step stands under a name, so that it is not entered before its turn. -/
namespace Dg
open PySem L2
namespace Ru
variable {r : List Sl} {p q : Pl} {i k : Nat} {x y : D} {xs ys ds : List D} {f g h : EF} {fa fb fc : RF} {fA : AF} {b c : BF} {t : TF} {it : IF} {sa sb : SF} {e : Ev}
/-! #### values -/
theorem bind_some {α β : Type} {a : α} {f : α → Option β} : (some a).bind f = f a := id rfl
theorem map_some {α β : Type} {a : α} {f : α → β} : (some a).map f = some (f a) := id rfl
theorem c_e : E.c x e = some (.d x, e.p) := id rfl
def vK (p : Pl) : Option Sl → Option (RV × Pl)
  | some (.d x) => some (.d x, p)
  | _ => none
theorem v_e : E.v i ⟨r, p⟩ = vK p r[i]? := id rfl
theorem v_d : vK p (some (.d x)) = some (.d x, p) := id rfl
def rvK (p : Pl) : Option Sl → Option (D × Pl)
  | some (.d x) => some (x, p)
  | some (.l xs) => some (.list xs, p)
  | _ => none
theorem rv_e : E.rv i ⟨r, p⟩ = rvK p r[i]? := id rfl
theorem rv_d : rvK p (some (.d x)) = some (x, p) := id rfl
theorem rv_l : rvK p (some (.l xs)) = some (.list xs, p) := id rfl
theorem nil_e : E.nil ⟨r, p⟩ = some ([], p) := id rfl
def consK2 (d : D) (b : List D × Pl) : Option (List D × Pl) := some (d :: b.1, b.2)
def consK (g : AF) (r : List Sl) (a : RV × Pl) : Option (List D × Pl) := (toD a.1).bind fun d => (g ⟨r, a.2⟩).bind (consK2 d)
theorem cons_e {g : AF} : E.cons f g ⟨r, p⟩ = (f ⟨r, p⟩).bind (consK g r) := id rfl
theorem cons_d {g : AF} : consK g r (.d x, q) = (g ⟨r, q⟩).bind (consK2 x) := id rfl
theorem cons_l {g : AF} : consK g r (.l xs, q) = (g ⟨r, q⟩).bind (consK2 (.list xs)) := id rfl
theorem cons_2 : consK2 x (ds, q) = some (x :: ds, q) := id rfl
def tupK (a : List D × Pl) : Option (RV × Pl) := if a.1.length ≤ sizeLine then some (.d (.tuple a.1), a.2) else none
theorem tup_e : E.tup fA ⟨r, p⟩ = (fA ⟨r, p⟩).bind tupK := id rfl
theorem tup_d (h : ds.length ≤ 16777216) : tupK (ds, q) = some (.d (.tuple ds), q) := if_pos (by rw [sizeLine_eq]; exact h)
def lstK (a : List D × Pl) : Option (RV × Pl) := if a.1.length ≤ sizeLine then some (.l a.1, a.2) else none
theorem lst_e : E.lst fA ⟨r, p⟩ = (fA ⟨r, p⟩).bind lstK := id rfl
theorem lst_d (h : ds.length ≤ 16777216) : lstK (ds, q) = some (.l ds, q) := if_pos (by rw [sizeLine_eq]; exact h)
def rdK (a : RV × Pl) : Option (D × Pl) := (toD a.1).map fun d => (d, a.2)
theorem rd_e : E.rd f e = (f e).bind rdK := id rfl
theorem rd_d : rdK (.d x, q) = some (x, q) := id rfl
theorem rd_l : rdK (.l xs, q) = some (.list xs, q) := id rfl
def opK3 (q : Pl) (r : RV) : Option (RV × Pl) := some (r, q)
def opK2 (o : D → D → Option RV) (x : D) (y : D × Pl) : Option (RV × Pl) := (o x y.1).bind (opK3 y.2)
def opK (o : D → D → Option RV) (b : RF) (r : List Sl) (x : D × Pl) : Option (RV × Pl) := (b ⟨r, x.2⟩).bind (opK2 o x.1)
theorem map_some_bind {α : Type} (x : Option α) (q : Pl) : x.map (fun r => (r, q)) = x.bind (fun r => some (r, q)) := by cases x <;> rfl
variable {o o' : D → D → Option RV} {u : D → Option RV} {rv : RV}
theorem op_e : E.op o fa fb ⟨r, p⟩ = (fa ⟨r, p⟩).bind (opK o fb r) := by
  simp only [E.op, map_some_bind]
  rfl
theorem op_1 : opK o fb r (x, q) = (fb ⟨r, q⟩).bind (opK2 o x) := id rfl
theorem op_2 : opK2 o x (y, q) = (o x y).bind (opK3 q) := id rfl
theorem op_3 : opK3 q rv = some (rv, q) := id rfl
def unK (u : D → Option RV) (x : D × Pl) : Option (RV × Pl) := (u x.1).bind (opK3 x.2)
theorem un_e : E.un u fa e = (fa e).bind (unK u) := by
  simp only [E.un, map_some_bind]
  rfl
theorem un_1 : unK u (x, q) = (u x).bind (opK3 q) := id rfl
theorem isi_e {T : String} : E.isi T fa e = (fa e).bind (unK (gIsT T)) := un_e
def iteK (f g : EF) (r : List Sl) (x : Bool × Pl) : Option (RV × Pl) := if x.1 = true then f ⟨r, x.2⟩ else g ⟨r, x.2⟩
theorem ite_e : E.ite b f g ⟨r, p⟩ = (b ⟨r, p⟩).bind (iteK f g r) := id rfl
theorem ite_t : iteK f g r (true, q) = f ⟨r, q⟩ := id rfl
theorem ite_f : iteK f g r (false, q) = g ⟨r, q⟩ := id rfl
def ofBK (x : Bool × Pl) : Option (RV × Pl) := some (.d (.bool x.1), x.2)
theorem ofB_e : E.ofB b e = (b e).bind ofBK := by
  show (b e).map _ = _
  cases b e <;> rfl
theorem ofB_1 {k : Bool} : ofBK (k, q) = some (.d (.bool k), q) := id rfl
def toBK (a : RV × Pl) : Option (Bool × Pl) := match a.1 with
  | .d (.bool b) => some (b, a.2)
  | _ => none
theorem toB_e : E.toB f e = (f e).bind toBK := id rfl
theorem toB_1 {k : Bool} : toBK (.d (.bool k), q) = some (k, q) := id rfl
def andK (c : BF) (r : List Sl) (x : Bool × Pl) : Option (Bool × Pl) := if x.1 = true then c ⟨r, x.2⟩ else some (false, x.2)
theorem and_e : E.and b c ⟨r, p⟩ = (b ⟨r, p⟩).bind (andK c r) := id rfl
theorem and_t : andK c r (true, q) = c ⟨r, q⟩ := id rfl
theorem and_f : andK c r (false, q) = some (false, q) := id rfl
def orK (c : BF) (r : List Sl) (x : Bool × Pl) : Option (Bool × Pl) := if x.1 = true then some (true, x.2) else c ⟨r, x.2⟩
theorem or_e : E.or b c ⟨r, p⟩ = (b ⟨r, p⟩).bind (orK c r) := id rfl
theorem or_t : orK c r (true, q) = some (true, q) := id rfl
theorem or_f : orK c r (false, q) = c ⟨r, q⟩ := id rfl
def notK (x : Bool × Pl) : Option (Bool × Pl) := some (!x.1, x.2)
theorem not_e : E.not b e = (b e).bind notK := by
  show (b e).map _ = _
  cases b e <;> rfl
theorem not_1 {k : Bool} : notK (k, q) = some (!k, q) := id rfl
def pxK2 (p : Pl) (d : D) : Option (RV × Pl) := some (.d d, p)
def pxK (k : Nat) (p : Pl) : Option Sl → Option (RV × Pl)
  | some .pool => p.bind fun xs => (xs[k]?).bind (pxK2 (some xs))
  | _ => none
theorem px_e : E.px i k ⟨r, p⟩ = pxK k p r[i]? := by
  unfold E.px pxK
  simp only
  cases r[i]? with
  | none => rfl
  | some s =>
    cases s <;> cases p <;> first | rfl | skip
    rename_i xs
    simp only [Option.bind_some]
    cases xs[k]? <;> rfl
theorem px_1 : pxK k (some xs) (some .pool) = (xs[k]?).bind (pxK2 (some xs)) := id rfl
theorem px_2 : pxK2 p x = some (.d x, p) := id rfl
theorem oN_e : E.oN ⟨r, p⟩ = some (none, p) := id rfl
def oSK (a : RV × Pl) : Option (Option Int × Pl) := match a.1 with
  | .d (.int i) => some (some i, a.2)
  | _ => none
theorem oS_e : E.oS f e = (f e).bind oSK := id rfl
theorem oS_1 {j : Int} : oSK (.d (.int j), q) = some (some j, q) := id rfl
variable {lo hi st : OF} {l m : Option Int}
def slK3 (x : D) (l : Option Int) (h : Option Int × Pl) : Option (RV × Pl) := (E.gSl x l h.1).bind (opK3 h.2)
def slK2 (hi : OF) (r : List Sl) (x : D) (l : Option Int × Pl) : Option (RV × Pl) := (hi ⟨r, l.2⟩).bind (slK3 x l.1)
def slK (lo hi : OF) (r : List Sl) (x : D × Pl) : Option (RV × Pl) := (lo ⟨r, x.2⟩).bind (slK2 hi r x.1)
theorem sl_e : E.sl fa lo hi ⟨r, p⟩ = (fa ⟨r, p⟩).bind (slK lo hi r) := by
  simp only [E.sl, map_some_bind]
  rfl
theorem sl_1 : slK lo hi r (x, q) = (lo ⟨r, q⟩).bind (slK2 hi r x) := id rfl
theorem sl_2 : slK2 hi r x (l, q) = (hi ⟨r, q⟩).bind (slK3 x l) := id rfl
theorem sl_3 : slK3 x l (m, q) = (E.gSl x l m).bind (opK3 q) := id rfl
def tlK4 (x : D) (l h : Option Int) (t : Option Int × Pl) : Option (RV × Pl) := (E.gSl3 x l h t.1).bind (opK3 t.2)
def tlK3 (st : OF) (r : List Sl) (x : D) (l : Option Int) (h : Option Int × Pl) : Option (RV × Pl) := (st ⟨r, h.2⟩).bind (tlK4 x l h.1)
def tlK2 (hi st : OF) (r : List Sl) (x : D) (l : Option Int × Pl) : Option (RV × Pl) := (hi ⟨r, l.2⟩).bind (tlK3 st r x l.1)
def tlK (lo hi st : OF) (r : List Sl) (x : D × Pl) : Option (RV × Pl) := (lo ⟨r, x.2⟩).bind (tlK2 hi st r x.1)
theorem sl3_e : E.sl3 fa lo hi st ⟨r, p⟩ = (fa ⟨r, p⟩).bind (tlK lo hi st r) := by
  simp only [E.sl3, map_some_bind]
  rfl
theorem tl_1 : tlK lo hi st r (x, q) = (lo ⟨r, q⟩).bind (tlK2 hi st r x) := id rfl
theorem tl_2 : tlK2 hi st r x (l, q) = (hi ⟨r, q⟩).bind (tlK3 st r x l) := id rfl
theorem tl_3 : tlK3 st r x l (m, q) = (st ⟨r, q⟩).bind (tlK4 x l m) := id rfl
theorem tl_4 {n : Option Int} : tlK4 x l m (n, q) = (E.gSl3 x l m n).bind (opK3 q) := id rfl
/-! #### calls -/
def callK2 (q : Pl) (r : RV × Pl) : Option (RV × Pl) := some (r.1, q)
def callK (m : MF) (a : List D × Pl) : Option (RV × Pl) := (m a.1 none).bind (callK2 a.2)
theorem call_e {m : MF} : E.call m fA e = (fA e).bind (callK m) := by
  unfold E.call
  refine congrArg (fun z => (fA e).bind z) (funext fun a => ?_)
  unfold callK
  cases m a.1 none <;> rfl
theorem call_1 {m : MF} : callK m (ds, q) = (m ds none).bind (callK2 q) := id rfl
theorem call_2 {rp : RV × Pl} : callK2 q rp = some (rp.1, q) := id rfl
def cpK2 (m : MF) (a : List D × Pl) : Option (RV × Pl) := if a.2.isSome then m a.1 a.2 else none
def cpK (m : MF) (f : AF) (e : Ev) : Option Sl → Option (RV × Pl)
  | some .pool => (f e).bind (cpK2 m)
  | _ => none
theorem callP_e {m : MF} : E.callP i m fA ⟨r, p⟩ = cpK m fA ⟨r, p⟩ r[i]? := by
  unfold E.callP cpK
  rfl
theorem callP_1 {m : MF} : cpK m fA e (some .pool) = (fA e).bind (cpK2 m) := id rfl
theorem callP_2 {m : MF} : cpK2 m (ds, some xs) = m ds (some xs) := id rfl
def chK3 (o' : D → D → Option RV) (c : RF) (r : List Sl) (y : D) (q : Pl) (k : RV) : Option (RV × Pl) := match k with
  | .d (.bool true) => (c ⟨r, q⟩).bind (opK2 o' y)
  | .d (.bool false) => some (.d (.bool false), q)
  | _ => none
def chK2 (o o' : D → D → Option RV) (c : RF) (r : List Sl) (x : D) (y : D × Pl) : Option (RV × Pl) := (o x y.1).bind (chK3 o' c r y.1 y.2)
def chK (o o' : D → D → Option RV) (b c : RF) (r : List Sl) (x : D × Pl) : Option (RV × Pl) := (b ⟨r, x.2⟩).bind (chK2 o o' c r x.1)
theorem chain_e : E.chain o o' fa fb fc ⟨r, p⟩ = (fa ⟨r, p⟩).bind (chK o o' fb fc r) := by
  unfold E.chain
  refine congrArg (fun z => (fa ⟨r, p⟩).bind z) (funext fun x => ?_)
  refine congrArg (fun z => (fb ⟨r, x.2⟩).bind z) (funext fun y => ?_)
  unfold chK2
  refine congrArg (fun z => (o x.1 y.1).bind z) (funext fun k => ?_)
  unfold chK3
  simp only [map_some_bind]
  rfl
theorem ch_1 : chK o o' fb fc r (x, q) = (fb ⟨r, q⟩).bind (chK2 o o' fc r x) := id rfl
theorem ch_2 : chK2 o o' fc r x (y, q) = (o x y).bind (chK3 o' fc r y q) := id rfl
theorem ch_t : chK3 o' fc r y q (.d (.bool true)) = (fc ⟨r, q⟩).bind (opK2 o' y) := id rfl
theorem ch_f : chK3 o' fc r y q (.d (.bool false)) = some (.d (.bool false), q) := id rfl
/-! #### what is walked -/
def iLK (a : RV × Pl) : Option (List D × Pl) := match toD a.1 with
  | some (.list ds) => some (ds, a.2)
  | _ => none
theorem iL_e : E.iL f e = (f e).bind iLK := id rfl
theorem iL_d : iLK (.d (.list ds), q) = some (ds, q) := id rfl
theorem iL_l : iLK (.l ds, q) = some (ds, q) := id rfl
def iTK (a : RV × Pl) : Option (List D × Pl) := match toD a.1 with
  | some (.tuple ds) => some (ds, a.2)
  | _ => none
theorem iT_e : E.iT f e = (f e).bind iTK := id rfl
theorem iT_d : iTK (.d (.tuple ds), q) = some (ds, q) := id rfl
def upTo (n : Nat) : List D := (List.range n).map fun (i : Nat) => .int (i : Int)
theorem upTo_eq (n : Nat) : E.rangeD 0 n 1 = upTo n := by
  unfold E.rangeD upTo
  refine List.map_congr_left fun i _ => ?_
  rw [Int.zero_add, Int.mul_one]
def iR1K (a : List D × Pl) : Option (List D × Pl) := match a.1 with
  | [.int j] => if E.small62 j then some (E.rangeD 0 j.toNat 1, a.2) else none
  | _ => none
theorem iR1_e : E.iR1 fA e = (fA e).bind iR1K := id rfl
theorem iR1_1 {j : Int} (h0 : 0 ≤ j) (h : j < 4611686018427387904) : iR1K ([.int j], q) = some (upTo j.toNat, q) := by
  unfold iR1K
  simp only
  rw [if_pos ⟨Int.le_trans (by decide) h0, h⟩, upTo_eq]
def lRK (a : RV × Pl) : Option (RV × Pl) := match a.1 with
  | .d (.int j) => if 0 ≤ j ∧ j ≤ 16777216 then some (.l (E.rangeD 0 j.toNat 1), a.2) else none
  | _ => none
theorem lR_e : E.lR f e = (f e).bind lRK := id rfl
theorem lR_1 {j : Int} (h0 : 0 ≤ j) (h : j ≤ 16777216) : lRK (.d (.int j), q) = some (.l (upTo j.toNat), q) := by
  unfold lRK
  simp only
  rw [if_pos ⟨h0, h⟩, upTo_eq]
theorem tN_e : E.tN i x r = some (r.set i (.d x)) := id rfl
theorem tT_2 {i j : Nat} {a b : D} : E.tT [i, j] (.tuple [a, b]) r = some ((r.set i (.d a)).set j (.d b)) := id rfl
theorem yes_e : E.yes ⟨r, p⟩ = some (true, p) := id rfl
def lcK2 (a : List D × Pl) : Option (RV × Pl) := some (.l a.1, a.2)
def lcK (own : List Nat) (t : TF) (c : BF) (f : EF) (r : List Sl) (a : List D × Pl) : Option (RV × Pl) :=
  if a.1.length ≤ sizeLine then (E.lcL t c f (E.wipeS r own) a.1 a.2 []).bind lcK2 else none
theorem lc_e {own : List Nat} : E.lc own it t b f ⟨r, p⟩ = (it ⟨r, p⟩).bind (lcK own t b f r) := by
  unfold E.lc
  refine congrArg (fun z => (it ⟨r, p⟩).bind z) (funext fun a => ?_)
  unfold lcK
  cases E.lcL t b f (E.wipeS r own) a.1 a.2 [] <;> rfl
theorem lc_1 {own : List Nat} (h : ds.length ≤ 16777216) : lcK own t b f r (ds, q) = (E.lcL t b f (E.wipeS r own) ds q []).bind lcK2 := if_pos (by rw [sizeLine_eq]; exact h)
theorem lc_2 : lcK2 (ds, q) = some (.l ds, q) := id rfl
/-- a comprehension that leaves the pool alone -/
theorem lc_pure {t : TF} {c : BF} {f : EF} {r : List Sl} {p : Pl} (pr : D → Bool) (g : D → D) : ∀ (ds acc : List D), (∀ d ∈ ds, ∃ r1, t d r = some r1 ∧ c ⟨r1, p⟩ = some (pr d, p) ∧ (pr d = true → ∃ a, f ⟨r1, p⟩ = some (a, p) ∧ toD a = some (g d))) →
    E.lcL t c f r ds p acc = some (acc ++ (ds.filter pr).map g, p)
  | [], acc, _ => by simp [E.lcL]
  | d :: ds, acc, h => by
    obtain ⟨r1, h1, h2, h3⟩ := h d (by simp)
    have ih := fun acc => lc_pure pr g ds acc fun d hd => h d (by simp [hd])
    simp only [E.lcL, h1, h2, Option.bind_some]
    by_cases hd : pr d = true
    · obtain ⟨a, h4, h5⟩ := h3 hd
      rw [if_pos hd, h4]
      simp only [Option.bind_some, h5]
      rw [ih, List.filter_cons_of_pos hd]
      simp
    · rw [if_neg hd, ih, List.filter_cons_of_neg hd]
theorem lc_map {t : TF} {c : BF} {f : EF} {r : List Sl} {p : Pl} (g : D → D) (ds acc : List D) (h : ∀ d ∈ ds, ∃ r1, t d r = some r1 ∧ c ⟨r1, p⟩ = some (true, p) ∧ ∃ a, f ⟨r1, p⟩ = some (a, p) ∧ toD a = some (g d)) :
    E.lcL t c f r ds p acc = some (acc ++ ds.map g, p) := by
  have z := lc_pure (fun _ => true) g ds acc fun d hd => by
    obtain ⟨r1, h1, h2, h3⟩ := h d hd
    exact ⟨r1, h1, h2, fun _ => h3⟩
  rw [z, List.filter_eq_self.mpr (fun _ _ => rfl)]
/-! #### statements -/
def seqK (b : SF) : Out → Option Out
  | .nx e' => b e'
  | o => some o
theorem seq_e : S.seq sa sb e = (sa e).bind (seqK sb) := id rfl
theorem seq_nx : seqK sb (.nx e) = sb e := id rfl
theorem seq_rt : seqK sb (.rt rv q) = some (.rt rv q) := id rfl
theorem nop_e : S.nop e = some (.nx e) := id rfl
def setK (i : Nat) (r : List Sl) (a : RV × Pl) : Option Out := (toD a.1).map fun d => .nx ⟨r.set i (.d d), a.2⟩
theorem set_e : S.set i f ⟨r, p⟩ = (f ⟨r, p⟩).bind (setK i r) := id rfl
theorem set_d : setK i r (.d x, q) = some (.nx ⟨r.set i (.d x), q⟩) := id rfl
theorem set_l : setK i r (.l xs, q) = some (.nx ⟨r.set i (.d (.list xs)), q⟩) := id rfl
def setLK (i : Nat) (r : List Sl) (a : RV × Pl) : Option Out := match a.1 with
  | .l xs => some (.nx ⟨r.set i (.l xs), a.2⟩)
  | _ => none
theorem setL_e : S.setL i f ⟨r, p⟩ = (f ⟨r, p⟩).bind (setLK i r) := id rfl
theorem setL_l : setLK i r (.l xs, q) = some (.nx ⟨r.set i (.l xs), q⟩) := id rfl
def retK (a : RV × Pl) : Option Out := some (.rt a.1 a.2)
theorem ret_e : S.ret f e = (f e).bind retK := by
  show (f e).map _ = _
  cases f e <;> rfl
theorem ret_1 : retK (rv, q) = some (.rt rv q) := id rfl
def retVK (p : Pl) : Option Sl → Option Out
  | some (.l xs) => some (.rt (.l xs) p)
  | some (.m xs) => some (.rt (.m xs) p)
  | some (.d x) => some (.rt (.d x) p)
  | _ => none
theorem retV_e : S.retV i ⟨r, p⟩ = retVK p r[i]? := id rfl
theorem retV_l : retVK p (some (.l xs)) = some (.rt (.l xs) p) := id rfl
theorem retV_d : retVK p (some (.d x)) = some (.rt (.d x) p) := id rfl
def frzK (i : Nat) (r : List Sl) (p : Pl) : Option Sl → Option Out
  | some (.l xs) => some (.nx ⟨r.set i (.d (.list xs)), p⟩)
  | _ => none
theorem frz_e : S.frz i ⟨r, p⟩ = frzK i r p r[i]? := id rfl
theorem frz_l : frzK i r p (some (.l xs)) = some (.nx ⟨r.set i (.d (.list xs)), p⟩) := id rfl
def sIteK (a b : SF) (r : List Sl) (k : Bool × Pl) : Option Out := if k.1 = true then a ⟨r, k.2⟩ else b ⟨r, k.2⟩
theorem sIte_e : S.ite b sa sb ⟨r, p⟩ = (b ⟨r, p⟩).bind (sIteK sa sb r) := id rfl
theorem sIte_t : sIteK sa sb r (true, q) = sa ⟨r, q⟩ := id rfl
theorem sIte_f : sIteK sa sb r (false, q) = sb ⟨r, q⟩ := id rfl
def forK (t : TF) (b : SF) (r : List Sl) (a : List D × Pl) : Option Out := S.forL t b a.1 ⟨r, a.2⟩
theorem for_e : S.for_ it t sb ⟨r, p⟩ = (it ⟨r, p⟩).bind (forK t sb r) := id rfl
theorem for_1 : forK t sb r (ds, q) = S.forL t sb ds ⟨r, q⟩ := id rfl
def fK2 (t : TF) (b : SF) (ds : List D) : Out → Option Out
  | .nx e' => S.forL t b ds e'
  | .ct e' => S.forL t b ds e'
  | .bk e' => some (.nx e')
  | .rt r p => some (.rt r p)
def fK1 (t : TF) (b : SF) (ds : List D) (p : Pl) (r : List Sl) : Option Out := (b ⟨r, p⟩).bind (fK2 t b ds)
theorem for_nil : S.forL t sb [] e = some (.nx e) := id rfl
theorem for_cons : S.forL t sb (x :: ds) ⟨r, p⟩ = (t x r).bind (fK1 t sb ds p) := id rfl
theorem fK_1 : fK1 t sb ds p r = (sb ⟨r, p⟩).bind (fK2 t sb ds) := id rfl
theorem fK_nx : fK2 t sb ds (.nx e) = S.forL t sb ds e := id rfl
theorem fK_rt : fK2 t sb ds (.rt rv q) = some (.rt rv q) := id rfl
def apK2 (i : Nat) (r : List Sl) (xs : List D) (a : RV × Pl) : Option Out := (toD a.1).bind fun x => if xs.length < sizeLine then some (.nx ⟨r.set i (.l (xs ++ [x])), a.2⟩) else none
def apK (i : Nat) (f : EF) (e : Ev) : Option Sl → Option Out
  | some (.l xs) => (f e).bind (apK2 i e.r xs)
  | _ => none
theorem append_e : S.append i f ⟨r, p⟩ = apK i f ⟨r, p⟩ r[i]? := id rfl
theorem append_1 : apK i f ⟨r, p⟩ (some (.l xs)) = (f ⟨r, p⟩).bind (apK2 i r xs) := id rfl
theorem append_d (h : xs.length < 16777216) : apK2 i r xs (.d x, q) = some (.nx ⟨r.set i (.l (xs ++ [x])), q⟩) := if_pos (by rw [sizeLine_eq]; exact h)
theorem append_l (h : xs.length < 16777216) : apK2 i r xs (.l ys, q) = some (.nx ⟨r.set i (.l (xs ++ [.list ys])), q⟩) := if_pos (by rw [sizeLine_eq]; exact h)
def exK2 (i : Nat) (r : List Sl) (xs : List D) (a : RV × Pl) : Option Out := match toD a.1 with
  | some (.list ys) => if xs.length + ys.length ≤ sizeLine then some (.nx ⟨r.set i (.l (xs ++ ys)), a.2⟩) else none
  | _ => none
def exK (i : Nat) (f : EF) (e : Ev) : Option Sl → Option Out
  | some (.l xs) => (f e).bind (exK2 i e.r xs)
  | _ => none
theorem extend_e : S.extend i f ⟨r, p⟩ = exK i f ⟨r, p⟩ r[i]? := id rfl
theorem extend_1 : exK i f ⟨r, p⟩ (some (.l xs)) = (f ⟨r, p⟩).bind (exK2 i r xs) := id rfl
theorem extend_l (h : xs.length + ys.length ≤ 16777216) : exK2 i r xs (.l ys, q) = some (.nx ⟨r.set i (.l (xs ++ ys)), q⟩) := if_pos (by rw [sizeLine_eq]; exact h)
def popK (t : TF) (i : Nat) (r : List Sl) (p : Pl) : Option Sl → Option Out
  | some (.l xs) => (xs[xs.length - 1]?).bind fun d => (t d (r.set i (.l xs.dropLast))).map fun r => .nx ⟨r, p⟩
  | _ => none
theorem pop_e : S.pop t i ⟨r, p⟩ = popK t i r p r[i]? := id rfl
theorem pop_1 : popK t i r p (some (.l (xs ++ [x]))) = (t x (r.set i (.l xs))).map fun r => .nx ⟨r, p⟩ := by
  simp [popK]
def ixK2 (i : Nat) (r : List Sl) (x : D) (b : RV × Pl) : Option Out := match r[i]?, b.1 with
  | some (.l xs), .d (.int k) => (ixN xs.length k).map fun j => .nx ⟨r.set i (.l (xs.set j x)), b.2⟩
  | _, _ => none
def ixK (i : Nat) (fj : EF) (r : List Sl) (a : RV × Pl) : Option Out := (toD a.1).bind fun x => (fj ⟨r, a.2⟩).bind (ixK2 i r x)
theorem setIx_e : S.setIx i g f ⟨r, p⟩ = (f ⟨r, p⟩).bind (ixK i g r) := id rfl
theorem setIx_d : ixK i g r (.d x, q) = (g ⟨r, q⟩).bind (ixK2 i r x) := id rfl
def spK2 (k : Nat) (r : List Sl) (x : D) (p : Pl) : Option Sl → Option Out
  | some .pool => p.bind fun xs => if k < xs.length then some (.nx ⟨r, some (xs.set k x)⟩) else none
  | _ => none
def spK (i k : Nat) (r : List Sl) (a : RV × Pl) : Option Out := (toD a.1).bind fun x => spK2 k r x a.2 r[i]?
theorem setP_e : S.setP i k f ⟨r, p⟩ = (f ⟨r, p⟩).bind (spK i k r) := by
  unfold S.setP
  refine congrArg (fun z => (f ⟨r, p⟩).bind z) (funext fun a => ?_)
  unfold spK
  refine congrArg (fun z => (toD a.1).bind z) (funext fun x => ?_)
  unfold spK2
  simp only
  cases r[i]? with
  | none => rfl
  | some s => cases s <;> cases a.2 <;> rfl
theorem setP_d : spK i k r (.d x, q) = spK2 k r x q r[i]? := id rfl
theorem setP_1 (h : k < xs.length) : spK2 k r x (some xs) (some .pool) = some (.nx ⟨r, some (xs.set k x)⟩) := if_pos h
def parK (i j : Nat) (r : List Sl) (a : List D × Pl) : Option Out := match a.1 with
  | [x, y] => some (.nx ⟨(r.set i (.d x)).set j (.d y), a.2⟩)
  | _ => none
theorem par_e {j : Nat} : S.par i j fA ⟨r, p⟩ = (fA ⟨r, p⟩).bind (parK i j r) := id rfl
theorem par_1 {j : Nat} : parK i j r ([x, y], q) = some (.nx ⟨(r.set i (.d x)).set j (.d y), q⟩) := id rfl
def stK (t : TF) (r : List Sl) (a : RV × Pl) : Option Out := (toD a.1).bind fun d => (t d r).map fun r => .nx ⟨r, a.2⟩
theorem stup_e : S.tup t f ⟨r, p⟩ = (f ⟨r, p⟩).bind (stK t r) := id rfl
theorem stup_d : stK t r (.d x, q) = (t x r).map fun r => .nx ⟨r, q⟩ := id rfl
def wK2 (c : BF) (b : SF) (n : Nat) : Out → Option Out
  | .nx e' => S.whl c b n e'
  | .ct e' => S.whl c b n e'
  | .bk e' => some (.nx e')
  | .rt r p => some (.rt r p)
def wK (c : BF) (b : SF) (n : Nat) (r : List Sl) (k : Bool × Pl) : Option Out := if k.1 = true then (b ⟨r, k.2⟩).bind (wK2 c b n) else some (.nx ⟨r, k.2⟩)
theorem whl_e {n : Nat} : S.whl b sb (n + 1) ⟨r, p⟩ = (b ⟨r, p⟩).bind (wK b sb n r) := id rfl
theorem wK_t {n : Nat} : wK b sb n r (true, q) = (sb ⟨r, q⟩).bind (wK2 b sb n) := id rfl
theorem wK_f {n : Nat} : wK b sb n r (false, q) = some (.nx ⟨r, q⟩) := id rfl
theorem wK_nx {n : Nat} : wK2 b sb n (.nx e) = S.whl b sb n e := id rfl
theorem wK_rt {n : Nat} : wK2 b sb n (.rt rv q) = some (.rt rv q) := id rfl
/-! #### defs -/
def rbK (hp : Bool) : Out → Option (RV × Pl)
  | .nx e => some (.d .none, if hp then e.p else none)
  | .rt r p => some (r, if hp then p else none)
  | _ => none
theorem runB_f {N n : Nat} (h : ds.length = n ∧ n ≤ N) : runB N false n sb ds p = (sb ⟨ds.map .d ++ List.replicate (N - n) .un, p⟩).bind (rbK false) := by
  unfold runB
  rw [if_pos (by simpa using h)]
  rfl
theorem runB_t {N n : Nat} (h : ds.length + 1 = n ∧ n ≤ N) : runB N true n sb ds p = (sb ⟨.pool :: (ds.map .d ++ List.replicate (N - n) .un), p⟩).bind (rbK true) := by
  unfold runB
  rw [if_pos (by simpa using h)]
  rfl
theorem rb_f : rbK false (.rt rv q) = some (rv, none) := id rfl
theorem rb_t : rbK true (.rt rv q) = some (rv, q) := id rfl
theorem rb_n : rbK false (.nx e) = some (.d .none, none) := id rfl
/-! #### operations -/
section
variable {i j : Int} {s z : Str}
theorem lt_i : gLt (.int i) (.int j) = some (.d (.bool (decide (i < j)))) := id rfl
theorem le_i : gLe (.int i) (.int j) = some (.d (.bool (decide (i ≤ j)))) := id rfl
theorem gt_i : gGt (.int i) (.int j) = some (.d (.bool (decide (j < i)))) := id rfl
theorem ge_i : gGe (.int i) (.int j) = some (.d (.bool (decide (j ≤ i)))) := id rfl
theorem sub_i : Dg.gSub (.int i) (.int j) = some (.d (.int (i - j))) := id rfl
theorem add_i : gAdd (.int i) (.int j) = some (.d (.int (i + j))) := id rfl
theorem add_s (h : s.length + z.length ≤ 16777216) : gAdd (.str s) (.str z) = some (.d (.str (s ++ z))) := if_pos (by rw [sizeLine_eq]; exact h)
theorem add_t (h : xs.length + ys.length ≤ 16777216) : gAdd (.tuple xs) (.tuple ys) = some (.d (.tuple (xs ++ ys))) := if_pos (by rw [sizeLine_eq]; exact h)
theorem add_l (h : xs.length + ys.length ≤ 16777216) : gAdd (.list xs) (.list ys) = some (.l (xs ++ ys)) := if_pos (by rw [sizeLine_eq]; exact h)
theorem mul_i (h : -18446744073709551616 < j ∧ j < 18446744073709551616) : gMul (.int i) (.int j) = some (.d (.int (i * j))) := if_pos (.inr h)
theorem div_i (h : 0 < j ∧ j < 1073741824) : gDiv (.int i) (.int j) = some (.d (.int (i / j))) := if_pos h
theorem mod_i (h : 0 < j) : gMod (.int i) (.int j) = some (.d (.int (i % j))) := if_pos h
theorem neg_i : gNeg (.int i) = some (.d (.int (-i))) := id rfl
theorem is_n : gIs x .none = some (.d (.bool (Dg.isNon x))) := id rfl
theorem isNot_n : gIsNot x .none = some (.d (.bool (!Dg.isNon x))) := id rfl
theorem non_n : Dg.isNon .none = true := id rfl
theorem non_i : Dg.isNon (.int i) = false := id rfl
theorem non_b {k : Bool} : Dg.isNon (.bool k) = false := id rfl
theorem non_s : Dg.isNon (.str s) = false := id rfl
theorem non_l : Dg.isNon (.list xs) = false := id rfl
theorem non_t : Dg.isNon (.tuple xs) = false := id rfl
theorem len_l : gLen (.list xs) = some (.d (.int xs.length)) := id rfl
theorem len_t : gLen (.tuple xs) = some (.d (.int xs.length)) := id rfl
theorem len_s (h : s.length ≤ 16777216) : gLen (.str s) = some (.d (.int s.length)) := if_pos (by rw [sizeLine_eq]; exact h)
theorem list_l : gList (.list xs) = some (.l xs) := id rfl
theorem list_t : gList (.tuple xs) = some (.l xs) := id rfl
theorem tuple_l : gTuple (.list xs) = some (.d (.tuple xs)) := id rfl
theorem tuple_t : gTuple (.tuple xs) = some (.d (.tuple xs)) := id rfl
theorem int_i : gInt (.int i) = some (.d (.int i)) := id rfl
theorem gsl_l : E.gSl (.list xs) l m = some (.l (cutA xs l m)) := id rfl
theorem gsl_t : E.gSl (.tuple xs) l m = some (.d (.tuple (cutA xs l m))) := id rfl
theorem gsl_s (h : s.length ≤ 16777216) : E.gSl (.str s) l m = some (.d (.str (cutS s l m))) := if_pos (by rw [sizeLine_eq]; exact h)
theorem eq_s {a b : Str} : gEq (.str a) (.str b) = some (.d (.bool (a == b))) := by simp [gEq, PyData.depth, PyData.eqv]
theorem eq_i : gEq (.int i) (.int j) = some (.d (.bool (i == j))) := by simp [gEq, PyData.depth, PyData.eqv]
theorem eq_b {a b : Bool} : gEq (.bool a) (.bool b) = some (.d (.bool (a == b))) := by simp [gEq, PyData.depth, PyData.eqv]
theorem ne_b {a b : Bool} : gNe (.bool a) (.bool b) = some (.d (.bool (!(a == b)))) := by simp [gNe, PyData.depth, PyData.eqv]
theorem ne_s {a b : Str} : gNe (.str a) (.str b) = some (.d (.bool (!(a == b)))) := by simp [gNe, PyData.depth, PyData.eqv]
theorem ne_i : gNe (.int i) (.int j) = some (.d (.bool (!(i == j)))) := by simp [gNe, PyData.depth, PyData.eqv]
theorem in_2 {a b c : Str} : gIn (.str a) (.tuple [.str b, .str c]) = some (.d (.bool (b == a || c == a))) := by
  simp [gIn, PyData.depth, PyData.depthAll, anyEq, PyData.eqv]
theorem atI_0 {α : Type} {x : α} {xs : List α} : atI (x :: xs) 0 = some x := by simp [atI, ixN]
theorem atI_1 {α : Type} {x y : α} {xs : List α} : atI (x :: y :: xs) 1 = some y := by
  have h : (1 : Int) < ((x :: y :: xs).length : Int) := by simp only [List.length_cons]; omega
  simp only [atI, ixN]
  rw [if_pos (by decide), if_pos h]
  rfl
theorem atI_2 {α : Type} {x y z : α} {xs : List α} : atI (x :: y :: z :: xs) 2 = some z := by
  have h : (2 : Int) < ((x :: y :: z :: xs).length : Int) := by simp only [List.length_cons]; omega
  simp only [atI, ixN]
  rw [if_pos (by decide), if_pos h]
  rfl
theorem ix_t : gIx (.tuple xs) (.int i) = (atI xs i).bind (fun x => some (.d x)) := by
  show (atI xs i).map _ = _
  cases atI xs i <;> rfl
theorem ix_l : gIx (.list xs) (.int i) = (atI xs i).bind (fun x => some (.d x)) := by
  show (atI xs i).map _ = _
  cases atI xs i <;> rfl
theorem cut_1 {α : Type} {x : α} {xs : List α} : cutA (x :: xs) (some 1) none = xs := by
  have h : HT.sIx (xs.length + 1) 0 (some 1) = 1 := by
    rw [show (1 : Int) = ((1 : Nat) : Int) from rfl, HT.sIx_nat]; omega
  unfold cutA
  rw [List.length_cons, h, HT.sIx_none, List.drop_succ_cons, List.drop_zero]
  exact List.take_of_length_le (by omega)
end
/-! #### kinds -/
def isI : D → Bool | .int _ => true | _ => false
def isB : D → Bool | .bool _ => true | _ => false
def isS : D → Bool | .str _ => true | _ => false
def isTu : D → Bool | .tuple _ => true | _ => false
def isLi : D → Bool | .list _ => true | _ => false
theorem kb1 : kitB "NoneType" "int" = some false ∧ kitB "bool" "int" = some true ∧ kitB "int" "int" = some true ∧ kitB "str" "int" = some false ∧ kitB "list" "int" = some false ∧ kitB "tuple" "int" = some false := by decide +kernel
theorem kb2 : kitB "NoneType" "bool" = some false ∧ kitB "bool" "bool" = some true ∧ kitB "int" "bool" = some false ∧ kitB "str" "bool" = some false ∧ kitB "list" "bool" = some false ∧ kitB "tuple" "bool" = some false := by decide +kernel
theorem kb3 : kitB "NoneType" "str" = some false ∧ kitB "bool" "str" = some false ∧ kitB "int" "str" = some false ∧ kitB "str" "str" = some true ∧ kitB "list" "str" = some false ∧ kitB "tuple" "str" = some false := by decide +kernel
theorem kb4 : kitB "NoneType" "list" = some false ∧ kitB "bool" "list" = some false ∧ kitB "int" "list" = some false ∧ kitB "str" "list" = some false ∧ kitB "list" "list" = some true ∧ kitB "tuple" "list" = some false := by decide +kernel
theorem kb5 : kitB "NoneType" "tuple" = some false ∧ kitB "bool" "tuple" = some false ∧ kitB "int" "tuple" = some false ∧ kitB "str" "tuple" = some false ∧ kitB "list" "tuple" = some false ∧ kitB "tuple" "tuple" = some true := by decide +kernel
theorem isT_int : ∀ {x : D}, x.plain = true → gIsT "int" x = some (.d (.bool (isI x || isB x)))
  | .none, _ => congrArg (Option.map _) kb1.1
  | .bool _, _ => congrArg (Option.map _) kb1.2.1
  | .int _, _ => congrArg (Option.map _) kb1.2.2.1
  | .str _, _ => congrArg (Option.map _) kb1.2.2.2.1
  | .list _, _ => congrArg (Option.map _) kb1.2.2.2.2.1
  | .tuple _, _ => congrArg (Option.map _) kb1.2.2.2.2.2
theorem isT_bool : ∀ {x : D}, x.plain = true → gIsT "bool" x = some (.d (.bool (isB x)))
  | .none, _ => congrArg (Option.map _) kb2.1
  | .bool _, _ => congrArg (Option.map _) kb2.2.1
  | .int _, _ => congrArg (Option.map _) kb2.2.2.1
  | .str _, _ => congrArg (Option.map _) kb2.2.2.2.1
  | .list _, _ => congrArg (Option.map _) kb2.2.2.2.2.1
  | .tuple _, _ => congrArg (Option.map _) kb2.2.2.2.2.2
theorem isT_str : ∀ {x : D}, x.plain = true → gIsT "str" x = some (.d (.bool (isS x)))
  | .none, _ => congrArg (Option.map _) kb3.1
  | .bool _, _ => congrArg (Option.map _) kb3.2.1
  | .int _, _ => congrArg (Option.map _) kb3.2.2.1
  | .str _, _ => congrArg (Option.map _) kb3.2.2.2.1
  | .list _, _ => congrArg (Option.map _) kb3.2.2.2.2.1
  | .tuple _, _ => congrArg (Option.map _) kb3.2.2.2.2.2
theorem isT_list : ∀ {x : D}, x.plain = true → gIsT "list" x = some (.d (.bool (isLi x)))
  | .none, _ => congrArg (Option.map _) kb4.1
  | .bool _, _ => congrArg (Option.map _) kb4.2.1
  | .int _, _ => congrArg (Option.map _) kb4.2.2.1
  | .str _, _ => congrArg (Option.map _) kb4.2.2.2.1
  | .list _, _ => congrArg (Option.map _) kb4.2.2.2.2.1
  | .tuple _, _ => congrArg (Option.map _) kb4.2.2.2.2.2
theorem isT_tuple : ∀ {x : D}, x.plain = true → gIsT "tuple" x = some (.d (.bool (isTu x)))
  | .none, _ => congrArg (Option.map _) kb5.1
  | .bool _, _ => congrArg (Option.map _) kb5.2.1
  | .int _, _ => congrArg (Option.map _) kb5.2.2.1
  | .str _, _ => congrArg (Option.map _) kb5.2.2.2.1
  | .list _, _ => congrArg (Option.map _) kb5.2.2.2.2.1
  | .tuple _, _ => congrArg (Option.map _) kb5.2.2.2.2.2
end Ru
end Dg

set_option pp.maxSteps 60
/-! deedsagain k01: the walk (printed by gen.py). -/
namespace K1
open PySem PySem.Spec L2 Dg
def topS (i : Nat) : Stmt := PySem.Challenge.pw_deedsagain_k01_worlds_and_conditions.main.body.getD i (.Pass ⟨0, 0, 0, 0⟩)
/-- a def stands where the text says -/
def DefAt (K : PySem.W.Frag) (mg : Str → Option Value) (x : Str) (st : Stmt) (ps : List Str) : Prop := ∃ f fd, Fun K x x st f fd ∧ mg x = some (.ref f) ∧ Binds K fd ps []
/-- no name of these is the module's own -/
structure Bi (mg : Str → Option Value) : Prop where
  m_list : mg "list" = none
  m_range : mg "range" = none
  m_sorted : mg "sorted" = none
  m_isinstance : mg "isinstance" = none
  m_int : mg "int" = none
  m_str : mg "str" = none
  m_tuple : mg "tuple" = none
  m_all : mg "all" = none
  m_len : mg "len" = none
  m_set : mg "set" = none
  m_bool : mg "bool" = none
  m_repr : mg "repr" = none
structure Cs (mg : Str → Option Value) : Prop where
  k_MOST_DEPTH : ∃ t, mg "MOST_DEPTH" = some (.int 40 t)
theorem bt_list : bootBuiltins "list" = some (.type "list") := by decide +kernel
theorem bt_sorted : bootBuiltins "sorted" = some (.builtin "sorted") := by decide +kernel
theorem bt_isinstance : bootBuiltins "isinstance" = some (.builtin "isinstance") := by decide +kernel
theorem bt_int : bootBuiltins "int" = some (.type "int") := by decide +kernel
theorem bt_str : bootBuiltins "str" = some (.type "str") := by decide +kernel
theorem bt_tuple : bootBuiltins "tuple" = some (.type "tuple") := by decide +kernel
theorem bt_all : bootBuiltins "all" = some (.builtin "all") := by decide +kernel
theorem bt_len : bootBuiltins "len" = some (.builtin "len") := by decide +kernel
theorem bt_set : bootBuiltins "set" = some (.type "set") := by decide +kernel
theorem bt_bool : bootBuiltins "bool" = some (.type "bool") := by decide +kernel
theorem bt_repr : bootBuiltins "repr" = some (.builtin "repr") := by decide +kernel
section
variable {P : Program} {w : World} {K : PySem.W.Frag} {mg : Str → Option Value} {base : Heap}
theorem cg_MOST_DEPTH {X : Cx} {pos : Pos} (cs : Cs X.mg) (hg : Gl X "MOST_DEPTH" := by rfl) : DE X (.Name "MOST_DEPTH" pos) (E.c (.int 40)) := by
  obtain ⟨t, h⟩ := cs.k_MOST_DEPTH
  exact de_c (v := .int 40) (pe_glob hg h ⟨t, rfl⟩) fun _ _ _ => .int _
/-! ### is_whole -/
theorem sc_is_whole : FnScope ["value"] ["value"] (defScope (topS 2)) := ⟨rfl, rfl, rfl, by decide +kernel, rfl, by decide +kernel, by decide +kernel⟩
def b_is_whole : SF :=
  (S.ret (E.ofB (E.and (E.toB (E.isi "int" (E.rv 0))) (E.not (E.toB (E.isi "bool" (E.rv 0)))))))
theorem c_is_whole {k : Nat} (bi : Bi mg) (cs : Cs mg) (D : DefAt K mg "is_whole" (topS 2) ["value"]) : Cal P w K mg base (k + 1) "is_whole" false 1 (runB 1 false 1 b_is_whole) := by
  obtain ⟨f, fd, F, hm, hb⟩ := D
  refine fn_ok F sc_is_whole rfl hm hb fun cdv A outer s H E hr => ?_
  have nd := sc_is_whole.nd
  have hu := hr.units
  exact (dss_one (ds_ret (de_and (de_b (de_isi (x := "x") (by rfl) bi.m_isinstance (pe_bltn (by rfl) bi.m_int bt_int rfl) (dr_v (pv 0)))) (de_and1 (de_not (de_b (de_isi (x := "x") (by rfl) bi.m_isinstance (pe_bltn (by rfl) bi.m_bool bt_bool rfl) (dr_v (pv 0)))))))))

/-! ### name_of -/
theorem sc_name_of : FnScope ["value"] ["value"] (defScope (topS 3)) := ⟨rfl, rfl, rfl, by decide +kernel, rfl, by decide +kernel, by decide +kernel⟩
def b_name_of : SF :=
  (S.seq (S.ite (E.and (E.toB (E.isi "tuple" (E.rv 0))) (E.and (E.toB (E.op gGt (E.rd (E.un gLen (E.rv 0))) (E.rd (E.c (.int 0))))) (E.toB (E.isi "str" (E.rd (E.op gIx (E.rv 0) (E.rd (E.c (.int 0))))))))) (S.ret (E.op gIx (E.rv 0) (E.rd (E.c (.int 0))))) S.nop) (S.ret (E.c (.str ""))))
theorem c_name_of {k : Nat} (bi : Bi mg) (cs : Cs mg) (D : DefAt K mg "name_of" (topS 3) ["value"]) : Cal P w K mg base (k + 1) "name_of" false 1 (runB 1 false 1 b_name_of) := by
  obtain ⟨f, fd, F, hm, hb⟩ := D
  refine fn_ok F sc_name_of rfl hm hb fun cdv A outer s H E hr => ?_
  have nd := sc_name_of.nd
  have hu := hr.units
  exact (dss_cons (ds_ite (PW.pt (dw_and (db_of (de_isi (x := "x") (by rfl) bi.m_isinstance (pe_bltn (by rfl) bi.m_tuple bt_tuple rfl) (dr_v (pv 0)))) (dw_and (db_cmp op_gt_d (dr_of (de_b1 cl_len (by rfl) bi.m_len bt_len (dr_v (pv 0)))) (dr_of de_int) (nomark _)) (dw_and1 (db_of (de_isi (x := "x") (by rfl) bi.m_isinstance (pe_bltn (by rfl) bi.m_str bt_str rfl) (dr_of (de_ix (dr_v (pv 0)) (dr_of de_int))))))))) (dss_one (ds_ret (de_ix (dr_v (pv 0)) (dr_of de_int)))) dss_nil) (dss_one (ds_ret de_str)))

/-! ### is_world -/
theorem sc_is_world : FnScope ["value", "item"] ["value"] (defScope (topS 4)) := ⟨rfl, rfl, rfl, by decide +kernel, rfl, by decide +kernel, by decide +kernel⟩
def b_is_world (m_is_whole : MF) : SF :=
  (S.ret (E.ofB (E.and (E.toB (E.isi "tuple" (E.rv 0))) (E.and (E.toB (E.op gEq (E.rd (E.un gLen (E.rv 0))) (E.rd (E.c (.int 2))))) (E.toB (E.un gAll (E.rd (E.lc [1] (E.iT (E.v 0)) (E.tN 1) E.yes (E.ofB (E.and (E.toB (E.call m_is_whole (E.cons (E.v 1) E.nil))) (E.toB (E.chain gLe gLe (E.rd (E.c (.int 1))) (E.rv 1) (E.rd (E.c (.int 3)))))))))))))))
theorem c_is_world {m_is_whole : MF} {k : Nat} (bi : Bi mg) (cs : Cs mg) (D : DefAt K mg "is_world" (topS 4) ["value"]) (C_is_whole : Cal P w K mg base k "is_whole" false 1 m_is_whole) : Cal P w K mg base (k + 1) "is_world" false 1 (runB 2 false 1 (b_is_world m_is_whole)) := by
  obtain ⟨f, fd, F, hm, hb⟩ := D
  refine fn_ok F sc_is_world rfl hm hb fun cdv A outer s H E hr => ?_
  have nd := sc_is_world.nd
  have hu := hr.units
  exact (dss_one (ds_ret (de_and (de_b (de_isi (x := "x") (by rfl) bi.m_isinstance (pe_bltn (by rfl) bi.m_tuple bt_tuple rfl) (dr_v (pv 0)))) (de_and (de_b (de_cmp (op_eq_d hu) (dr_of (de_b1 cl_len (by rfl) bi.m_len bt_len (dr_v (pv 0)))) (dr_of de_int) (nomark _))) (de_and1 (de_b (de_b1 (cl_all rfl) (by rfl) bi.m_all bt_all (dr_of (de_lc (own := [("item", 1)]) rfl nd (di_t (de_v (pv 0))) (blkOk_by (N := ["value", "item"]) (sc := defScope (topS 4)) (own := [("item", 1)]) (by decide +kernel)) (fun _ _ _ _ _ => (dg_n (pg_name (i := 1) nd rfl (by first | exact .inl rfl | exact .inr rfl)))) (fun _ _ _ _ _ => dts_yes) (fun _ _ _ _ _ => (de_and (de_b (de_call C_is_whole hr (by rfl) (da_cons (de_v (pv 1)) da_nil) (len_cons len_nil))) (de_and1 (de_b (de_chain op_le_d op_le_d (dr_of de_int) (dr_v (pv 1)) (dr_of de_int)))))))))))))))

/-! ### inner_conditions -/
theorem sc_inner_conditions : FnScope ["world", "part", "name"] ["world", "part"] (defScope (topS 5)) := ⟨rfl, rfl, rfl, by decide +kernel, rfl, by decide +kernel, by decide +kernel⟩
def b_inner_conditions (m_name_of : MF) (m_is_whole : MF) : SF :=
  (S.seq (S.set 2 (E.call m_name_of (E.cons (E.v 1) E.nil))) (S.seq (S.ite (E.and (E.toB (E.op gIn (E.rv 2) (E.rd (E.tup (E.cons (E.c (.str "no")) (E.cons (E.c (.str "yes")) E.nil)))))) (E.toB (E.op gEq (E.rd (E.un gLen (E.rv 1))) (E.rd (E.c (.int 1)))))) (S.ret (E.lst E.nil)) S.nop) (S.seq (S.ite (E.and (E.toB (E.op gEq (E.rv 2) (E.rd (E.c (.str "test"))))) (E.toB (E.op gEq (E.rd (E.un gLen (E.rv 1))) (E.rd (E.c (.int 2)))))) (S.ret (E.ite (E.and (E.toB (E.call m_is_whole (E.cons (E.op gIx (E.rv 1) (E.rd (E.c (.int 1)))) E.nil))) (E.toB (E.chain gLe gLt (E.rd (E.c (.int 0))) (E.rd (E.op gIx (E.rv 1) (E.rd (E.c (.int 1))))) (E.rd (E.op gIx (E.rv 0) (E.rd (E.c (.int 0)))))))) (E.lst E.nil) (E.c .none))) S.nop) (S.seq (S.ite (E.or (E.and (E.toB (E.op gEq (E.rv 2) (E.rd (E.c (.str "not"))))) (E.toB (E.op gEq (E.rd (E.un gLen (E.rv 1))) (E.rd (E.c (.int 2)))))) (E.and (E.toB (E.op gIn (E.rv 2) (E.rd (E.tup (E.cons (E.c (.str "and")) (E.cons (E.c (.str "or")) E.nil)))))) (E.toB (E.op gEq (E.rd (E.un gLen (E.rv 1))) (E.rd (E.c (.int 3))))))) (S.ret (E.un gList (E.rd (E.sl (E.rv 1) (E.oS (E.c (.int 1))) E.oN)))) S.nop) (S.ret (E.c .none))))))
theorem c_inner_conditions {m_name_of : MF} {m_is_whole : MF} {k : Nat} (bi : Bi mg) (cs : Cs mg) (D : DefAt K mg "inner_conditions" (topS 5) ["world", "part"]) (C_name_of : Cal P w K mg base k "name_of" false 1 m_name_of) (C_is_whole : Cal P w K mg base k "is_whole" false 1 m_is_whole) : Cal P w K mg base (k + 1) "inner_conditions" false 2 (runB 3 false 2 (b_inner_conditions m_name_of m_is_whole)) := by
  obtain ⟨f, fd, F, hm, hb⟩ := D
  refine fn_ok F sc_inner_conditions rfl hm hb fun cdv A outer s H E hr => ?_
  have nd := sc_inner_conditions.nd
  have hu := hr.units
  exact (dss_cons (ds_set (i := 2) nd (de_call C_name_of hr (by rfl) (da_cons (de_v (pv 1)) da_nil) (len_cons len_nil))) (dss_cons (ds_ite (PW.pt (dw_and (db_cmp (op_in_d hu) (dr_v (pv 2)) (dr_of (de_tup (da_cons de_str (da_cons de_str da_nil)))) rfl) (dw_and1 (db_cmp (op_eq_d hu) (dr_of (de_b1 cl_len (by rfl) bi.m_len bt_len (dr_v (pv 1)))) (dr_of de_int) (nomark _))))) (dss_one (ds_ret (de_lst da_nil))) dss_nil) (dss_cons (ds_ite (PW.pt (dw_and (db_cmp (op_eq_d hu) (dr_v (pv 2)) (dr_of de_str) (nomark _)) (dw_and1 (db_cmp (op_eq_d hu) (dr_of (de_b1 cl_len (by rfl) bi.m_len bt_len (dr_v (pv 1)))) (dr_of de_int) (nomark _))))) (dss_one (ds_ret (de_ite (PW.pt (dw_and (db_of (de_call C_is_whole hr (by rfl) (da_cons (de_ix (dr_v (pv 1)) (dr_of de_int)) da_nil) (len_cons len_nil))) (dw_and1 (db_chain op_le_d op_lt_d (dr_of de_int) (dr_of (de_ix (dr_v (pv 1)) (dr_of de_int))) (dr_of (de_ix (dr_v (pv 0)) (dr_of de_int))))))) (de_lst da_nil) de_non))) dss_nil) (dss_cons (ds_ite (PW.pt (dw_or (PW.pt (dw_and (db_cmp (op_eq_d hu) (dr_v (pv 2)) (dr_of de_str) (nomark _)) (dw_and1 (db_cmp (op_eq_d hu) (dr_of (de_b1 cl_len (by rfl) bi.m_len bt_len (dr_v (pv 1)))) (dr_of de_int) (nomark _))))) (dw_or1 (PW.pt (dw_and (db_cmp (op_in_d hu) (dr_v (pv 2)) (dr_of (de_tup (da_cons de_str (da_cons de_str da_nil)))) rfl) (dw_and1 (db_cmp (op_eq_d hu) (dr_of (de_b1 cl_len (by rfl) bi.m_len bt_len (dr_v (pv 1)))) (dr_of de_int) (nomark _)))))))) (dss_one (ds_ret (de_t1 cl_list (by rfl) bi.m_list bt_list (dr_of (de_sl (dr_v (pv 1)) (do_s de_int) do_n))))) dss_nil) (dss_one (ds_ret de_non))))))

/-! ### is_condition -/
theorem sc_is_condition : FnScope ["world", "value", "waiting", "part", "depth", "inner", "item"] ["world", "value"] (defScope (topS 6)) := ⟨rfl, rfl, rfl, by decide +kernel, rfl, by decide +kernel, by decide +kernel⟩
def c1_is_condition (m_inner_conditions : MF) : BF :=
  (E.toB (E.op gGt (E.rd (E.un gLen (E.rv 2))) (E.rd (E.c (.int 0)))))
def w2_is_condition (m_inner_conditions : MF) : SF :=
  (S.seq (S.pop (E.tT [3, 4]) 2) (S.seq (S.set 5 (E.ite (E.toB (E.op gLe (E.rv 4) (E.rd (E.c (.int 40))))) (E.call m_inner_conditions (E.cons (E.v 0) (E.cons (E.v 3) E.nil))) (E.c .none))) (S.seq (S.ite (E.toB (E.op gIs (E.rv 5) (E.rd (E.c .none)))) (S.ret (E.c (.bool false))) S.nop) (S.extend 2 (E.lc [6] (E.iL (E.v 5)) (E.tN 6) E.yes (E.tup (E.cons (E.v 6) (E.cons (E.op gAdd (E.rv 4) (E.rd (E.c (.int 1)))) E.nil))))))))
def b_is_condition (m_inner_conditions : MF) : SF :=
  (S.seq (S.setL 2 (E.lst (E.cons (E.tup (E.cons (E.v 1) (E.cons (E.c (.int 1)) E.nil))) E.nil))) (S.seq (S.whl (c1_is_condition m_inner_conditions) (w2_is_condition m_inner_conditions) 4000) (S.ret (E.c (.bool true)))))
theorem c_is_condition {m_inner_conditions : MF} {k : Nat} (bi : Bi mg) (cs : Cs mg) (D : DefAt K mg "is_condition" (topS 6) ["world", "value"]) (C_inner_conditions : Cal P w K mg base k "inner_conditions" false 2 m_inner_conditions) : Cal P w K mg base (k + 1) "is_condition" false 2 (runB 7 false 2 (b_is_condition m_inner_conditions)) := by
  obtain ⟨f, fd, F, hm, hb⟩ := D
  refine fn_ok F sc_is_condition rfl hm hb fun cdv A outer s H E hr => ?_
  have nd := sc_is_condition.nd
  have hu := hr.units
  exact (dss_cons (ds_setL (i := 2) nd (de_lst (da_cons (de_tup (da_cons (de_v (pv 1)) (da_cons de_int da_nil))) da_nil))) (dss_cons (ds_whl 4000 PassesOwn.never (db_cmp op_gt_d (dr_of (de_b1 cl_len (by rfl) bi.m_len bt_len (dr_v (pv 2)))) (dr_of de_int) (nomark _)) (dss_cons (ds_popT (is := [3, 4]) (pv 2) (pg_tup rfl (pgs_cons (pg_name (i := 3) nd rfl (by first | exact .inl rfl | exact .inr rfl)) (pgs_cons (pg_name (i := 4) nd rfl (by first | exact .inl rfl | exact .inr rfl)) pgs_nil)))) (dss_cons (ds_set (i := 5) nd (de_ite (db_cmp op_le_d (dr_v (pv 4)) (dr_of (cg_MOST_DEPTH cs)) (nomark _)) (de_call C_inner_conditions hr (by rfl) (da_cons (de_v (pv 0)) (da_cons (de_v (pv 3)) da_nil)) (len_cons (len_cons len_nil))) de_non)) (dss_cons (ds_ite (db_cmp op_is_d (dr_v (pv 5)) (dr_of de_non) (nomark _)) (dss_one (ds_ret de_bl)) dss_nil) (dss_one (ds_extend (pv 2) (de_lc (own := [("item", 6)]) rfl nd (di_l (de_v (pv 5))) (blkOk_by (N := ["world", "value", "waiting", "part", "depth", "inner", "item"]) (sc := defScope (topS 6)) (own := [("item", 6)]) (by decide +kernel)) (fun _ _ _ _ _ => (dg_n (pg_name (i := 6) nd rfl (by first | exact .inl rfl | exact .inr rfl)))) (fun _ _ _ _ _ => dts_yes) (fun _ _ _ _ _ => (de_tup (da_cons (de_v (pv 6)) (da_cons (de_op op_add_d (dr_v (pv 4)) (dr_of de_int)) da_nil))))))))))) (dss_one (ds_ret de_bl))))

/-! ### atoms_of -/
theorem sc_atoms_of : FnScope ["world"] ["world"] (defScope (topS 7)) := ⟨rfl, rfl, rfl, by decide +kernel, rfl, by decide +kernel, by decide +kernel⟩
def b_atoms_of : SF :=
  (S.ret (E.lR (E.op gIx (E.rd (E.tup (E.cons (E.c (.int 2)) (E.cons (E.c (.int 4)) (E.cons (E.c (.int 8)) E.nil))))) (E.rd (E.op gSub (E.rd (E.op gIx (E.rv 0) (E.rd (E.c (.int 0))))) (E.rd (E.c (.int 1))))))))
theorem c_atoms_of {k : Nat} (bi : Bi mg) (cs : Cs mg) (D : DefAt K mg "atoms_of" (topS 7) ["world"]) : Cal P w K mg base (k + 1) "atoms_of" false 1 (runB 1 false 1 b_atoms_of) := by
  obtain ⟨f, fd, F, hm, hb⟩ := D
  refine fn_ok F sc_atoms_of rfl hm hb fun cdv A outer s H E hr => ?_
  have nd := sc_atoms_of.nd
  have hu := hr.units
  exact (dss_one (ds_ret (de_lR rfl (by rfl) bi.m_list (by rfl) bi.m_range (de_ix (dr_of (de_tup (da_cons de_int (da_cons de_int (da_cons de_int da_nil))))) (dr_of (de_op op_sub_d (dr_of (de_ix (dr_v (pv 0)) (dr_of de_int))) (dr_of de_int)))))))

/-! ### holds -/
theorem sc_holds : FnScope ["condition", "atom", "name"] ["condition", "atom"] (defScope (topS 8)) := ⟨rfl, rfl, rfl, by decide +kernel, rfl, by decide +kernel, by decide +kernel⟩
def b_holds (m_holds : MF) : SF :=
  (S.seq (S.set 2 (E.op gIx (E.rv 0) (E.rd (E.c (.int 0))))) (S.seq (S.ite (E.toB (E.op gIn (E.rv 2) (E.rd (E.tup (E.cons (E.c (.str "no")) (E.cons (E.c (.str "yes")) E.nil)))))) (S.ret (E.op gEq (E.rv 2) (E.rd (E.c (.str "yes"))))) S.nop) (S.seq (S.ite (E.toB (E.op gEq (E.rv 2) (E.rd (E.c (.str "test"))))) (S.ret (E.op gEq (E.rd (E.op gMod (E.rd (E.op gDiv (E.rv 1) (E.rd (E.op gIx (E.rd (E.tup (E.cons (E.c (.int 1)) (E.cons (E.c (.int 2)) (E.cons (E.c (.int 4)) E.nil))))) (E.rd (E.op gIx (E.rv 0) (E.rd (E.c (.int 1))))))))) (E.rd (E.c (.int 2))))) (E.rd (E.c (.int 1))))) S.nop) (S.seq (S.ite (E.toB (E.op gEq (E.rv 2) (E.rd (E.c (.str "not"))))) (S.ret (E.ofB (E.not (E.toB (E.call m_holds (E.cons (E.op gIx (E.rv 0) (E.rd (E.c (.int 1)))) (E.cons (E.v 1) E.nil))))))) S.nop) (S.seq (S.ite (E.toB (E.op gEq (E.rv 2) (E.rd (E.c (.str "and"))))) (S.ret (E.ofB (E.and (E.toB (E.call m_holds (E.cons (E.op gIx (E.rv 0) (E.rd (E.c (.int 1)))) (E.cons (E.v 1) E.nil)))) (E.toB (E.call m_holds (E.cons (E.op gIx (E.rv 0) (E.rd (E.c (.int 2)))) (E.cons (E.v 1) E.nil))))))) S.nop) (S.ret (E.ofB (E.or (E.toB (E.call m_holds (E.cons (E.op gIx (E.rv 0) (E.rd (E.c (.int 1)))) (E.cons (E.v 1) E.nil)))) (E.toB (E.call m_holds (E.cons (E.op gIx (E.rv 0) (E.rd (E.c (.int 2)))) (E.cons (E.v 1) E.nil))))))))))))
theorem c_holds {m_holds : MF} {k : Nat} (bi : Bi mg) (cs : Cs mg) (D : DefAt K mg "holds" (topS 8) ["condition", "atom"]) (C_holds : Cal P w K mg base k "holds" false 2 m_holds) : Cal P w K mg base (k + 1) "holds" false 2 (runB 3 false 2 (b_holds m_holds)) := by
  obtain ⟨f, fd, F, hm, hb⟩ := D
  refine fn_ok F sc_holds rfl hm hb fun cdv A outer s H E hr => ?_
  have nd := sc_holds.nd
  have hu := hr.units
  exact (dss_cons (ds_set (i := 2) nd (de_ix (dr_v (pv 0)) (dr_of de_int))) (dss_cons (ds_ite (db_cmp (op_in_d hu) (dr_v (pv 2)) (dr_of (de_tup (da_cons de_str (da_cons de_str da_nil)))) rfl) (dss_one (ds_ret (de_cmp (op_eq_d hu) (dr_v (pv 2)) (dr_of de_str) (nomark _)))) dss_nil) (dss_cons (ds_ite (db_cmp (op_eq_d hu) (dr_v (pv 2)) (dr_of de_str) (nomark _)) (dss_one (ds_ret (de_cmp (op_eq_d hu) (dr_of (de_op op_mod_d (dr_of (de_op op_div_d (dr_v (pv 1)) (dr_of (de_ix (dr_of (de_tup (da_cons de_int (da_cons de_int (da_cons de_int da_nil))))) (dr_of (de_ix (dr_v (pv 0)) (dr_of de_int))))))) (dr_of de_int))) (dr_of de_int) (nomark _)))) dss_nil) (dss_cons (ds_ite (db_cmp (op_eq_d hu) (dr_v (pv 2)) (dr_of de_str) (nomark _)) (dss_one (ds_ret (de_not (de_b (de_call C_holds hr (by rfl) (da_cons (de_ix (dr_v (pv 0)) (dr_of de_int)) (da_cons (de_v (pv 1)) da_nil)) (len_cons (len_cons len_nil))))))) dss_nil) (dss_cons (ds_ite (db_cmp (op_eq_d hu) (dr_v (pv 2)) (dr_of de_str) (nomark _)) (dss_one (ds_ret (de_and (de_b (de_call C_holds hr (by rfl) (da_cons (de_ix (dr_v (pv 0)) (dr_of de_int)) (da_cons (de_v (pv 1)) da_nil)) (len_cons (len_cons len_nil)))) (de_and1 (de_b (de_call C_holds hr (by rfl) (da_cons (de_ix (dr_v (pv 0)) (dr_of de_int)) (da_cons (de_v (pv 1)) da_nil)) (len_cons (len_cons len_nil)))))))) dss_nil) (dss_one (ds_ret (de_or (de_b (de_call C_holds hr (by rfl) (da_cons (de_ix (dr_v (pv 0)) (dr_of de_int)) (da_cons (de_v (pv 1)) da_nil)) (len_cons (len_cons len_nil)))) (de_or1 (de_b (de_call C_holds hr (by rfl) (da_cons (de_ix (dr_v (pv 0)) (dr_of de_int)) (da_cons (de_v (pv 1)) da_nil)) (len_cons (len_cons len_nil)))))))))))))

/-! ### atoms_where -/
theorem sc_atoms_where : FnScope ["world", "condition", "atom"] ["world", "condition"] (defScope (topS 9)) := ⟨rfl, rfl, rfl, by decide +kernel, rfl, by decide +kernel, by decide +kernel⟩
def b_atoms_where (m_atoms_of : MF) (m_holds : MF) : SF :=
  (S.ret (E.lc [2] (E.iL (E.call m_atoms_of (E.cons (E.v 0) E.nil))) (E.tN 2) (E.toB (E.call m_holds (E.cons (E.v 1) (E.cons (E.v 2) E.nil)))) (E.v 2)))
theorem c_atoms_where {m_atoms_of : MF} {m_holds : MF} {k : Nat} (bi : Bi mg) (cs : Cs mg) (D : DefAt K mg "atoms_where" (topS 9) ["world", "condition"]) (C_atoms_of : Cal P w K mg base k "atoms_of" false 1 m_atoms_of) (C_holds : Cal P w K mg base k "holds" false 2 m_holds) : Cal P w K mg base (k + 1) "atoms_where" false 2 (runB 3 false 2 (b_atoms_where m_atoms_of m_holds)) := by
  obtain ⟨f, fd, F, hm, hb⟩ := D
  refine fn_ok F sc_atoms_where rfl hm hb fun cdv A outer s H E hr => ?_
  have nd := sc_atoms_where.nd
  have hu := hr.units
  exact (dss_one (ds_ret (de_lc (own := [("atom", 2)]) rfl nd (di_l (de_call C_atoms_of hr (by rfl) (da_cons (de_v (pv 0)) da_nil) (len_cons len_nil))) (blkOk_by (N := ["world", "condition", "atom"]) (sc := defScope (topS 9)) (own := [("atom", 2)]) (by decide +kernel)) (fun _ _ _ _ _ => (dg_n (pg_name (i := 2) nd rfl (by first | exact .inl rfl | exact .inr rfl)))) (fun _ _ _ _ _ => (dts_one (db_of (de_call C_holds hr (by rfl) (da_cons (de_v (pv 1)) (da_cons (de_v (pv 2)) da_nil)) (len_cons (len_cons len_nil)))))) (fun _ _ _ _ _ => (de_v (pv 2))))))

/-! ### joined -/
theorem sc_joined : FnScope ["name", "items", "found", "item"] ["name", "items"] (defScope (topS 10)) := ⟨rfl, rfl, rfl, by decide +kernel, rfl, by decide +kernel, by decide +kernel⟩
def f1_joined : SF :=
  (S.set 2 (E.tup (E.cons (E.v 0) (E.cons (E.v 3) (E.cons (E.v 2) E.nil)))))
def b_joined : SF :=
  (S.seq (S.set 2 (E.op gIx (E.rv 1) (E.rd (E.un gNeg (E.rd (E.c (.int 1))))))) (S.seq (S.for_ (E.iL (E.sl3 (E.rv 1) (E.oS (E.un gNeg (E.rd (E.c (.int 2))))) E.oN (E.oS (E.un gNeg (E.rd (E.c (.int 1))))))) (E.tN 3) f1_joined) (S.ret (E.v 2))))
theorem c_joined {k : Nat} (bi : Bi mg) (cs : Cs mg) (D : DefAt K mg "joined" (topS 10) ["name", "items"]) : Cal P w K mg base (k + 1) "joined" false 2 (runB 4 false 2 b_joined) := by
  obtain ⟨f, fd, F, hm, hb⟩ := D
  refine fn_ok F sc_joined rfl hm hb fun cdv A outer s H E hr => ?_
  have nd := sc_joined.nd
  have hu := hr.units
  exact (dss_cons (ds_set (i := 2) nd (de_ix (dr_v (pv 1)) (dr_of (de_neg (dr_of de_int))))) (dss_cons (ds_for (ts := []) PassesOwn.never rfl (di_l (de_sl3 (dr_v (pv 1)) (do_s (de_neg (dr_of de_int))) do_n (do_s (de_neg (dr_of de_int))))) (fg_n (pg_name (i := 3) nd rfl (by first | exact .inl rfl | exact .inr rfl))) (dss_one (ds_set (i := 2) nd (de_tup (da_cons (de_v (pv 0)) (da_cons (de_v (pv 3)) (da_cons (de_v (pv 2)) da_nil))))))) (dss_one (ds_ret (de_v (pv 2))))))

/-! ### atom_condition -/
theorem sc_atom_condition : FnScope ["world", "atom", "found", "i"] ["world", "atom"] (defScope (topS 11)) := ⟨rfl, rfl, rfl, by decide +kernel, rfl, by decide +kernel, by decide +kernel⟩
def f1_atom_condition (m_joined : MF) (m_holds : MF) : SF :=
  (S.append 2 (E.ite (E.toB (E.call m_holds (E.cons (E.tup (E.cons (E.c (.str "test")) (E.cons (E.v 3) E.nil))) (E.cons (E.v 1) E.nil)))) (E.tup (E.cons (E.c (.str "test")) (E.cons (E.v 3) E.nil))) (E.tup (E.cons (E.c (.str "not")) (E.cons (E.tup (E.cons (E.c (.str "test")) (E.cons (E.v 3) E.nil))) E.nil)))))
def b_atom_condition (m_joined : MF) (m_holds : MF) : SF :=
  (S.seq (S.setL 2 (E.lst E.nil)) (S.seq (S.for_ (E.iR1 (E.cons (E.op gIx (E.rv 0) (E.rd (E.c (.int 0)))) E.nil)) (E.tN 3) (f1_atom_condition m_joined m_holds)) (S.seq (S.frz 2) (S.ret (E.call m_joined (E.cons (E.c (.str "and")) (E.cons (E.v 2) E.nil)))))))
theorem c_atom_condition {m_joined : MF} {m_holds : MF} {k : Nat} (bi : Bi mg) (cs : Cs mg) (D : DefAt K mg "atom_condition" (topS 11) ["world", "atom"]) (C_joined : Cal P w K mg base k "joined" false 2 m_joined) (C_holds : Cal P w K mg base k "holds" false 2 m_holds) : Cal P w K mg base (k + 1) "atom_condition" false 2 (runB 4 false 2 (b_atom_condition m_joined m_holds)) := by
  obtain ⟨f, fd, F, hm, hb⟩ := D
  refine fn_ok F sc_atom_condition rfl hm hb fun cdv A outer s H E hr => ?_
  have nd := sc_atom_condition.nd
  have hu := hr.units
  exact (dss_cons (ds_setL (i := 2) nd (de_lst da_nil)) (dss_cons (ds_for (ts := []) PassesOwn.never rfl (di_r1 (by rfl) bi.m_range (da_cons (de_ix (dr_v (pv 0)) (dr_of de_int)) da_nil)) (fg_n (pg_name (i := 3) nd rfl (by first | exact .inl rfl | exact .inr rfl))) (dss_one (ds_append (pv 2) (de_ite (db_of (de_call C_holds hr (by rfl) (da_cons (de_tup (da_cons de_str (da_cons (de_v (pv 3)) da_nil))) (da_cons (de_v (pv 1)) da_nil)) (len_cons (len_cons len_nil)))) (de_tup (da_cons de_str (da_cons (de_v (pv 3)) da_nil))) (de_tup (da_cons de_str (da_cons (de_tup (da_cons de_str (da_cons (de_v (pv 3)) da_nil))) da_nil))))))) (dss_frz (dss_one (ds_ret (de_call C_joined hr (by rfl) (da_cons de_str (da_cons (de_v (pv 2)) da_nil)) (len_cons (len_cons len_nil))))))))

/-! ### condition_of -/
theorem sc_condition_of : FnScope ["world", "atoms", "rows", "atom"] ["world", "atoms"] (defScope (topS 12)) := ⟨rfl, rfl, rfl, by decide +kernel, rfl, by decide +kernel, by decide +kernel⟩
def b_condition_of (m_joined : MF) (m_atoms_of : MF) (m_atom_condition : MF) : SF :=
  (S.seq (S.set 2 (E.un E.gSset (E.rv 1))) (S.seq (S.ite (E.toB (E.op gEq (E.rd (E.un gLen (E.rv 2))) (E.rd (E.c (.int 0))))) (S.ret (E.tup (E.cons (E.c (.str "no")) E.nil))) S.nop) (S.seq (S.ite (E.toB (E.op gEq (E.rd (E.un gLen (E.rv 2))) (E.rd (E.un gLen (E.rd (E.call m_atoms_of (E.cons (E.v 0) E.nil))))))) (S.ret (E.tup (E.cons (E.c (.str "yes")) E.nil))) S.nop) (S.ret (E.call m_joined (E.cons (E.c (.str "or")) (E.cons (E.lc [3] (E.iL (E.v 2)) (E.tN 3) E.yes (E.call m_atom_condition (E.cons (E.v 0) (E.cons (E.v 3) E.nil)))) E.nil)))))))
theorem c_condition_of {m_joined : MF} {m_atoms_of : MF} {m_atom_condition : MF} {k : Nat} (bi : Bi mg) (cs : Cs mg) (D : DefAt K mg "condition_of" (topS 12) ["world", "atoms"]) (C_joined : Cal P w K mg base k "joined" false 2 m_joined) (C_atoms_of : Cal P w K mg base k "atoms_of" false 1 m_atoms_of) (C_atom_condition : Cal P w K mg base k "atom_condition" false 2 m_atom_condition) : Cal P w K mg base (k + 1) "condition_of" false 2 (runB 4 false 2 (b_condition_of m_joined m_atoms_of m_atom_condition)) := by
  obtain ⟨f, fd, F, hm, hb⟩ := D
  refine fn_ok F sc_condition_of rfl hm hb fun cdv A outer s H E hr => ?_
  have nd := sc_condition_of.nd
  have hu := hr.units
  exact (dss_cons (ds_set (i := 2) nd (de_sset rfl (by rfl) bi.m_sorted (by rfl) bi.m_set (dr_v (pv 1)))) (dss_cons (ds_ite (db_cmp (op_eq_d hu) (dr_of (de_b1 cl_len (by rfl) bi.m_len bt_len (dr_v (pv 2)))) (dr_of de_int) (nomark _)) (dss_one (ds_ret (de_tup (da_cons de_str da_nil)))) dss_nil) (dss_cons (ds_ite (db_cmp (op_eq_d hu) (dr_of (de_b1 cl_len (by rfl) bi.m_len bt_len (dr_v (pv 2)))) (dr_of (de_b1 cl_len (by rfl) bi.m_len bt_len (dr_of (de_call C_atoms_of hr (by rfl) (da_cons (de_v (pv 0)) da_nil) (len_cons len_nil))))) (nomark _)) (dss_one (ds_ret (de_tup (da_cons de_str da_nil)))) dss_nil) (dss_one (ds_ret (de_call C_joined hr (by rfl) (da_cons de_str (da_cons (de_lc (own := [("atom", 3)]) rfl nd (di_l (de_v (pv 2))) (blkOk_by (N := ["world", "atoms", "rows", "atom"]) (sc := defScope (topS 12)) (own := [("atom", 3)]) (by decide +kernel)) (fun _ _ _ _ _ => (dg_n (pg_name (i := 3) nd rfl (by first | exact .inl rfl | exact .inr rfl)))) (fun _ _ _ _ _ => dts_yes) (fun _ _ _ _ _ => (de_call C_atom_condition hr (by rfl) (da_cons (de_v (pv 0)) (da_cons (de_v (pv 3)) da_nil)) (len_cons (len_cons len_nil))))) da_nil)) (len_cons (len_cons len_nil))))))))

/-! ### same_condition -/
theorem sc_same_condition : FnScope ["world", "one", "two"] ["world", "one", "two"] (defScope (topS 13)) := ⟨rfl, rfl, rfl, by decide +kernel, rfl, by decide +kernel, by decide +kernel⟩
def b_same_condition (m_atoms_where : MF) : SF :=
  (S.ret (E.op gEq (E.rd (E.call m_atoms_where (E.cons (E.v 0) (E.cons (E.v 1) E.nil)))) (E.rd (E.call m_atoms_where (E.cons (E.v 0) (E.cons (E.v 2) E.nil))))))
theorem c_same_condition {m_atoms_where : MF} {k : Nat} (bi : Bi mg) (cs : Cs mg) (D : DefAt K mg "same_condition" (topS 13) ["world", "one", "two"]) (C_atoms_where : Cal P w K mg base k "atoms_where" false 2 m_atoms_where) : Cal P w K mg base (k + 1) "same_condition" false 3 (runB 3 false 3 (b_same_condition m_atoms_where)) := by
  obtain ⟨f, fd, F, hm, hb⟩ := D
  refine fn_ok F sc_same_condition rfl hm hb fun cdv A outer s H E hr => ?_
  have nd := sc_same_condition.nd
  have hu := hr.units
  exact (dss_one (ds_ret (de_cmp (op_eq_d hu) (dr_of (de_call C_atoms_where hr (by rfl) (da_cons (de_v (pv 0)) (da_cons (de_v (pv 1)) da_nil)) (len_cons (len_cons len_nil)))) (dr_of (de_call C_atoms_where hr (by rfl) (da_cons (de_v (pv 0)) (da_cons (de_v (pv 2)) da_nil)) (len_cons (len_cons len_nil)))) (nomark _))))

/-! ### _law_same -/
theorem sc_law_same : FnScope ["actual", "due", "k"] ["actual", "due"] (defScope (topS 15)) := ⟨rfl, rfl, rfl, by decide +kernel, rfl, by decide +kernel, by decide +kernel⟩
def r4_law_same (m_law_same : MF) : SF :=
  (S.ret (E.ofB (E.and (E.toB (E.isi "str" (E.rv 0))) (E.toB (E.op gEq (E.rv 0) (E.rv 1))))))
def r3_law_same (m_law_same : MF) : SF :=
  (S.seq (S.ite (E.toB (E.isi "int" (E.rv 1))) (S.ret (E.ofB (E.and (E.toB (E.isi "int" (E.rv 0))) (E.toB (E.op gEq (E.rv 0) (E.rv 1)))))) S.nop) (r4_law_same m_law_same))
def r2_law_same (m_law_same : MF) : SF :=
  (S.seq (S.ite (E.or (E.toB (E.isi "bool" (E.rv 1))) (E.toB (E.isi "bool" (E.rv 0)))) (S.ret (E.ofB (E.and (E.toB (E.isi "bool" (E.rv 1))) (E.and (E.toB (E.isi "bool" (E.rv 0))) (E.toB (E.op gEq (E.rv 0) (E.rv 1))))))) S.nop) (r3_law_same m_law_same))
def r1_law_same (m_law_same : MF) : SF :=
  (S.seq (S.ite (E.toB (E.op gIs (E.rv 1) (E.rd (E.c .none)))) (S.ret (E.op gIs (E.rv 0) (E.rd (E.c .none)))) S.nop) (r2_law_same m_law_same))
def b_law_same (m_law_same : MF) : SF :=
  (S.seq (S.ite (E.or (E.toB (E.isi "tuple" (E.rv 1))) (E.toB (E.isi "list" (E.rv 1)))) (S.seq (S.ite (E.or (E.toB (E.op gNe (E.rd (E.isi "tuple" (E.rv 1))) (E.rd (E.isi "tuple" (E.rv 0))))) (E.or (E.toB (E.op gNe (E.rd (E.isi "list" (E.rv 1))) (E.rd (E.isi "list" (E.rv 0))))) (E.toB (E.op gNe (E.rd (E.un gLen (E.rv 0))) (E.rd (E.un gLen (E.rv 1))))))) (S.ret (E.c (.bool false))) S.nop) (S.ret (E.op gEq (E.rd (E.un gLen (E.rd (E.lc [2] (E.iR1 (E.cons (E.un gLen (E.rv 1)) E.nil)) (E.tN 2) (E.not (E.toB (E.call m_law_same (E.cons (E.op gIx (E.rv 0) (E.rv 2)) (E.cons (E.op gIx (E.rv 1) (E.rv 2)) E.nil))))) (E.v 2))))) (E.rd (E.c (.int 0)))))) S.nop) (r1_law_same m_law_same))
theorem c_law_same {m_law_same : MF} {k : Nat} (bi : Bi mg) (cs : Cs mg) (D : DefAt K mg "_law_same" (topS 15) ["actual", "due"]) (C_law_same : Cal P w K mg base k "_law_same" false 2 m_law_same) : Cal P w K mg base (k + 1) "_law_same" false 2 (runB 3 false 2 (b_law_same m_law_same)) := by
  obtain ⟨f, fd, F, hm, hb⟩ := D
  refine fn_ok F sc_law_same rfl hm hb fun cdv A outer s H E hr => ?_
  have nd := sc_law_same.nd
  have hu := hr.units
  exact (dss_cons (ds_ite (PW.pt (dw_or (db_of (de_isi (x := "x") (by rfl) bi.m_isinstance (pe_bltn (by rfl) bi.m_tuple bt_tuple rfl) (dr_v (pv 1)))) (dw_or1 (db_of (de_isi (x := "x") (by rfl) bi.m_isinstance (pe_bltn (by rfl) bi.m_list bt_list rfl) (dr_v (pv 1))))))) (dss_cons (ds_ite (PW.pt (dw_or (db_cmp (op_ne_d hu) (dr_of (de_isi (x := "x") (by rfl) bi.m_isinstance (pe_bltn (by rfl) bi.m_tuple bt_tuple rfl) (dr_v (pv 1)))) (dr_of (de_isi (x := "x") (by rfl) bi.m_isinstance (pe_bltn (by rfl) bi.m_tuple bt_tuple rfl) (dr_v (pv 0)))) (nomark _)) (dw_or (db_cmp (op_ne_d hu) (dr_of (de_isi (x := "x") (by rfl) bi.m_isinstance (pe_bltn (by rfl) bi.m_list bt_list rfl) (dr_v (pv 1)))) (dr_of (de_isi (x := "x") (by rfl) bi.m_isinstance (pe_bltn (by rfl) bi.m_list bt_list rfl) (dr_v (pv 0)))) (nomark _)) (dw_or1 (db_cmp (op_ne_d hu) (dr_of (de_b1 cl_len (by rfl) bi.m_len bt_len (dr_v (pv 0)))) (dr_of (de_b1 cl_len (by rfl) bi.m_len bt_len (dr_v (pv 1)))) (nomark _)))))) (dss_one (ds_ret de_bl)) dss_nil) (dss_one (ds_ret (de_cmp (op_eq_d hu) (dr_of (de_b1 cl_len (by rfl) bi.m_len bt_len (dr_of (de_lc (own := [("k", 2)]) rfl nd (di_r1 (by rfl) bi.m_range (da_cons (de_b1 cl_len (by rfl) bi.m_len bt_len (dr_v (pv 1))) da_nil)) (blkOk_by (N := ["actual", "due", "k"]) (sc := defScope (topS 15)) (own := [("k", 2)]) (by decide +kernel)) (fun _ _ _ _ _ => (dg_n (pg_name (i := 2) nd rfl (by first | exact .inl rfl | exact .inr rfl)))) (fun _ _ _ _ _ => (dts_one (db_not (db_of (de_call C_law_same hr (by rfl) (da_cons (de_ix (dr_v (pv 0)) (dr_v (pv 2))) (da_cons (de_ix (dr_v (pv 1)) (dr_v (pv 2))) da_nil)) (len_cons (len_cons len_nil))))))) (fun _ _ _ _ _ => (de_v (pv 2))))))) (dr_of de_int) (nomark _))))) dss_nil) (dss_cons (ds_ite (db_cmp op_is_d (dr_v (pv 1)) (dr_of de_non) (nomark _)) (dss_one (ds_ret (de_cmp op_is_d (dr_v (pv 0)) (dr_of de_non) (nomark _)))) dss_nil) (dss_cons (ds_ite (PW.pt (dw_or (db_of (de_isi (x := "x") (by rfl) bi.m_isinstance (pe_bltn (by rfl) bi.m_bool bt_bool rfl) (dr_v (pv 1)))) (dw_or1 (db_of (de_isi (x := "x") (by rfl) bi.m_isinstance (pe_bltn (by rfl) bi.m_bool bt_bool rfl) (dr_v (pv 0))))))) (dss_one (ds_ret (de_and (de_b (de_isi (x := "x") (by rfl) bi.m_isinstance (pe_bltn (by rfl) bi.m_bool bt_bool rfl) (dr_v (pv 1)))) (de_and (de_b (de_isi (x := "x") (by rfl) bi.m_isinstance (pe_bltn (by rfl) bi.m_bool bt_bool rfl) (dr_v (pv 0)))) (de_and1 (de_b (de_cmp (op_eq_d hu) (dr_v (pv 0)) (dr_v (pv 1)) (nomark _)))))))) dss_nil) (dss_cons (ds_ite (db_of (de_isi (x := "x") (by rfl) bi.m_isinstance (pe_bltn (by rfl) bi.m_int bt_int rfl) (dr_v (pv 1)))) (dss_one (ds_ret (de_and (de_b (de_isi (x := "x") (by rfl) bi.m_isinstance (pe_bltn (by rfl) bi.m_int bt_int rfl) (dr_v (pv 0)))) (de_and1 (de_b (de_cmp (op_eq_d hu) (dr_v (pv 0)) (dr_v (pv 1)) (nomark _))))))) dss_nil) (dss_one (ds_ret (de_and (de_b (de_isi (x := "x") (by rfl) bi.m_isinstance (pe_bltn (by rfl) bi.m_str bt_str rfl) (dr_v (pv 0)))) (de_and1 (de_b (de_cmp (op_eq_d hu) (dr_v (pv 0)) (dr_v (pv 1)) (nomark _)))))))))))

/-! ### _law_is_integer -/
theorem sc_law_is_integer : FnScope ["actual"] ["actual"] (defScope (topS 16)) := ⟨rfl, rfl, rfl, by decide +kernel, rfl, by decide +kernel, by decide +kernel⟩
def b_law_is_integer : SF :=
  (S.ret (E.ofB (E.and (E.toB (E.isi "int" (E.rv 0))) (E.not (E.toB (E.isi "bool" (E.rv 0)))))))
theorem c_law_is_integer {k : Nat} (bi : Bi mg) (cs : Cs mg) (D : DefAt K mg "_law_is_integer" (topS 16) ["actual"]) : Cal P w K mg base (k + 1) "_law_is_integer" false 1 (runB 1 false 1 b_law_is_integer) := by
  obtain ⟨f, fd, F, hm, hb⟩ := D
  refine fn_ok F sc_law_is_integer rfl hm hb fun cdv A outer s H E hr => ?_
  have nd := sc_law_is_integer.nd
  have hu := hr.units
  exact (dss_one (ds_ret (de_and (de_b (de_isi (x := "x") (by rfl) bi.m_isinstance (pe_bltn (by rfl) bi.m_int bt_int rfl) (dr_v (pv 0)))) (de_and1 (de_not (de_b (de_isi (x := "x") (by rfl) bi.m_isinstance (pe_bltn (by rfl) bi.m_bool bt_bool rfl) (dr_v (pv 0)))))))))

/-! ### _law_pool -/
theorem sc_law_pool : FnScope ["script", "salt", "cell"] ["script"] (defScope (topS 17)) := ⟨rfl, rfl, rfl, by decide +kernel, rfl, by decide +kernel, by decide +kernel⟩
def f1_law_pool : SF :=
  (S.set 1 (E.op gMod (E.rd (E.un gInt (E.rd (E.op gAdd (E.rd (E.op gMul (E.rv 1) (E.rd (E.c (.int 31))))) (E.rv 2))))) (E.rd (E.c (.int 1000003)))))
def b_law_pool : SF :=
  (S.seq (S.set 1 (E.c (.int 7))) (S.seq (S.for_ (E.iL (E.scT 0 63)) (E.tN 2) f1_law_pool) (S.ret (E.lst (E.cons (E.scL 0) (E.cons (E.c (.int 0)) (E.cons (E.c (.int 0)) (E.cons (E.c (.int 0)) (E.cons (E.v 1) E.nil)))))))))
theorem c_law_pool {k : Nat} (bi : Bi mg) (cs : Cs mg) (D : DefAt K mg "_law_pool" (topS 17) ["script"]) : CalS P w K mg base (k + 1) "_law_pool" (runS 3 b_law_pool) := by
  obtain ⟨f, fd, F, hm, hb⟩ := D
  refine fn_okS F sc_law_pool hm hb (by decide) fun cdv A outer s H E hr => ?_
  have nd := sc_law_pool.nd
  have hu := hr.units
  exact (dss_cons (ds_set (i := 1) nd de_int) (dss_cons (ds_for (ts := []) PassesOwn.never rfl (di_l (de_scT (k := 63) (pv 0))) (fg_n (pg_name (i := 2) nd rfl (by first | exact .inl rfl | exact .inr rfl))) (dss_one (ds_set (i := 1) nd (de_op op_mod_d (dr_of (de_t1 cl_int (by rfl) bi.m_int bt_int (dr_of (de_op op_add_d (dr_of (de_op op_mul_d (dr_v (pv 1)) (dr_of de_int))) (dr_v (pv 2)))))) (dr_of de_int))))) (dss_one (ds_ret (de_lst (da_cons (de_scL (by rfl) bi.m_list bt_list (pv 0)) (da_cons de_int (da_cons de_int (da_cons de_int (da_cons (de_v (pv 1)) da_nil))))))))))

/-! ### _law_spread -/
theorem sc_law_spread : FnScope ["cell", "mixed", "total", "k"] ["cell"] (defScope (topS 18)) := ⟨rfl, rfl, rfl, by decide +kernel, rfl, by decide +kernel, by decide +kernel⟩
def f1_law_spread : SF :=
  (S.seq (S.set 1 (E.op gMod (E.rd (E.un gInt (E.rd (E.op gAdd (E.rd (E.op gAdd (E.rd (E.op gMul (E.rv 1) (E.rd (E.c (.int 48271))))) (E.rd (E.c (.int 12345))))) (E.rv 3))))) (E.rd (E.c (.int 2147483647))))) (S.set 2 (E.op gAdd (E.rd (E.op gMul (E.rv 2) (E.rd (E.c (.int 2147483647))))) (E.rv 1))))
def b_law_spread : SF :=
  (S.seq (S.set 1 (E.op gMod (E.rd (E.un gInt (E.rv 0))) (E.rd (E.c (.int 2147483647))))) (S.seq (S.set 2 (E.c (.int 1))) (S.seq (S.for_ (E.iR1 (E.cons (E.c (.int 4)) E.nil)) (E.tN 3) f1_law_spread) (S.ret (E.v 2)))))
theorem c_law_spread {k : Nat} (bi : Bi mg) (cs : Cs mg) (D : DefAt K mg "_law_spread" (topS 18) ["cell"]) : Cal P w K mg base (k + 1) "_law_spread" false 1 (runB 4 false 1 b_law_spread) := by
  obtain ⟨f, fd, F, hm, hb⟩ := D
  refine fn_ok F sc_law_spread rfl hm hb fun cdv A outer s H E hr => ?_
  have nd := sc_law_spread.nd
  have hu := hr.units
  exact (dss_cons (ds_set (i := 1) nd (de_op op_mod_d (dr_of (de_t1 cl_int (by rfl) bi.m_int bt_int (dr_v (pv 0)))) (dr_of de_int))) (dss_cons (ds_set (i := 2) nd de_int) (dss_cons (ds_for (ts := []) PassesOwn.never rfl (di_r1 (by rfl) bi.m_range (da_cons de_int da_nil)) (fg_n (pg_name (i := 3) nd rfl (by first | exact .inl rfl | exact .inr rfl))) (dss_cons (ds_set (i := 1) nd (de_op op_mod_d (dr_of (de_t1 cl_int (by rfl) bi.m_int bt_int (dr_of (de_op op_add_d (dr_of (de_op op_add_d (dr_of (de_op op_mul_d (dr_v (pv 1)) (dr_of de_int))) (dr_of de_int))) (dr_v (pv 3)))))) (dr_of de_int))) (dss_one (ds_set (i := 2) nd (de_op op_add_d (dr_of (de_op op_mul_d (dr_v (pv 2)) (dr_of de_int))) (dr_v (pv 1))))))) (dss_one (ds_ret (de_v (pv 2)))))))

/-! ### _law_draw -/
theorem sc_law_draw : FnScope ["pool", "many", "cell", "mixed", "value"] ["pool", "many"] (defScope (topS 19)) := ⟨rfl, rfl, rfl, by decide +kernel, rfl, by decide +kernel, by decide +kernel⟩
def b_law_draw (m_law_spread : MF) : SF :=
  (S.seq (S.ite (E.and (E.toB (E.op gLe (E.rd (E.px 0 2)) (E.rd (E.c (.int 0))))) (E.toB (E.op gLt (E.rd (E.px 0 1)) (E.rd (E.un gLen (E.rd (E.px 0 0))))))) (S.seq (S.set 2 (E.op gIx (E.rd (E.px 0 0)) (E.rd (E.px 0 1)))) (S.seq (S.setP 0 1 (E.op gAdd (E.rd (E.px 0 1)) (E.rd (E.c (.int 1))))) (S.seq (S.setP 0 2 (E.v 2)) (S.ite (E.toB (E.op gLt (E.rv 2) (E.rd (E.c (.int 1000000000000000000))))) (S.setP 0 2 (E.call m_law_spread (E.cons (E.v 2) E.nil))) S.nop)))) S.nop) (S.seq (S.setP 0 3 (E.op gAdd (E.rd (E.px 0 3)) (E.rd (E.c (.int 1))))) (S.seq (S.ite (E.toB (E.op gLe (E.rd (E.px 0 2)) (E.rd (E.c (.int 0))))) (S.seq (S.set 3 (E.op gMod (E.rd (E.un gInt (E.rd (E.op gAdd (E.rd (E.op gAdd (E.rd (E.op gMul (E.rd (E.px 0 4)) (E.rd (E.c (.int 48271))))) (E.rd (E.op gMul (E.rd (E.px 0 3)) (E.rd (E.c (.int 69621))))))) (E.rd (E.c (.int 1))))))) (E.rd (E.c (.int 2147483647))))) (S.seq (S.set 3 (E.op gMod (E.rd (E.un gInt (E.rd (E.op gAdd (E.rd (E.op gMul (E.rv 3) (E.rd (E.c (.int 16807))))) (E.rd (E.px 0 3)))))) (E.rd (E.c (.int 2147483629))))) (S.ret (E.op gMod (E.rd (E.op gDiv (E.rv 3) (E.rd (E.c (.int 5))))) (E.rv 1))))) S.nop) (S.seq (S.set 4 (E.op gMod (E.rd (E.un gInt (E.rd (E.px 0 2)))) (E.rv 1))) (S.seq (S.setP 0 2 (E.op gDiv (E.rd (E.px 0 2)) (E.rv 1))) (S.ret (E.v 4)))))))
theorem c_law_draw {m_law_spread : MF} {k : Nat} (bi : Bi mg) (cs : Cs mg) (D : DefAt K mg "_law_draw" (topS 19) ["pool", "many"]) (C_law_spread : Cal P w K mg base k "_law_spread" false 1 m_law_spread) : Cal P w K mg base (k + 1) "_law_draw" true 2 (runB 5 true 2 (b_law_draw m_law_spread)) := by
  obtain ⟨f, fd, F, hm, hb⟩ := D
  refine fn_ok F sc_law_draw rfl hm hb fun cdv A outer s H E hr => ?_
  have nd := sc_law_draw.nd
  have hu := hr.units
  exact (dss_cons (ds_ite (PW.pt (dw_and (db_cmp op_le_d (dr_of (de_px (k := 2) (pv 0))) (dr_of de_int) (nomark _)) (dw_and1 (db_cmp op_lt_d (dr_of (de_px (k := 1) (pv 0))) (dr_of (de_b1 cl_len (by rfl) bi.m_len bt_len (dr_of (de_px (k := 0) (pv 0))))) (nomark _))))) (dss_cons (ds_set (i := 2) nd (de_ix (dr_of (de_px (k := 0) (pv 0))) (dr_of (de_px (k := 1) (pv 0))))) (dss_cons (ds_setP (k := 1) (pv 0) (de_op op_add_d (dr_of (de_px (k := 1) (pv 0))) (dr_of de_int))) (dss_cons (ds_setP (k := 2) (pv 0) (de_v (pv 2))) (dss_one (ds_ite (db_cmp op_lt_d (dr_v (pv 2)) (dr_of de_int) (nomark _)) (dss_one (ds_setP (k := 2) (pv 0) (de_call C_law_spread hr (by rfl) (da_cons (de_v (pv 2)) da_nil) (len_cons len_nil)))) dss_nil))))) dss_nil) (dss_cons (ds_setP (k := 3) (pv 0) (de_op op_add_d (dr_of (de_px (k := 3) (pv 0))) (dr_of de_int))) (dss_cons (ds_ite (db_cmp op_le_d (dr_of (de_px (k := 2) (pv 0))) (dr_of de_int) (nomark _)) (dss_cons (ds_set (i := 3) nd (de_op op_mod_d (dr_of (de_t1 cl_int (by rfl) bi.m_int bt_int (dr_of (de_op op_add_d (dr_of (de_op op_add_d (dr_of (de_op op_mul_d (dr_of (de_px (k := 4) (pv 0))) (dr_of de_int))) (dr_of (de_op op_mul_d (dr_of (de_px (k := 3) (pv 0))) (dr_of de_int))))) (dr_of de_int))))) (dr_of de_int))) (dss_cons (ds_set (i := 3) nd (de_op op_mod_d (dr_of (de_t1 cl_int (by rfl) bi.m_int bt_int (dr_of (de_op op_add_d (dr_of (de_op op_mul_d (dr_v (pv 3)) (dr_of de_int))) (dr_of (de_px (k := 3) (pv 0))))))) (dr_of de_int))) (dss_one (ds_ret (de_op op_mod_d (dr_of (de_op op_div_d (dr_v (pv 3)) (dr_of de_int))) (dr_v (pv 1))))))) dss_nil) (dss_cons (ds_set (i := 4) nd (de_op op_mod_d (dr_of (de_t1 cl_int (by rfl) bi.m_int bt_int (dr_of (de_px (k := 2) (pv 0))))) (dr_v (pv 1)))) (dss_cons (ds_setP (k := 2) (pv 0) (de_op op_div_d (dr_of (de_px (k := 2) (pv 0))) (dr_v (pv 1)))) (dss_one (ds_ret (de_v (pv 4)))))))))

/-! ### _law_pick -/
theorem sc_law_pick : FnScope ["pool", "items"] ["pool", "items"] (defScope (topS 20)) := ⟨rfl, rfl, rfl, by decide +kernel, rfl, by decide +kernel, by decide +kernel⟩
def b_law_pick (m_law_draw : MF) : SF :=
  (S.ret (E.op gIx (E.rv 1) (E.rd (E.callP 0 m_law_draw (E.cons (E.un gLen (E.rv 1)) E.nil)))))
theorem c_law_pick {m_law_draw : MF} {k : Nat} (bi : Bi mg) (cs : Cs mg) (D : DefAt K mg "_law_pick" (topS 20) ["pool", "items"]) (C_law_draw : Cal P w K mg base k "_law_draw" true 2 m_law_draw) : Cal P w K mg base (k + 1) "_law_pick" true 2 (runB 2 true 2 (b_law_pick m_law_draw)) := by
  obtain ⟨f, fd, F, hm, hb⟩ := D
  refine fn_ok F sc_law_pick rfl hm hb fun cdv A outer s H E hr => ?_
  have nd := sc_law_pick.nd
  have hu := hr.units
  exact (dss_one (ds_ret (de_ix (dr_v (pv 1)) (dr_of (de_callP C_law_draw hr (by rfl) (pv 0) (da_cons (de_b1 cl_len (by rfl) bi.m_len bt_len (dr_v (pv 1))) da_nil) (len_cons len_nil))))))

/-! ### _law_bent -/
theorem sc_law_bent : FnScope ["pool", "value", "at", "turn", "other", "items"] ["pool", "value"] (defScope (topS 21)) := ⟨rfl, rfl, rfl, by decide +kernel, rfl, by decide +kernel, by decide +kernel⟩
def r14_law_bent (m_law_draw : MF) (m_law_is_integer : MF) (m_law_bent : MF) : SF :=
  (S.ret (E.un gTuple (E.rv 5)))
def r13_law_bent (m_law_draw : MF) (m_law_is_integer : MF) (m_law_bent : MF) : SF :=
  (S.seq (S.setIx 5 (E.v 4) (E.op gIx (E.rv 1) (E.rv 2))) (r14_law_bent m_law_draw m_law_is_integer m_law_bent))
def r12_law_bent (m_law_draw : MF) (m_law_is_integer : MF) (m_law_bent : MF) : SF :=
  (S.seq (S.setIx 5 (E.v 2) (E.op gIx (E.rv 1) (E.rv 4))) (r13_law_bent m_law_draw m_law_is_integer m_law_bent))
def r11_law_bent (m_law_draw : MF) (m_law_is_integer : MF) (m_law_bent : MF) : SF :=
  (S.seq (S.setL 5 (E.un gList (E.rv 1))) (r12_law_bent m_law_draw m_law_is_integer m_law_bent))
def r10_law_bent (m_law_draw : MF) (m_law_is_integer : MF) (m_law_bent : MF) : SF :=
  (S.seq (S.set 4 (E.callP 0 m_law_draw (E.cons (E.un gLen (E.rv 1)) E.nil))) (r11_law_bent m_law_draw m_law_is_integer m_law_bent))
def r9_law_bent (m_law_draw : MF) (m_law_is_integer : MF) (m_law_bent : MF) : SF :=
  (S.seq (S.ite (E.toB (E.op gEq (E.rv 3) (E.rd (E.c (.int 5))))) (S.ret (E.un gList (E.rv 1))) S.nop) (r10_law_bent m_law_draw m_law_is_integer m_law_bent))
def r8_law_bent (m_law_draw : MF) (m_law_is_integer : MF) (m_law_bent : MF) : SF :=
  (S.seq (S.ite (E.toB (E.op gLt (E.rv 3) (E.rd (E.c (.int 5))))) (S.ret (E.op gAdd (E.rd (E.op gAdd (E.rd (E.sl (E.rv 1) E.oN (E.oS (E.v 2)))) (E.rd (E.tup (E.cons (E.op gIx (E.rv 1) (E.rv 2)) E.nil))))) (E.rd (E.sl (E.rv 1) (E.oS (E.v 2)) E.oN)))) S.nop) (r9_law_bent m_law_draw m_law_is_integer m_law_bent))
def r7_law_bent (m_law_draw : MF) (m_law_is_integer : MF) (m_law_bent : MF) : SF :=
  (S.seq (S.ite (E.toB (E.op gLt (E.rv 3) (E.rd (E.c (.int 3))))) (S.ret (E.op gAdd (E.rd (E.sl (E.rv 1) E.oN (E.oS (E.v 2)))) (E.rd (E.sl (E.rv 1) (E.oS (E.op gAdd (E.rv 2) (E.rd (E.c (.int 1))))) E.oN)))) S.nop) (r8_law_bent m_law_draw m_law_is_integer m_law_bent))
def r6_law_bent (m_law_draw : MF) (m_law_is_integer : MF) (m_law_bent : MF) : SF :=
  (S.seq (S.set 2 (E.callP 0 m_law_draw (E.cons (E.un gLen (E.rv 1)) E.nil))) (r7_law_bent m_law_draw m_law_is_integer m_law_bent))
def r5_law_bent (m_law_draw : MF) (m_law_is_integer : MF) (m_law_bent : MF) : SF :=
  (S.seq (S.ite (E.or (E.not (E.toB (E.isi "tuple" (E.rv 1)))) (E.toB (E.op gEq (E.rd (E.un gLen (E.rv 1))) (E.rd (E.c (.int 0)))))) (S.ret (E.ite (E.toB (E.op gLt (E.rv 3) (E.rd (E.c (.int 5))))) (E.tup (E.cons (E.v 1) (E.cons (E.c (.int 0)) E.nil))) (E.tup E.nil))) S.nop) (r6_law_bent m_law_draw m_law_is_integer m_law_bent))
def r4_law_bent (m_law_draw : MF) (m_law_is_integer : MF) (m_law_bent : MF) : SF :=
  (S.seq (S.ite (E.toB (E.isi "str" (E.rv 1))) (S.ret (E.op gIx (E.rd (E.tup (E.cons (E.op gAdd (E.rv 1) (E.rd (E.c (.str "a")))) (E.cons (E.sl (E.rv 1) (E.oS (E.c (.int 1))) E.oN) (E.cons (E.op gAdd (E.rv 1) (E.rd (E.c (.str "A")))) (E.cons (E.op gAdd (E.rv 1) (E.rd (E.c (.str " ")))) (E.cons (E.sl (E.rv 1) E.oN (E.oS (E.c (.int 1)))) E.nil))))))) (E.rd (E.callP 0 m_law_draw (E.cons (E.c (.int 5)) E.nil))))) S.nop) (r5_law_bent m_law_draw m_law_is_integer m_law_bent))
def r3_law_bent (m_law_draw : MF) (m_law_is_integer : MF) (m_law_bent : MF) : SF :=
  (S.seq (S.ite (E.toB (E.call m_law_is_integer (E.cons (E.v 1) E.nil))) (S.ret (E.op gAdd (E.rv 1) (E.rd (E.op gIx (E.rd (E.tup (E.cons (E.c (.int 1)) (E.cons (E.un gNeg (E.rd (E.c (.int 1)))) (E.cons (E.c (.int 2)) (E.cons (E.c (.int 0)) E.nil)))))) (E.rd (E.callP 0 m_law_draw (E.cons (E.c (.int 4)) E.nil))))))) S.nop) (r4_law_bent m_law_draw m_law_is_integer m_law_bent))
def r2_law_bent (m_law_draw : MF) (m_law_is_integer : MF) (m_law_bent : MF) : SF :=
  (S.seq (S.ite (E.toB (E.op gEq (E.rv 3) (E.rd (E.c (.int 0))))) (S.ret (E.op gIx (E.rd (E.tup (E.cons (E.c (.str "x")) (E.cons (E.c (.bool true)) (E.cons (E.tup E.nil) (E.cons (E.c (.int 0)) (E.cons (E.un gNeg (E.rd (E.c (.int 1)))) (E.cons (E.c .none) (E.cons (E.c (.bool false)) (E.cons (E.lst E.nil) E.nil)))))))))) (E.rd (E.callP 0 m_law_draw (E.cons (E.c (.int 8)) E.nil))))) S.nop) (r3_law_bent m_law_draw m_law_is_integer m_law_bent))
def r1_law_bent (m_law_draw : MF) (m_law_is_integer : MF) (m_law_bent : MF) : SF :=
  (S.seq (S.set 3 (E.callP 0 m_law_draw (E.cons (E.c (.int 9)) E.nil))) (r2_law_bent m_law_draw m_law_is_integer m_law_bent))
def b_law_bent (m_law_draw : MF) (m_law_is_integer : MF) (m_law_bent : MF) : SF :=
  (S.seq (S.ite (E.and (E.toB (E.isi "tuple" (E.rv 1))) (E.and (E.toB (E.op gGt (E.rd (E.un gLen (E.rv 1))) (E.rd (E.c (.int 0))))) (E.toB (E.op gGt (E.rd (E.callP 0 m_law_draw (E.cons (E.c (.int 3)) E.nil))) (E.rd (E.c (.int 0))))))) (S.seq (S.set 2 (E.callP 0 m_law_draw (E.cons (E.un gLen (E.rv 1)) E.nil))) (S.ret (E.op gAdd (E.rd (E.op gAdd (E.rd (E.sl (E.rv 1) E.oN (E.oS (E.v 2)))) (E.rd (E.tup (E.cons (E.callP 0 m_law_bent (E.cons (E.op gIx (E.rv 1) (E.rv 2)) E.nil)) E.nil))))) (E.rd (E.sl (E.rv 1) (E.oS (E.op gAdd (E.rv 2) (E.rd (E.c (.int 1))))) E.oN))))) S.nop) (r1_law_bent m_law_draw m_law_is_integer m_law_bent))
theorem c_law_bent {m_law_draw : MF} {m_law_is_integer : MF} {m_law_bent : MF} {k : Nat} (bi : Bi mg) (cs : Cs mg) (D : DefAt K mg "_law_bent" (topS 21) ["pool", "value"]) (C_law_draw : Cal P w K mg base k "_law_draw" true 2 m_law_draw) (C_law_is_integer : Cal P w K mg base k "_law_is_integer" false 1 m_law_is_integer) (C_law_bent : Cal P w K mg base k "_law_bent" true 2 m_law_bent) : Cal P w K mg base (k + 1) "_law_bent" true 2 (runB 6 true 2 (b_law_bent m_law_draw m_law_is_integer m_law_bent)) := by
  obtain ⟨f, fd, F, hm, hb⟩ := D
  refine fn_ok F sc_law_bent rfl hm hb fun cdv A outer s H E hr => ?_
  have nd := sc_law_bent.nd
  have hu := hr.units
  exact (dss_cons (ds_ite (PW.pt (dw_and (db_of (de_isi (x := "x") (by rfl) bi.m_isinstance (pe_bltn (by rfl) bi.m_tuple bt_tuple rfl) (dr_v (pv 1)))) (dw_and (db_cmp op_gt_d (dr_of (de_b1 cl_len (by rfl) bi.m_len bt_len (dr_v (pv 1)))) (dr_of de_int) (nomark _)) (dw_and1 (db_cmp op_gt_d (dr_of (de_callP C_law_draw hr (by rfl) (pv 0) (da_cons de_int da_nil) (len_cons len_nil))) (dr_of de_int) (nomark _)))))) (dss_cons (ds_set (i := 2) nd (de_callP C_law_draw hr (by rfl) (pv 0) (da_cons (de_b1 cl_len (by rfl) bi.m_len bt_len (dr_v (pv 1))) da_nil) (len_cons len_nil))) (dss_one (ds_ret (de_op op_add_d (dr_of (de_op op_add_d (dr_of (de_sl (dr_v (pv 1)) do_n (do_s (de_v (pv 2))))) (dr_of (de_tup (da_cons (de_callP C_law_bent hr (by rfl) (pv 0) (da_cons (de_ix (dr_v (pv 1)) (dr_v (pv 2))) da_nil) (len_cons len_nil)) da_nil))))) (dr_of (de_sl (dr_v (pv 1)) (do_s (de_op op_add_d (dr_v (pv 2)) (dr_of de_int))) do_n)))))) dss_nil) (dss_cons (ds_set (i := 3) nd (de_callP C_law_draw hr (by rfl) (pv 0) (da_cons de_int da_nil) (len_cons len_nil))) (dss_cons (ds_ite (db_cmp (op_eq_d hu) (dr_v (pv 3)) (dr_of de_int) (nomark _)) (dss_one (ds_ret (de_ix (dr_of (de_tup (da_cons de_str (da_cons de_bl (da_cons (de_tup da_nil) (da_cons de_int (da_cons (de_neg (dr_of de_int)) (da_cons de_non (da_cons de_bl (da_cons (de_lst da_nil) da_nil)))))))))) (dr_of (de_callP C_law_draw hr (by rfl) (pv 0) (da_cons de_int da_nil) (len_cons len_nil)))))) dss_nil) (dss_cons (ds_ite (db_of (de_call C_law_is_integer hr (by rfl) (da_cons (de_v (pv 1)) da_nil) (len_cons len_nil))) (dss_one (ds_ret (de_op op_add_d (dr_v (pv 1)) (dr_of (de_ix (dr_of (de_tup (da_cons de_int (da_cons (de_neg (dr_of de_int)) (da_cons de_int (da_cons de_int da_nil)))))) (dr_of (de_callP C_law_draw hr (by rfl) (pv 0) (da_cons de_int da_nil) (len_cons len_nil)))))))) dss_nil) (dss_cons (ds_ite (db_of (de_isi (x := "x") (by rfl) bi.m_isinstance (pe_bltn (by rfl) bi.m_str bt_str rfl) (dr_v (pv 1)))) (dss_one (ds_ret (de_ix (dr_of (de_tup (da_cons (de_op op_add_d (dr_v (pv 1)) (dr_of de_str)) (da_cons (de_sl (dr_v (pv 1)) (do_s de_int) do_n) (da_cons (de_op op_add_d (dr_v (pv 1)) (dr_of de_str)) (da_cons (de_op op_add_d (dr_v (pv 1)) (dr_of de_str)) (da_cons (de_sl (dr_v (pv 1)) do_n (do_s de_int)) da_nil))))))) (dr_of (de_callP C_law_draw hr (by rfl) (pv 0) (da_cons de_int da_nil) (len_cons len_nil)))))) dss_nil) (dss_cons (ds_ite (PW.pt (dw_or (db_not (db_of (de_isi (x := "x") (by rfl) bi.m_isinstance (pe_bltn (by rfl) bi.m_tuple bt_tuple rfl) (dr_v (pv 1))))) (dw_or1 (db_cmp (op_eq_d hu) (dr_of (de_b1 cl_len (by rfl) bi.m_len bt_len (dr_v (pv 1)))) (dr_of de_int) (nomark _))))) (dss_one (ds_ret (de_ite (db_cmp op_lt_d (dr_v (pv 3)) (dr_of de_int) (nomark _)) (de_tup (da_cons (de_v (pv 1)) (da_cons de_int da_nil))) (de_tup da_nil)))) dss_nil) (dss_cons (ds_set (i := 2) nd (de_callP C_law_draw hr (by rfl) (pv 0) (da_cons (de_b1 cl_len (by rfl) bi.m_len bt_len (dr_v (pv 1))) da_nil) (len_cons len_nil))) (dss_cons (ds_ite (db_cmp op_lt_d (dr_v (pv 3)) (dr_of de_int) (nomark _)) (dss_one (ds_ret (de_op op_add_d (dr_of (de_sl (dr_v (pv 1)) do_n (do_s (de_v (pv 2))))) (dr_of (de_sl (dr_v (pv 1)) (do_s (de_op op_add_d (dr_v (pv 2)) (dr_of de_int))) do_n))))) dss_nil) (dss_cons (ds_ite (db_cmp op_lt_d (dr_v (pv 3)) (dr_of de_int) (nomark _)) (dss_one (ds_ret (de_op op_add_d (dr_of (de_op op_add_d (dr_of (de_sl (dr_v (pv 1)) do_n (do_s (de_v (pv 2))))) (dr_of (de_tup (da_cons (de_ix (dr_v (pv 1)) (dr_v (pv 2))) da_nil))))) (dr_of (de_sl (dr_v (pv 1)) (do_s (de_v (pv 2))) do_n))))) dss_nil) (dss_cons (ds_ite (db_cmp (op_eq_d hu) (dr_v (pv 3)) (dr_of de_int) (nomark _)) (dss_one (ds_ret (de_t1 cl_list (by rfl) bi.m_list bt_list (dr_v (pv 1))))) dss_nil) (dss_cons (ds_set (i := 4) nd (de_callP C_law_draw hr (by rfl) (pv 0) (da_cons (de_b1 cl_len (by rfl) bi.m_len bt_len (dr_v (pv 1))) da_nil) (len_cons len_nil))) (dss_cons (ds_setL (i := 5) nd (de_t1 cl_list (by rfl) bi.m_list bt_list (dr_v (pv 1)))) (dss_cons (ds_setIx (pv 5) (de_v (pv 2)) (de_ix (dr_v (pv 1)) (dr_v (pv 4)))) (dss_cons (ds_setIx (pv 5) (de_v (pv 4)) (de_ix (dr_v (pv 1)) (dr_v (pv 2)))) (dss_one (ds_ret (de_t1 cl_tuple (by rfl) bi.m_tuple bt_tuple (dr_v (pv 5)))))))))))))))))))

/-! ### _law_shuffled -/
theorem sc_law_shuffled : FnScope ["pool", "items", "left", "found", "at"] ["pool", "items"] (defScope (topS 22)) := ⟨rfl, rfl, rfl, by decide +kernel, rfl, by decide +kernel, by decide +kernel⟩
def c1_law_shuffled (m_law_draw : MF) : BF :=
  (E.toB (E.op gGt (E.rd (E.un gLen (E.rv 2))) (E.rd (E.c (.int 0)))))
def w2_law_shuffled (m_law_draw : MF) : SF :=
  (S.seq (S.set 4 (E.callP 0 m_law_draw (E.cons (E.un gLen (E.rv 2)) E.nil))) (S.seq (S.append 3 (E.op gIx (E.rv 2) (E.rv 4))) (S.set 2 (E.op gAdd (E.rd (E.sl (E.rv 2) E.oN (E.oS (E.v 4)))) (E.rd (E.sl (E.rv 2) (E.oS (E.op gAdd (E.rv 4) (E.rd (E.c (.int 1))))) E.oN))))))
def b_law_shuffled (m_law_draw : MF) : SF :=
  (S.seq (S.set 2 (E.un gList (E.rv 1))) (S.seq (S.setL 3 (E.lst E.nil)) (S.seq (S.whl (c1_law_shuffled m_law_draw) (w2_law_shuffled m_law_draw) 64) (S.ret (E.un gTuple (E.rv 3))))))
theorem c_law_shuffled {m_law_draw : MF} {k : Nat} (bi : Bi mg) (cs : Cs mg) (D : DefAt K mg "_law_shuffled" (topS 22) ["pool", "items"]) (C_law_draw : Cal P w K mg base k "_law_draw" true 2 m_law_draw) : Cal P w K mg base (k + 1) "_law_shuffled" true 2 (runB 5 true 2 (b_law_shuffled m_law_draw)) := by
  obtain ⟨f, fd, F, hm, hb⟩ := D
  refine fn_ok F sc_law_shuffled rfl hm hb fun cdv A outer s H E hr => ?_
  have nd := sc_law_shuffled.nd
  have hu := hr.units
  exact (dss_cons (ds_set (i := 2) nd (de_t1 cl_list (by rfl) bi.m_list bt_list (dr_v (pv 1)))) (dss_cons (ds_setL (i := 3) nd (de_lst da_nil)) (dss_cons (ds_whl 64 PassesOwn.never (db_cmp op_gt_d (dr_of (de_b1 cl_len (by rfl) bi.m_len bt_len (dr_v (pv 2)))) (dr_of de_int) (nomark _)) (dss_cons (ds_set (i := 4) nd (de_callP C_law_draw hr (by rfl) (pv 0) (da_cons (de_b1 cl_len (by rfl) bi.m_len bt_len (dr_v (pv 2))) da_nil) (len_cons len_nil))) (dss_cons (ds_append (pv 3) (de_ix (dr_v (pv 2)) (dr_v (pv 4)))) (dss_one (ds_set (i := 2) nd (de_op op_add_d (dr_of (de_sl (dr_v (pv 2)) do_n (do_s (de_v (pv 4))))) (dr_of (de_sl (dr_v (pv 2)) (do_s (de_op op_add_d (dr_v (pv 4)) (dr_of de_int))) do_n)))))))) (dss_one (ds_ret (de_t1 cl_tuple (by rfl) bi.m_tuple bt_tuple (dr_v (pv 3))))))))

/-! ### _law_world -/
theorem sc_law_world : FnScope ["pool", "most", "row"] ["pool", "most"] (defScope (topS 23)) := ⟨rfl, rfl, rfl, by decide +kernel, rfl, by decide +kernel, by decide +kernel⟩
def b_law_world (m_law_pick : MF) : SF :=
  (S.ret (E.callP 0 m_law_pick (E.cons (E.lc [2] (E.iT (E.tup (E.cons (E.tup (E.cons (E.c (.int 1)) (E.cons (E.c (.int 1)) E.nil))) (E.cons (E.tup (E.cons (E.c (.int 1)) (E.cons (E.c (.int 2)) E.nil))) (E.cons (E.tup (E.cons (E.c (.int 2)) (E.cons (E.c (.int 1)) E.nil))) (E.cons (E.tup (E.cons (E.c (.int 2)) (E.cons (E.c (.int 2)) E.nil))) (E.cons (E.tup (E.cons (E.c (.int 1)) (E.cons (E.c (.int 3)) E.nil))) (E.cons (E.tup (E.cons (E.c (.int 3)) (E.cons (E.c (.int 1)) E.nil))) (E.cons (E.tup (E.cons (E.c (.int 2)) (E.cons (E.c (.int 3)) E.nil))) (E.cons (E.tup (E.cons (E.c (.int 3)) (E.cons (E.c (.int 2)) E.nil))) E.nil)))))))))) (E.tN 2) (E.toB (E.op gLe (E.rd (E.op gMul (E.rd (E.op gIx (E.rv 2) (E.rd (E.c (.int 0))))) (E.rd (E.op gIx (E.rv 2) (E.rd (E.c (.int 1))))))) (E.rv 1))) (E.v 2)) E.nil)))
theorem c_law_world {m_law_pick : MF} {k : Nat} (bi : Bi mg) (cs : Cs mg) (D : DefAt K mg "_law_world" (topS 23) ["pool", "most"]) (C_law_pick : Cal P w K mg base k "_law_pick" true 2 m_law_pick) : Cal P w K mg base (k + 1) "_law_world" true 2 (runB 3 true 2 (b_law_world m_law_pick)) := by
  obtain ⟨f, fd, F, hm, hb⟩ := D
  refine fn_ok F sc_law_world rfl hm hb fun cdv A outer s H E hr => ?_
  have nd := sc_law_world.nd
  have hu := hr.units
  exact (dss_one (ds_ret (de_callP C_law_pick hr (by rfl) (pv 0) (da_cons (de_lc (own := [("row", 2)]) rfl nd (di_t (de_tup (da_cons (de_tup (da_cons de_int (da_cons de_int da_nil))) (da_cons (de_tup (da_cons de_int (da_cons de_int da_nil))) (da_cons (de_tup (da_cons de_int (da_cons de_int da_nil))) (da_cons (de_tup (da_cons de_int (da_cons de_int da_nil))) (da_cons (de_tup (da_cons de_int (da_cons de_int da_nil))) (da_cons (de_tup (da_cons de_int (da_cons de_int da_nil))) (da_cons (de_tup (da_cons de_int (da_cons de_int da_nil))) (da_cons (de_tup (da_cons de_int (da_cons de_int da_nil))) da_nil)))))))))) (blkOk_by (N := ["pool", "most", "row"]) (sc := defScope (topS 23)) (own := [("row", 2)]) (by decide +kernel)) (fun _ _ _ _ _ => (dg_n (pg_name (i := 2) nd rfl (by first | exact .inl rfl | exact .inr rfl)))) (fun _ _ _ _ _ => (dts_one (db_cmp op_le_d (dr_of (de_op op_mul_d (dr_of (de_ix (dr_v (pv 2)) (dr_of de_int))) (dr_of (de_ix (dr_v (pv 2)) (dr_of de_int))))) (dr_v (pv 1)) (nomark _)))) (fun _ _ _ _ _ => (de_v (pv 2)))) da_nil) (len_cons len_nil))))

/-! ### _law_atoms -/
theorem sc_law_atoms : FnScope ["world"] ["world"] (defScope (topS 24)) := ⟨rfl, rfl, rfl, by decide +kernel, rfl, by decide +kernel, by decide +kernel⟩
def b_law_atoms : SF :=
  (S.ret (E.lR (E.op gIx (E.rd (E.tup (E.cons (E.c (.int 2)) (E.cons (E.c (.int 4)) (E.cons (E.c (.int 8)) E.nil))))) (E.rd (E.op gSub (E.rd (E.op gIx (E.rv 0) (E.rd (E.c (.int 0))))) (E.rd (E.c (.int 1))))))))
theorem c_law_atoms {k : Nat} (bi : Bi mg) (cs : Cs mg) (D : DefAt K mg "_law_atoms" (topS 24) ["world"]) : Cal P w K mg base (k + 1) "_law_atoms" false 1 (runB 1 false 1 b_law_atoms) := by
  obtain ⟨f, fd, F, hm, hb⟩ := D
  refine fn_ok F sc_law_atoms rfl hm hb fun cdv A outer s H E hr => ?_
  have nd := sc_law_atoms.nd
  have hu := hr.units
  exact (dss_one (ds_ret (de_lR rfl (by rfl) bi.m_list (by rfl) bi.m_range (de_ix (dr_of (de_tup (da_cons de_int (da_cons de_int (da_cons de_int da_nil))))) (dr_of (de_op op_sub_d (dr_of (de_ix (dr_v (pv 0)) (dr_of de_int))) (dr_of de_int)))))))

/-! ### _law_condition -/
theorem sc_law_condition : FnScope ["pool", "world", "deep", "turn"] ["pool", "world", "deep"] (defScope (topS 25)) := ⟨rfl, rfl, rfl, by decide +kernel, rfl, by decide +kernel, by decide +kernel⟩
def b_law_condition (m_law_draw : MF) (m_law_condition : MF) : SF :=
  (S.seq (S.set 3 (E.ite (E.toB (E.op gGt (E.rv 2) (E.rd (E.c (.int 0))))) (E.callP 0 m_law_draw (E.cons (E.c (.int 7)) E.nil)) (E.callP 0 m_law_draw (E.cons (E.c (.int 4)) E.nil)))) (S.seq (S.ite (E.toB (E.op gLt (E.rv 3) (E.rd (E.c (.int 2))))) (S.ret (E.tup (E.cons (E.c (.str "test")) (E.cons (E.callP 0 m_law_draw (E.cons (E.op gIx (E.rv 1) (E.rd (E.c (.int 0)))) E.nil)) E.nil)))) S.nop) (S.seq (S.ite (E.toB (E.op gEq (E.rv 3) (E.rd (E.c (.int 2))))) (S.ret (E.tup (E.cons (E.c (.str "not")) (E.cons (E.tup (E.cons (E.c (.str "test")) (E.cons (E.callP 0 m_law_draw (E.cons (E.op gIx (E.rv 1) (E.rd (E.c (.int 0)))) E.nil)) E.nil))) E.nil)))) S.nop) (S.seq (S.ite (E.toB (E.op gEq (E.rv 3) (E.rd (E.c (.int 3))))) (S.ret (E.op gIx (E.rd (E.tup (E.cons (E.tup (E.cons (E.c (.str "yes")) E.nil)) (E.cons (E.tup (E.cons (E.c (.str "no")) E.nil)) E.nil)))) (E.rd (E.callP 0 m_law_draw (E.cons (E.c (.int 2)) E.nil))))) S.nop) (S.seq (S.ite (E.toB (E.op gEq (E.rv 3) (E.rd (E.c (.int 4))))) (S.ret (E.tup (E.cons (E.c (.str "not")) (E.cons (E.callP 0 m_law_condition (E.cons (E.v 1) (E.cons (E.op gSub (E.rv 2) (E.rd (E.c (.int 1)))) E.nil))) E.nil)))) S.nop) (S.ret (E.tup (E.cons (E.op gIx (E.rd (E.tup (E.cons (E.c (.str "and")) (E.cons (E.c (.str "or")) E.nil)))) (E.rd (E.op gSub (E.rv 3) (E.rd (E.c (.int 5)))))) (E.cons (E.callP 0 m_law_condition (E.cons (E.v 1) (E.cons (E.op gSub (E.rv 2) (E.rd (E.c (.int 1)))) E.nil))) (E.cons (E.callP 0 m_law_condition (E.cons (E.v 1) (E.cons (E.op gSub (E.rv 2) (E.rd (E.c (.int 1)))) E.nil))) E.nil))))))))))
theorem c_law_condition {m_law_draw : MF} {m_law_condition : MF} {k : Nat} (bi : Bi mg) (cs : Cs mg) (D : DefAt K mg "_law_condition" (topS 25) ["pool", "world", "deep"]) (C_law_draw : Cal P w K mg base k "_law_draw" true 2 m_law_draw) (C_law_condition : Cal P w K mg base k "_law_condition" true 3 m_law_condition) : Cal P w K mg base (k + 1) "_law_condition" true 3 (runB 4 true 3 (b_law_condition m_law_draw m_law_condition)) := by
  obtain ⟨f, fd, F, hm, hb⟩ := D
  refine fn_ok F sc_law_condition rfl hm hb fun cdv A outer s H E hr => ?_
  have nd := sc_law_condition.nd
  have hu := hr.units
  exact (dss_cons (ds_set (i := 3) nd (de_ite (db_cmp op_gt_d (dr_v (pv 2)) (dr_of de_int) (nomark _)) (de_callP C_law_draw hr (by rfl) (pv 0) (da_cons de_int da_nil) (len_cons len_nil)) (de_callP C_law_draw hr (by rfl) (pv 0) (da_cons de_int da_nil) (len_cons len_nil)))) (dss_cons (ds_ite (db_cmp op_lt_d (dr_v (pv 3)) (dr_of de_int) (nomark _)) (dss_one (ds_ret (de_tup (da_cons de_str (da_cons (de_callP C_law_draw hr (by rfl) (pv 0) (da_cons (de_ix (dr_v (pv 1)) (dr_of de_int)) da_nil) (len_cons len_nil)) da_nil))))) dss_nil) (dss_cons (ds_ite (db_cmp (op_eq_d hu) (dr_v (pv 3)) (dr_of de_int) (nomark _)) (dss_one (ds_ret (de_tup (da_cons de_str (da_cons (de_tup (da_cons de_str (da_cons (de_callP C_law_draw hr (by rfl) (pv 0) (da_cons (de_ix (dr_v (pv 1)) (dr_of de_int)) da_nil) (len_cons len_nil)) da_nil))) da_nil))))) dss_nil) (dss_cons (ds_ite (db_cmp (op_eq_d hu) (dr_v (pv 3)) (dr_of de_int) (nomark _)) (dss_one (ds_ret (de_ix (dr_of (de_tup (da_cons (de_tup (da_cons de_str da_nil)) (da_cons (de_tup (da_cons de_str da_nil)) da_nil)))) (dr_of (de_callP C_law_draw hr (by rfl) (pv 0) (da_cons de_int da_nil) (len_cons len_nil)))))) dss_nil) (dss_cons (ds_ite (db_cmp (op_eq_d hu) (dr_v (pv 3)) (dr_of de_int) (nomark _)) (dss_one (ds_ret (de_tup (da_cons de_str (da_cons (de_callP C_law_condition hr (by rfl) (pv 0) (da_cons (de_v (pv 1)) (da_cons (de_op op_sub_d (dr_v (pv 2)) (dr_of de_int)) da_nil)) (len_cons (len_cons len_nil))) da_nil))))) dss_nil) (dss_one (ds_ret (de_tup (da_cons (de_ix (dr_of (de_tup (da_cons de_str (da_cons de_str da_nil)))) (dr_of (de_op op_sub_d (dr_v (pv 3)) (dr_of de_int)))) (da_cons (de_callP C_law_condition hr (by rfl) (pv 0) (da_cons (de_v (pv 1)) (da_cons (de_op op_sub_d (dr_v (pv 2)) (dr_of de_int)) da_nil)) (len_cons (len_cons len_nil))) (da_cons (de_callP C_law_condition hr (by rfl) (pv 0) (da_cons (de_v (pv 1)) (da_cons (de_op op_sub_d (dr_v (pv 2)) (dr_of de_int)) da_nil)) (len_cons (len_cons len_nil))) da_nil)))))))))))

/-! ### _law_holds -/
theorem sc_law_holds : FnScope ["b", "atom", "name"] ["b", "atom"] (defScope (topS 26)) := ⟨rfl, rfl, rfl, by decide +kernel, rfl, by decide +kernel, by decide +kernel⟩
def b_law_holds (m_law_holds : MF) : SF :=
  (S.seq (S.set 2 (E.op gIx (E.rv 0) (E.rd (E.c (.int 0))))) (S.seq (S.ite (E.toB (E.op gIn (E.rv 2) (E.rd (E.tup (E.cons (E.c (.str "no")) (E.cons (E.c (.str "yes")) E.nil)))))) (S.ret (E.op gEq (E.rv 2) (E.rd (E.c (.str "yes"))))) S.nop) (S.seq (S.ite (E.toB (E.op gEq (E.rv 2) (E.rd (E.c (.str "test"))))) (S.ret (E.op gEq (E.rd (E.op gMod (E.rd (E.un gInt (E.rd (E.op gDiv (E.rv 1) (E.rd (E.op gIx (E.rd (E.tup (E.cons (E.c (.int 1)) (E.cons (E.c (.int 2)) (E.cons (E.c (.int 4)) E.nil))))) (E.rd (E.op gIx (E.rv 0) (E.rd (E.c (.int 1))))))))))) (E.rd (E.c (.int 2))))) (E.rd (E.c (.int 1))))) S.nop) (S.seq (S.ite (E.toB (E.op gEq (E.rv 2) (E.rd (E.c (.str "not"))))) (S.ret (E.ofB (E.not (E.toB (E.call m_law_holds (E.cons (E.op gIx (E.rv 0) (E.rd (E.c (.int 1)))) (E.cons (E.v 1) E.nil))))))) S.nop) (S.seq (S.ite (E.toB (E.op gEq (E.rv 2) (E.rd (E.c (.str "and"))))) (S.ret (E.ofB (E.and (E.toB (E.call m_law_holds (E.cons (E.op gIx (E.rv 0) (E.rd (E.c (.int 1)))) (E.cons (E.v 1) E.nil)))) (E.toB (E.call m_law_holds (E.cons (E.op gIx (E.rv 0) (E.rd (E.c (.int 2)))) (E.cons (E.v 1) E.nil))))))) S.nop) (S.ret (E.ofB (E.or (E.toB (E.call m_law_holds (E.cons (E.op gIx (E.rv 0) (E.rd (E.c (.int 1)))) (E.cons (E.v 1) E.nil)))) (E.toB (E.call m_law_holds (E.cons (E.op gIx (E.rv 0) (E.rd (E.c (.int 2)))) (E.cons (E.v 1) E.nil))))))))))))
theorem c_law_holds {m_law_holds : MF} {k : Nat} (bi : Bi mg) (cs : Cs mg) (D : DefAt K mg "_law_holds" (topS 26) ["b", "atom"]) (C_law_holds : Cal P w K mg base k "_law_holds" false 2 m_law_holds) : Cal P w K mg base (k + 1) "_law_holds" false 2 (runB 3 false 2 (b_law_holds m_law_holds)) := by
  obtain ⟨f, fd, F, hm, hb⟩ := D
  refine fn_ok F sc_law_holds rfl hm hb fun cdv A outer s H E hr => ?_
  have nd := sc_law_holds.nd
  have hu := hr.units
  exact (dss_cons (ds_set (i := 2) nd (de_ix (dr_v (pv 0)) (dr_of de_int))) (dss_cons (ds_ite (db_cmp (op_in_d hu) (dr_v (pv 2)) (dr_of (de_tup (da_cons de_str (da_cons de_str da_nil)))) rfl) (dss_one (ds_ret (de_cmp (op_eq_d hu) (dr_v (pv 2)) (dr_of de_str) (nomark _)))) dss_nil) (dss_cons (ds_ite (db_cmp (op_eq_d hu) (dr_v (pv 2)) (dr_of de_str) (nomark _)) (dss_one (ds_ret (de_cmp (op_eq_d hu) (dr_of (de_op op_mod_d (dr_of (de_t1 cl_int (by rfl) bi.m_int bt_int (dr_of (de_op op_div_d (dr_v (pv 1)) (dr_of (de_ix (dr_of (de_tup (da_cons de_int (da_cons de_int (da_cons de_int da_nil))))) (dr_of (de_ix (dr_v (pv 0)) (dr_of de_int))))))))) (dr_of de_int))) (dr_of de_int) (nomark _)))) dss_nil) (dss_cons (ds_ite (db_cmp (op_eq_d hu) (dr_v (pv 2)) (dr_of de_str) (nomark _)) (dss_one (ds_ret (de_not (de_b (de_call C_law_holds hr (by rfl) (da_cons (de_ix (dr_v (pv 0)) (dr_of de_int)) (da_cons (de_v (pv 1)) da_nil)) (len_cons (len_cons len_nil))))))) dss_nil) (dss_cons (ds_ite (db_cmp (op_eq_d hu) (dr_v (pv 2)) (dr_of de_str) (nomark _)) (dss_one (ds_ret (de_and (de_b (de_call C_law_holds hr (by rfl) (da_cons (de_ix (dr_v (pv 0)) (dr_of de_int)) (da_cons (de_v (pv 1)) da_nil)) (len_cons (len_cons len_nil)))) (de_and1 (de_b (de_call C_law_holds hr (by rfl) (da_cons (de_ix (dr_v (pv 0)) (dr_of de_int)) (da_cons (de_v (pv 1)) da_nil)) (len_cons (len_cons len_nil)))))))) dss_nil) (dss_one (ds_ret (de_or (de_b (de_call C_law_holds hr (by rfl) (da_cons (de_ix (dr_v (pv 0)) (dr_of de_int)) (da_cons (de_v (pv 1)) da_nil)) (len_cons (len_cons len_nil)))) (de_or1 (de_b (de_call C_law_holds hr (by rfl) (da_cons (de_ix (dr_v (pv 0)) (dr_of de_int)) (da_cons (de_v (pv 1)) da_nil)) (len_cons (len_cons len_nil)))))))))))))

/-! ### _law_is_condition -/
theorem sc_law_is_condition : FnScope ["world", "value", "deep", "name"] ["world", "value", "deep"] (defScope (topS 27)) := ⟨rfl, rfl, rfl, by decide +kernel, rfl, by decide +kernel, by decide +kernel⟩
def b_law_is_condition (m_law_is_condition : MF) (m_law_is_integer : MF) : SF :=
  (S.seq (S.ite (E.or (E.toB (E.op gGt (E.rv 2) (E.rd (E.c (.int 40))))) (E.or (E.not (E.toB (E.isi "tuple" (E.rv 1)))) (E.or (E.toB (E.op gEq (E.rd (E.un gLen (E.rv 1))) (E.rd (E.c (.int 0))))) (E.not (E.toB (E.isi "str" (E.rd (E.op gIx (E.rv 1) (E.rd (E.c (.int 0))))))))))) (S.ret (E.c (.bool false))) S.nop) (S.seq (S.set 3 (E.op gIx (E.rv 1) (E.rd (E.c (.int 0))))) (S.seq (S.ite (E.toB (E.op gIn (E.rv 3) (E.rd (E.tup (E.cons (E.c (.str "no")) (E.cons (E.c (.str "yes")) E.nil)))))) (S.ret (E.op gEq (E.rd (E.un gLen (E.rv 1))) (E.rd (E.c (.int 1))))) S.nop) (S.seq (S.ite (E.toB (E.op gEq (E.rv 3) (E.rd (E.c (.str "test"))))) (S.ret (E.ofB (E.and (E.toB (E.op gEq (E.rd (E.un gLen (E.rv 1))) (E.rd (E.c (.int 2))))) (E.and (E.toB (E.call m_law_is_integer (E.cons (E.op gIx (E.rv 1) (E.rd (E.c (.int 1)))) E.nil))) (E.and (E.toB (E.op gLe (E.rd (E.c (.int 0))) (E.rd (E.op gIx (E.rv 1) (E.rd (E.c (.int 1))))))) (E.toB (E.op gLt (E.rd (E.op gIx (E.rv 1) (E.rd (E.c (.int 1))))) (E.rd (E.op gIx (E.rv 0) (E.rd (E.c (.int 0)))))))))))) S.nop) (S.seq (S.ite (E.toB (E.op gEq (E.rv 3) (E.rd (E.c (.str "not"))))) (S.ret (E.ofB (E.and (E.toB (E.op gEq (E.rd (E.un gLen (E.rv 1))) (E.rd (E.c (.int 2))))) (E.toB (E.call m_law_is_condition (E.cons (E.v 0) (E.cons (E.op gIx (E.rv 1) (E.rd (E.c (.int 1)))) (E.cons (E.op gAdd (E.rv 2) (E.rd (E.c (.int 1)))) E.nil)))))))) S.nop) (S.ret (E.ofB (E.and (E.toB (E.op gIn (E.rv 3) (E.rd (E.tup (E.cons (E.c (.str "and")) (E.cons (E.c (.str "or")) E.nil)))))) (E.and (E.toB (E.op gEq (E.rd (E.un gLen (E.rv 1))) (E.rd (E.c (.int 3))))) (E.and (E.toB (E.call m_law_is_condition (E.cons (E.v 0) (E.cons (E.op gIx (E.rv 1) (E.rd (E.c (.int 1)))) (E.cons (E.op gAdd (E.rv 2) (E.rd (E.c (.int 1)))) E.nil))))) (E.toB (E.call m_law_is_condition (E.cons (E.v 0) (E.cons (E.op gIx (E.rv 1) (E.rd (E.c (.int 2)))) (E.cons (E.op gAdd (E.rv 2) (E.rd (E.c (.int 1)))) E.nil)))))))))))))))
theorem c_law_is_condition {m_law_is_condition : MF} {m_law_is_integer : MF} {k : Nat} (bi : Bi mg) (cs : Cs mg) (D : DefAt K mg "_law_is_condition" (topS 27) ["world", "value", "deep"]) (C_law_is_condition : Cal P w K mg base k "_law_is_condition" false 3 m_law_is_condition) (C_law_is_integer : Cal P w K mg base k "_law_is_integer" false 1 m_law_is_integer) : Cal P w K mg base (k + 1) "_law_is_condition" false 3 (runB 4 false 3 (b_law_is_condition m_law_is_condition m_law_is_integer)) := by
  obtain ⟨f, fd, F, hm, hb⟩ := D
  refine fn_ok F sc_law_is_condition rfl hm hb fun cdv A outer s H E hr => ?_
  have nd := sc_law_is_condition.nd
  have hu := hr.units
  exact (dss_cons (ds_ite (PW.pt (dw_or (db_cmp op_gt_d (dr_v (pv 2)) (dr_of de_int) (nomark _)) (dw_or (db_not (db_of (de_isi (x := "x") (by rfl) bi.m_isinstance (pe_bltn (by rfl) bi.m_tuple bt_tuple rfl) (dr_v (pv 1))))) (dw_or (db_cmp (op_eq_d hu) (dr_of (de_b1 cl_len (by rfl) bi.m_len bt_len (dr_v (pv 1)))) (dr_of de_int) (nomark _)) (dw_or1 (db_not (db_of (de_isi (x := "x") (by rfl) bi.m_isinstance (pe_bltn (by rfl) bi.m_str bt_str rfl) (dr_of (de_ix (dr_v (pv 1)) (dr_of de_int))))))))))) (dss_one (ds_ret de_bl)) dss_nil) (dss_cons (ds_set (i := 3) nd (de_ix (dr_v (pv 1)) (dr_of de_int))) (dss_cons (ds_ite (db_cmp (op_in_d hu) (dr_v (pv 3)) (dr_of (de_tup (da_cons de_str (da_cons de_str da_nil)))) rfl) (dss_one (ds_ret (de_cmp (op_eq_d hu) (dr_of (de_b1 cl_len (by rfl) bi.m_len bt_len (dr_v (pv 1)))) (dr_of de_int) (nomark _)))) dss_nil) (dss_cons (ds_ite (db_cmp (op_eq_d hu) (dr_v (pv 3)) (dr_of de_str) (nomark _)) (dss_one (ds_ret (de_and (de_b (de_cmp (op_eq_d hu) (dr_of (de_b1 cl_len (by rfl) bi.m_len bt_len (dr_v (pv 1)))) (dr_of de_int) (nomark _))) (de_and (de_b (de_call C_law_is_integer hr (by rfl) (da_cons (de_ix (dr_v (pv 1)) (dr_of de_int)) da_nil) (len_cons len_nil))) (de_and (de_b (de_cmp op_le_d (dr_of de_int) (dr_of (de_ix (dr_v (pv 1)) (dr_of de_int))) (nomark _))) (de_and1 (de_b (de_cmp op_lt_d (dr_of (de_ix (dr_v (pv 1)) (dr_of de_int))) (dr_of (de_ix (dr_v (pv 0)) (dr_of de_int))) (nomark _))))))))) dss_nil) (dss_cons (ds_ite (db_cmp (op_eq_d hu) (dr_v (pv 3)) (dr_of de_str) (nomark _)) (dss_one (ds_ret (de_and (de_b (de_cmp (op_eq_d hu) (dr_of (de_b1 cl_len (by rfl) bi.m_len bt_len (dr_v (pv 1)))) (dr_of de_int) (nomark _))) (de_and1 (de_b (de_call C_law_is_condition hr (by rfl) (da_cons (de_v (pv 0)) (da_cons (de_ix (dr_v (pv 1)) (dr_of de_int)) (da_cons (de_op op_add_d (dr_v (pv 2)) (dr_of de_int)) da_nil))) (len_cons (len_cons (len_cons len_nil))))))))) dss_nil) (dss_one (ds_ret (de_and (de_b (de_cmp (op_in_d hu) (dr_v (pv 3)) (dr_of (de_tup (da_cons de_str (da_cons de_str da_nil)))) rfl)) (de_and (de_b (de_cmp (op_eq_d hu) (dr_of (de_b1 cl_len (by rfl) bi.m_len bt_len (dr_v (pv 1)))) (dr_of de_int) (nomark _))) (de_and (de_b (de_call C_law_is_condition hr (by rfl) (da_cons (de_v (pv 0)) (da_cons (de_ix (dr_v (pv 1)) (dr_of de_int)) (da_cons (de_op op_add_d (dr_v (pv 2)) (dr_of de_int)) da_nil))) (len_cons (len_cons (len_cons len_nil))))) (de_and1 (de_b (de_call C_law_is_condition hr (by rfl) (da_cons (de_v (pv 0)) (da_cons (de_ix (dr_v (pv 1)) (dr_of de_int)) (da_cons (de_op op_add_d (dr_v (pv 2)) (dr_of de_int)) da_nil))) (len_cons (len_cons (len_cons len_nil))))))))))))))))

/-! ### law -/
theorem sc_law : FnScope ["script", "pool", "world", "value", "good", "b", "c", "rows", "some", "made", "deep", "k", "tried", "shown", "x", "a"] ["script"] (defScope (topS 28)) := ⟨rfl, rfl, rfl, by decide +kernel, rfl, by decide +kernel, by decide +kernel⟩
def r14_law (m_law_pool : List Int → Option RV) (m_law_world : MF) (m_condition_of : MF) (m_law_condition : MF) (m_law_same : MF) (m_same_condition : MF) (m_law_pick : MF) (m_law_atoms : MF) (m_law_holds : MF) (m_law_shuffled : MF) (m_is_condition : MF) (m_atoms_where : MF) (m_law_bent : MF) (m_is_world : MF) (m_atoms_of : MF) (m_law_draw : MF) (m_holds : MF) (m_law_is_condition : MF) (m_law_is_integer : MF) : SF :=
  (S.ret (E.c (.bool true)))
def f1_law (m_law_pool : List Int → Option RV) (m_law_world : MF) (m_condition_of : MF) (m_law_condition : MF) (m_law_same : MF) (m_same_condition : MF) (m_law_pick : MF) (m_law_atoms : MF) (m_law_holds : MF) (m_law_shuffled : MF) (m_is_condition : MF) (m_atoms_where : MF) (m_law_bent : MF) (m_is_world : MF) (m_atoms_of : MF) (m_law_draw : MF) (m_holds : MF) (m_law_is_condition : MF) (m_law_is_integer : MF) : SF :=
  (S.seq (S.set 13 (E.un E.gRepr (E.rv 3))) (S.ite (E.or (E.not (E.toB (E.call m_law_same (E.cons (E.call m_is_condition (E.cons (E.v 2) (E.cons (E.v 3) E.nil))) (E.cons (E.call m_law_is_condition (E.cons (E.v 2) (E.cons (E.v 3) (E.cons (E.c (.int 1)) E.nil)))) E.nil))))) (E.toB (E.op gNe (E.rd (E.un E.gRepr (E.rv 3))) (E.rv 13)))) (S.ret (E.c (.bool false))) S.nop))
def r13_law (m_law_pool : List Int → Option RV) (m_law_world : MF) (m_condition_of : MF) (m_law_condition : MF) (m_law_same : MF) (m_same_condition : MF) (m_law_pick : MF) (m_law_atoms : MF) (m_law_holds : MF) (m_law_shuffled : MF) (m_is_condition : MF) (m_atoms_where : MF) (m_law_bent : MF) (m_is_world : MF) (m_atoms_of : MF) (m_law_draw : MF) (m_holds : MF) (m_law_is_condition : MF) (m_law_is_integer : MF) : SF :=
  (S.seq (S.for_ (E.iL (E.op gAdd (E.rv 12) (E.rd (E.lc [11] (E.iR1 (E.cons (E.c (.int 6)) E.nil)) (E.tN 11) E.yes (E.callP 1 m_law_bent (E.cons (E.v 5) E.nil)))))) (E.tN 3) (f1_law m_law_pool m_law_world m_condition_of m_law_condition m_law_same m_same_condition m_law_pick m_law_atoms m_law_holds m_law_shuffled m_is_condition m_atoms_where m_law_bent m_is_world m_atoms_of m_law_draw m_holds m_law_is_condition m_law_is_integer)) (r14_law m_law_pool m_law_world m_condition_of m_law_condition m_law_same m_same_condition m_law_pick m_law_atoms m_law_holds m_law_shuffled m_is_condition m_atoms_where m_law_bent m_is_world m_atoms_of m_law_draw m_holds m_law_is_condition m_law_is_integer))
def r12_law (m_law_pool : List Int → Option RV) (m_law_world : MF) (m_condition_of : MF) (m_law_condition : MF) (m_law_same : MF) (m_same_condition : MF) (m_law_pick : MF) (m_law_atoms : MF) (m_law_holds : MF) (m_law_shuffled : MF) (m_is_condition : MF) (m_atoms_where : MF) (m_law_bent : MF) (m_is_world : MF) (m_atoms_of : MF) (m_law_draw : MF) (m_holds : MF) (m_law_is_condition : MF) (m_law_is_integer : MF) : SF :=
  (S.seq (S.set 12 (E.lst (E.cons (E.v 5) (E.cons (E.v 6) (E.cons (E.un gList (E.rv 5)) (E.cons (E.v 10) (E.cons (E.tup (E.cons (E.c (.str "test")) (E.cons (E.op gIx (E.rv 2) (E.rd (E.c (.int 0)))) E.nil))) (E.cons (E.tup (E.cons (E.c (.str "test")) (E.cons (E.c (.bool true)) E.nil))) (E.cons (E.tup (E.cons (E.c (.str "test")) E.nil)) (E.cons (E.tup (E.cons (E.c (.str "and")) (E.cons (E.v 5) E.nil))) (E.cons (E.tup (E.cons (E.c (.str "or")) (E.cons (E.v 5) (E.cons (E.v 6) (E.cons (E.v 5) E.nil))))) (E.cons (E.tup (E.cons (E.c (.str "yes")) (E.cons (E.c (.int 1)) E.nil))) (E.cons (E.tup (E.cons (E.c (.str "xor")) (E.cons (E.v 5) (E.cons (E.v 6) E.nil)))) (E.cons (E.tup E.nil) (E.cons (E.c .none) (E.cons (E.c (.str "yes")) (E.cons (E.tup (E.cons (E.c (.str "not")) (E.cons (E.c .none) E.nil))) E.nil))))))))))))))))) (r13_law m_law_pool m_law_world m_condition_of m_law_condition m_law_same m_same_condition m_law_pick m_law_atoms m_law_holds m_law_shuffled m_is_condition m_atoms_where m_law_bent m_is_world m_atoms_of m_law_draw m_holds m_law_is_condition m_law_is_integer))
def f2_law (m_law_pool : List Int → Option RV) (m_law_world : MF) (m_condition_of : MF) (m_law_condition : MF) (m_law_same : MF) (m_same_condition : MF) (m_law_pick : MF) (m_law_atoms : MF) (m_law_holds : MF) (m_law_shuffled : MF) (m_is_condition : MF) (m_atoms_where : MF) (m_law_bent : MF) (m_is_world : MF) (m_atoms_of : MF) (m_law_draw : MF) (m_holds : MF) (m_law_is_condition : MF) (m_law_is_integer : MF) : SF :=
  (S.set 10 (E.ite (E.toB (E.op gEq (E.rd (E.op gMod (E.rd (E.un gInt (E.rv 11))) (E.rd (E.c (.int 2))))) (E.rd (E.c (.int 0))))) (E.tup (E.cons (E.c (.str "not")) (E.cons (E.v 10) E.nil))) (E.tup (E.cons (E.c (.str "and")) (E.cons (E.v 10) (E.cons (E.tup (E.cons (E.c (.str "yes")) E.nil)) E.nil))))))
def r11_law (m_law_pool : List Int → Option RV) (m_law_world : MF) (m_condition_of : MF) (m_law_condition : MF) (m_law_same : MF) (m_same_condition : MF) (m_law_pick : MF) (m_law_atoms : MF) (m_law_holds : MF) (m_law_shuffled : MF) (m_is_condition : MF) (m_atoms_where : MF) (m_law_bent : MF) (m_is_world : MF) (m_atoms_of : MF) (m_law_draw : MF) (m_holds : MF) (m_law_is_condition : MF) (m_law_is_integer : MF) : SF :=
  (S.seq (S.for_ (E.iR1 (E.cons (E.callP 1 m_law_pick (E.cons (E.tup (E.cons (E.c (.int 38)) (E.cons (E.c (.int 39)) (E.cons (E.c (.int 40)) E.nil)))) E.nil)) E.nil)) (E.tN 11) (f2_law m_law_pool m_law_world m_condition_of m_law_condition m_law_same m_same_condition m_law_pick m_law_atoms m_law_holds m_law_shuffled m_is_condition m_atoms_where m_law_bent m_is_world m_atoms_of m_law_draw m_holds m_law_is_condition m_law_is_integer)) (r12_law m_law_pool m_law_world m_condition_of m_law_condition m_law_same m_same_condition m_law_pick m_law_atoms m_law_holds m_law_shuffled m_is_condition m_atoms_where m_law_bent m_is_world m_atoms_of m_law_draw m_holds m_law_is_condition m_law_is_integer))
def r10_law (m_law_pool : List Int → Option RV) (m_law_world : MF) (m_condition_of : MF) (m_law_condition : MF) (m_law_same : MF) (m_same_condition : MF) (m_law_pick : MF) (m_law_atoms : MF) (m_law_holds : MF) (m_law_shuffled : MF) (m_is_condition : MF) (m_atoms_where : MF) (m_law_bent : MF) (m_is_world : MF) (m_atoms_of : MF) (m_law_draw : MF) (m_holds : MF) (m_law_is_condition : MF) (m_law_is_integer : MF) : SF :=
  (S.seq (S.set 10 (E.tup (E.cons (E.c (.str "yes")) E.nil))) (r11_law m_law_pool m_law_world m_condition_of m_law_condition m_law_same m_same_condition m_law_pick m_law_atoms m_law_holds m_law_shuffled m_is_condition m_atoms_where m_law_bent m_is_world m_atoms_of m_law_draw m_holds m_law_is_condition m_law_is_integer))
def r9_law (m_law_pool : List Int → Option RV) (m_law_world : MF) (m_condition_of : MF) (m_law_condition : MF) (m_law_same : MF) (m_same_condition : MF) (m_law_pick : MF) (m_law_atoms : MF) (m_law_holds : MF) (m_law_shuffled : MF) (m_is_condition : MF) (m_atoms_where : MF) (m_law_bent : MF) (m_is_world : MF) (m_atoms_of : MF) (m_law_draw : MF) (m_holds : MF) (m_law_is_condition : MF) (m_law_is_integer : MF) : SF :=
  (S.seq (S.ite (E.or (E.not (E.toB (E.call m_is_condition (E.cons (E.v 2) (E.cons (E.v 9) E.nil))))) (E.or (E.toB (E.op gNe (E.rd (E.call m_atoms_where (E.cons (E.v 2) (E.cons (E.v 9) E.nil)))) (E.rv 8))) (E.toB (E.op gNe (E.rv 9) (E.rd (E.call m_condition_of (E.cons (E.v 2) (E.cons (E.op gAdd (E.rv 8) (E.rv 8)) E.nil)))))))) (S.ret (E.c (.bool false))) S.nop) (r10_law m_law_pool m_law_world m_condition_of m_law_condition m_law_same m_same_condition m_law_pick m_law_atoms m_law_holds m_law_shuffled m_is_condition m_atoms_where m_law_bent m_is_world m_atoms_of m_law_draw m_holds m_law_is_condition m_law_is_integer))
def r8_law (m_law_pool : List Int → Option RV) (m_law_world : MF) (m_condition_of : MF) (m_law_condition : MF) (m_law_same : MF) (m_same_condition : MF) (m_law_pick : MF) (m_law_atoms : MF) (m_law_holds : MF) (m_law_shuffled : MF) (m_is_condition : MF) (m_atoms_where : MF) (m_law_bent : MF) (m_is_world : MF) (m_atoms_of : MF) (m_law_draw : MF) (m_holds : MF) (m_law_is_condition : MF) (m_law_is_integer : MF) : SF :=
  (S.seq (S.set 9 (E.call m_condition_of (E.cons (E.v 2) (E.cons (E.un gTuple (E.rd (E.callP 1 m_law_shuffled (E.cons (E.v 8) E.nil)))) E.nil)))) (r9_law m_law_pool m_law_world m_condition_of m_law_condition m_law_same m_same_condition m_law_pick m_law_atoms m_law_holds m_law_shuffled m_is_condition m_atoms_where m_law_bent m_is_world m_atoms_of m_law_draw m_holds m_law_is_condition m_law_is_integer))
def r7_law (m_law_pool : List Int → Option RV) (m_law_world : MF) (m_condition_of : MF) (m_law_condition : MF) (m_law_same : MF) (m_same_condition : MF) (m_law_pick : MF) (m_law_atoms : MF) (m_law_holds : MF) (m_law_shuffled : MF) (m_is_condition : MF) (m_atoms_where : MF) (m_law_bent : MF) (m_is_world : MF) (m_atoms_of : MF) (m_law_draw : MF) (m_holds : MF) (m_law_is_condition : MF) (m_law_is_integer : MF) : SF :=
  (S.seq (S.set 8 (E.lc [15] (E.iL (E.call m_law_atoms (E.cons (E.v 2) E.nil))) (E.tN 15) (E.toB (E.op gEq (E.rd (E.callP 1 m_law_draw (E.cons (E.c (.int 2)) E.nil))) (E.rd (E.c (.int 0))))) (E.v 15))) (r8_law m_law_pool m_law_world m_condition_of m_law_condition m_law_same m_same_condition m_law_pick m_law_atoms m_law_holds m_law_shuffled m_is_condition m_atoms_where m_law_bent m_is_world m_atoms_of m_law_draw m_holds m_law_is_condition m_law_is_integer))
def r6_law (m_law_pool : List Int → Option RV) (m_law_world : MF) (m_condition_of : MF) (m_law_condition : MF) (m_law_same : MF) (m_same_condition : MF) (m_law_pick : MF) (m_law_atoms : MF) (m_law_holds : MF) (m_law_shuffled : MF) (m_is_condition : MF) (m_atoms_where : MF) (m_law_bent : MF) (m_is_world : MF) (m_atoms_of : MF) (m_law_draw : MF) (m_holds : MF) (m_law_is_condition : MF) (m_law_is_integer : MF) : SF :=
  (S.seq (S.ite (E.toB (E.op gNe (E.rd (E.call m_same_condition (E.cons (E.v 2) (E.cons (E.v 5) (E.cons (E.v 6) E.nil))))) (E.rd (E.op gEq (E.rv 7) (E.rd (E.lc [15] (E.iL (E.call m_law_atoms (E.cons (E.v 2) E.nil))) (E.tN 15) (E.toB (E.call m_law_holds (E.cons (E.v 6) (E.cons (E.v 15) E.nil)))) (E.v 15))))))) (S.ret (E.c (.bool false))) S.nop) (r7_law m_law_pool m_law_world m_condition_of m_law_condition m_law_same m_same_condition m_law_pick m_law_atoms m_law_holds m_law_shuffled m_is_condition m_atoms_where m_law_bent m_is_world m_atoms_of m_law_draw m_holds m_law_is_condition m_law_is_integer))
def r5_law (m_law_pool : List Int → Option RV) (m_law_world : MF) (m_condition_of : MF) (m_law_condition : MF) (m_law_same : MF) (m_same_condition : MF) (m_law_pick : MF) (m_law_atoms : MF) (m_law_holds : MF) (m_law_shuffled : MF) (m_is_condition : MF) (m_atoms_where : MF) (m_law_bent : MF) (m_is_world : MF) (m_atoms_of : MF) (m_law_draw : MF) (m_holds : MF) (m_law_is_condition : MF) (m_law_is_integer : MF) : SF :=
  (S.seq (S.ite (E.not (E.toB (E.call m_law_same (E.cons (E.lst (E.cons (E.call m_atoms_of (E.cons (E.v 2) E.nil)) (E.cons (E.call m_atoms_where (E.cons (E.v 2) (E.cons (E.v 5) E.nil))) (E.cons (E.lc [15] (E.iL (E.call m_atoms_of (E.cons (E.v 2) E.nil))) (E.tN 15) E.yes (E.call m_holds (E.cons (E.v 5) (E.cons (E.v 15) E.nil)))) E.nil)))) (E.cons (E.lst (E.cons (E.call m_law_atoms (E.cons (E.v 2) E.nil)) (E.cons (E.v 7) (E.cons (E.lc [15] (E.iL (E.call m_law_atoms (E.cons (E.v 2) E.nil))) (E.tN 15) E.yes (E.call m_law_holds (E.cons (E.v 5) (E.cons (E.v 15) E.nil)))) E.nil)))) E.nil))))) (S.ret (E.c (.bool false))) S.nop) (r6_law m_law_pool m_law_world m_condition_of m_law_condition m_law_same m_same_condition m_law_pick m_law_atoms m_law_holds m_law_shuffled m_is_condition m_atoms_where m_law_bent m_is_world m_atoms_of m_law_draw m_holds m_law_is_condition m_law_is_integer))
def r4_law (m_law_pool : List Int → Option RV) (m_law_world : MF) (m_condition_of : MF) (m_law_condition : MF) (m_law_same : MF) (m_same_condition : MF) (m_law_pick : MF) (m_law_atoms : MF) (m_law_holds : MF) (m_law_shuffled : MF) (m_is_condition : MF) (m_atoms_where : MF) (m_law_bent : MF) (m_is_world : MF) (m_atoms_of : MF) (m_law_draw : MF) (m_holds : MF) (m_law_is_condition : MF) (m_law_is_integer : MF) : SF :=
  (S.seq (S.set 7 (E.lc [15] (E.iL (E.call m_law_atoms (E.cons (E.v 2) E.nil))) (E.tN 15) (E.toB (E.call m_law_holds (E.cons (E.v 5) (E.cons (E.v 15) E.nil)))) (E.v 15))) (r5_law m_law_pool m_law_world m_condition_of m_law_condition m_law_same m_same_condition m_law_pick m_law_atoms m_law_holds m_law_shuffled m_is_condition m_atoms_where m_law_bent m_is_world m_atoms_of m_law_draw m_holds m_law_is_condition m_law_is_integer))
def r3_law (m_law_pool : List Int → Option RV) (m_law_world : MF) (m_condition_of : MF) (m_law_condition : MF) (m_law_same : MF) (m_same_condition : MF) (m_law_pick : MF) (m_law_atoms : MF) (m_law_holds : MF) (m_law_shuffled : MF) (m_is_condition : MF) (m_atoms_where : MF) (m_law_bent : MF) (m_is_world : MF) (m_atoms_of : MF) (m_law_draw : MF) (m_holds : MF) (m_law_is_condition : MF) (m_law_is_integer : MF) : SF :=
  (S.seq (S.tup (E.tT [5, 6]) (E.tup (E.cons (E.callP 1 m_law_condition (E.cons (E.v 2) (E.cons (E.c (.int 4)) E.nil))) (E.cons (E.callP 1 m_law_condition (E.cons (E.v 2) (E.cons (E.c (.int 4)) E.nil))) E.nil)))) (r4_law m_law_pool m_law_world m_condition_of m_law_condition m_law_same m_same_condition m_law_pick m_law_atoms m_law_holds m_law_shuffled m_is_condition m_atoms_where m_law_bent m_is_world m_atoms_of m_law_draw m_holds m_law_is_condition m_law_is_integer))
def f3_law (m_law_pool : List Int → Option RV) (m_law_world : MF) (m_condition_of : MF) (m_law_condition : MF) (m_law_same : MF) (m_same_condition : MF) (m_law_pick : MF) (m_law_atoms : MF) (m_law_holds : MF) (m_law_shuffled : MF) (m_is_condition : MF) (m_atoms_where : MF) (m_law_bent : MF) (m_is_world : MF) (m_atoms_of : MF) (m_law_draw : MF) (m_holds : MF) (m_law_is_condition : MF) (m_law_is_integer : MF) : SF :=
  (S.seq (S.set 4 (E.ofB (E.and (E.toB (E.isi "tuple" (E.rv 3))) (E.and (E.toB (E.op gEq (E.rd (E.un gLen (E.rv 3))) (E.rd (E.c (.int 2))))) (E.toB (E.op gEq (E.rd (E.un gLen (E.rd (E.lc [14] (E.iT (E.v 3)) (E.tN 14) (E.or (E.not (E.toB (E.call m_law_is_integer (E.cons (E.v 14) E.nil)))) (E.or (E.toB (E.op gLt (E.rv 14) (E.rd (E.c (.int 1))))) (E.toB (E.op gGt (E.rv 14) (E.rd (E.c (.int 3))))))) (E.v 14))))) (E.rd (E.c (.int 0))))))))) (S.ite (E.not (E.toB (E.call m_law_same (E.cons (E.call m_is_world (E.cons (E.v 3) E.nil)) (E.cons (E.v 4) E.nil))))) (S.ret (E.c (.bool false))) S.nop))
def r2_law (m_law_pool : List Int → Option RV) (m_law_world : MF) (m_condition_of : MF) (m_law_condition : MF) (m_law_same : MF) (m_same_condition : MF) (m_law_pick : MF) (m_law_atoms : MF) (m_law_holds : MF) (m_law_shuffled : MF) (m_is_condition : MF) (m_atoms_where : MF) (m_law_bent : MF) (m_is_world : MF) (m_atoms_of : MF) (m_law_draw : MF) (m_holds : MF) (m_law_is_condition : MF) (m_law_is_integer : MF) : SF :=
  (S.seq (S.for_ (E.iT (E.tup (E.cons (E.v 2) (E.cons (E.tup (E.cons (E.c (.int 0)) (E.cons (E.c (.int 1)) E.nil))) (E.cons (E.tup (E.cons (E.c (.int 4)) (E.cons (E.c (.int 1)) E.nil))) (E.cons (E.tup (E.cons (E.c (.int 1)) (E.cons (E.c (.int 4)) E.nil))) (E.cons (E.lst (E.cons (E.c (.int 1)) (E.cons (E.c (.int 1)) E.nil))) (E.cons (E.tup (E.cons (E.c (.int 1)) E.nil)) (E.cons (E.tup (E.cons (E.c (.int 1)) (E.cons (E.c (.int 1)) (E.cons (E.c (.int 1)) E.nil)))) (E.cons (E.tup (E.cons (E.c (.bool true)) (E.cons (E.c (.int 1)) E.nil))) (E.cons (E.c .none) (E.cons (E.tup (E.cons (E.c (.int 3)) (E.cons (E.c (.int 3)) E.nil))) E.nil)))))))))))) (E.tN 3) (f3_law m_law_pool m_law_world m_condition_of m_law_condition m_law_same m_same_condition m_law_pick m_law_atoms m_law_holds m_law_shuffled m_is_condition m_atoms_where m_law_bent m_is_world m_atoms_of m_law_draw m_holds m_law_is_condition m_law_is_integer)) (r3_law m_law_pool m_law_world m_condition_of m_law_condition m_law_same m_same_condition m_law_pick m_law_atoms m_law_holds m_law_shuffled m_is_condition m_atoms_where m_law_bent m_is_world m_atoms_of m_law_draw m_holds m_law_is_condition m_law_is_integer))
def b_law (m_law_pool : List Int → Option RV) (m_law_world : MF) (m_condition_of : MF) (m_law_condition : MF) (m_law_same : MF) (m_same_condition : MF) (m_law_pick : MF) (m_law_atoms : MF) (m_law_holds : MF) (m_law_shuffled : MF) (m_is_condition : MF) (m_atoms_where : MF) (m_law_bent : MF) (m_is_world : MF) (m_atoms_of : MF) (m_law_draw : MF) (m_holds : MF) (m_law_is_condition : MF) (m_law_is_integer : MF) : SF :=
  (S.seq (S.setPool 1 (E.callS 0 m_law_pool)) (S.seq (S.set 2 (E.callP 1 m_law_world (E.cons (E.c (.int 6)) E.nil))) (r2_law m_law_pool m_law_world m_condition_of m_law_condition m_law_same m_same_condition m_law_pick m_law_atoms m_law_holds m_law_shuffled m_is_condition m_atoms_where m_law_bent m_is_world m_atoms_of m_law_draw m_holds m_law_is_condition m_law_is_integer)))
theorem ds_law {m_law_pool : List Int → Option RV} {m_law_world : MF} {m_condition_of : MF} {m_law_condition : MF} {m_law_same : MF} {m_same_condition : MF} {m_law_pick : MF} {m_law_atoms : MF} {m_law_holds : MF} {m_law_shuffled : MF} {m_is_condition : MF} {m_atoms_where : MF} {m_law_bent : MF} {m_is_world : MF} {m_atoms_of : MF} {m_law_draw : MF} {m_holds : MF} {m_law_is_condition : MF} {m_law_is_integer : MF} {k : Nat} (bi : Bi mg) (cs : Cs mg) (C_law_pool : CalS P w K mg base k "_law_pool" m_law_pool) (C_law_world : Cal P w K mg base k "_law_world" true 2 m_law_world) (C_condition_of : Cal P w K mg base k "condition_of" false 2 m_condition_of) (C_law_condition : Cal P w K mg base k "_law_condition" true 3 m_law_condition) (C_law_same : Cal P w K mg base k "_law_same" false 2 m_law_same) (C_same_condition : Cal P w K mg base k "same_condition" false 3 m_same_condition) (C_law_pick : Cal P w K mg base k "_law_pick" true 2 m_law_pick) (C_law_atoms : Cal P w K mg base k "_law_atoms" false 1 m_law_atoms) (C_law_holds : Cal P w K mg base k "_law_holds" false 2 m_law_holds) (C_law_shuffled : Cal P w K mg base k "_law_shuffled" true 2 m_law_shuffled) (C_is_condition : Cal P w K mg base k "is_condition" false 2 m_is_condition) (C_atoms_where : Cal P w K mg base k "atoms_where" false 2 m_atoms_where) (C_law_bent : Cal P w K mg base k "_law_bent" true 2 m_law_bent) (C_is_world : Cal P w K mg base k "is_world" false 1 m_is_world) (C_atoms_of : Cal P w K mg base k "atoms_of" false 1 m_atoms_of) (C_law_draw : Cal P w K mg base k "_law_draw" true 2 m_law_draw) (C_holds : Cal P w K mg base k "holds" false 2 m_holds) (C_law_is_condition : Cal P w K mg base k "_law_is_condition" false 3 m_law_is_condition) (C_law_is_integer : Cal P w K mg base k "_law_is_integer" false 1 m_law_is_integer) {f : Addr} {qual : Str} {cdv : Value} {s : Shared} {H : Hp} {E : XK} (hr : Room k (PySem.callerA.deeper (PyProof.Rows.envOfC qual (defScope (topS 28)) s.heap.objs.size f cdv))) :
    DSs0 (cxOf CX0 P w K mg base ["script", "pool", "world", "value", "good", "b", "c", "rows", "some", "made", "deep", "k", "tried", "shown", "x", "a"] qual (defScope (topS 28)) f cdv PySem.callerA [] s H E).nox (defBody (topS 28)) (b_law m_law_pool m_law_world m_condition_of m_law_condition m_law_same m_same_condition m_law_pick m_law_atoms m_law_holds m_law_shuffled m_is_condition m_atoms_where m_law_bent m_is_world m_atoms_of m_law_draw m_holds m_law_is_condition m_law_is_integer) := by
  have nd := sc_law.nd
  have hu := hr.units
  have hg : (PySem.callerA.deeper (PyProof.Rows.envOfC qual (defScope (topS 28)) s.heap.objs.size f cdv)).guards = some [] := rfl
  exact (dss0_cons (ds0_setPool (i := 1) nd (de_callS C_law_pool hr (by rfl) (pv 0))) (dss_cons (ds_set (i := 2) nd (de_callP C_law_world hr (by rfl) (pv 1) (da_cons de_int da_nil) (len_cons len_nil))) (dss_cons (ds_for (ts := []) PassesOwn.never rfl (di_t (de_tup (da_cons (de_v (pv 2)) (da_cons (de_tup (da_cons de_int (da_cons de_int da_nil))) (da_cons (de_tup (da_cons de_int (da_cons de_int da_nil))) (da_cons (de_tup (da_cons de_int (da_cons de_int da_nil))) (da_cons (de_lst (da_cons de_int (da_cons de_int da_nil))) (da_cons (de_tup (da_cons de_int da_nil)) (da_cons (de_tup (da_cons de_int (da_cons de_int (da_cons de_int da_nil)))) (da_cons (de_tup (da_cons de_bl (da_cons de_int da_nil))) (da_cons de_non (da_cons (de_tup (da_cons de_int (da_cons de_int da_nil))) da_nil)))))))))))) (fg_n (pg_name (i := 3) nd rfl (by first | exact .inl rfl | exact .inr rfl))) (dss_cons (ds_set (i := 4) nd (de_and (de_b (de_isi (x := "x") (by rfl) bi.m_isinstance (pe_bltn (by rfl) bi.m_tuple bt_tuple rfl) (dr_v (pv 3)))) (de_and (de_b (de_cmp (op_eq_d hu) (dr_of (de_b1 cl_len (by rfl) bi.m_len bt_len (dr_v (pv 3)))) (dr_of de_int) (nomark _))) (de_and1 (de_b (de_cmp (op_eq_d hu) (dr_of (de_b1 cl_len (by rfl) bi.m_len bt_len (dr_of (de_lc (own := [("x", 14)]) rfl nd (di_t (de_v (pv 3))) (blkOk_by (N := ["script", "pool", "world", "value", "good", "b", "c", "rows", "some", "made", "deep", "k", "tried", "shown", "x", "a"]) (sc := defScope (topS 28)) (own := [("x", 14)]) (by decide +kernel)) (fun _ _ _ _ _ => (dg_n (pg_name (i := 14) nd rfl (by first | exact .inl rfl | exact .inr rfl)))) (fun _ _ _ _ _ => (dts_one (PW.pt (dw_or (db_not (db_of (de_call C_law_is_integer hr (by rfl) (da_cons (de_v (pv 14)) da_nil) (len_cons len_nil)))) (dw_or (db_cmp op_lt_d (dr_v (pv 14)) (dr_of de_int) (nomark _)) (dw_or1 (db_cmp op_gt_d (dr_v (pv 14)) (dr_of de_int) (nomark _)))))))) (fun _ _ _ _ _ => (de_v (pv 14))))))) (dr_of de_int) (nomark _))))))) (dss_one (ds_ite (db_not (db_of (de_call C_law_same hr (by rfl) (da_cons (de_call C_is_world hr (by rfl) (da_cons (de_v (pv 3)) da_nil) (len_cons len_nil)) (da_cons (de_v (pv 4)) da_nil)) (len_cons (len_cons len_nil))))) (dss_one (ds_ret de_bl)) dss_nil)))) (dss_cons (ds_tup (is := [5, 6]) (de_tup (da_cons (de_callP C_law_condition hr (by rfl) (pv 1) (da_cons (de_v (pv 2)) (da_cons de_int da_nil)) (len_cons (len_cons len_nil))) (da_cons (de_callP C_law_condition hr (by rfl) (pv 1) (da_cons (de_v (pv 2)) (da_cons de_int da_nil)) (len_cons (len_cons len_nil))) da_nil))) (pg_tup rfl (pgs_cons (pg_name (i := 5) nd rfl (by first | exact .inl rfl | exact .inr rfl)) (pgs_cons (pg_name (i := 6) nd rfl (by first | exact .inl rfl | exact .inr rfl)) pgs_nil)))) (dss_cons (ds_lcS (i := 7) (own := [("a", 15)]) rfl rfl nd (di_l (de_call C_law_atoms hr (by rfl) (da_cons (de_v (pv 2)) da_nil) (len_cons len_nil))) (blkOk_by (N := ["script", "pool", "world", "value", "good", "b", "c", "rows", "some", "made", "deep", "k", "tried", "shown", "x", "a"]) (sc := defScope (topS 28)) (own := [("a", 15)]) (by decide +kernel)) (fun _ _ _ _ _ => (dg_n (pg_name (i := 15) nd rfl (by first | exact .inl rfl | exact .inr rfl)))) (fun _ _ _ _ _ => (dts_one (db_of (de_call C_law_holds hr (by rfl) (da_cons (de_v (pv 5)) (da_cons (de_v (pv 15)) da_nil)) (len_cons (len_cons len_nil)))))) (fun _ _ _ _ _ => (de_v (pv 15)))) (dss_cons (ds_ite (db_not (db_of (de_call C_law_same hr (by rfl) (da_cons (de_lst (da_cons (de_call C_atoms_of hr (by rfl) (da_cons (de_v (pv 2)) da_nil) (len_cons len_nil)) (da_cons (de_call C_atoms_where hr (by rfl) (da_cons (de_v (pv 2)) (da_cons (de_v (pv 5)) da_nil)) (len_cons (len_cons len_nil))) (da_cons (de_lc (own := [("a", 15)]) rfl nd (di_l (de_call C_atoms_of hr (by rfl) (da_cons (de_v (pv 2)) da_nil) (len_cons len_nil))) (blkOk_by (N := ["script", "pool", "world", "value", "good", "b", "c", "rows", "some", "made", "deep", "k", "tried", "shown", "x", "a"]) (sc := defScope (topS 28)) (own := [("a", 15)]) (by decide +kernel)) (fun _ _ _ _ _ => (dg_n (pg_name (i := 15) nd rfl (by first | exact .inl rfl | exact .inr rfl)))) (fun _ _ _ _ _ => dts_yes) (fun _ _ _ _ _ => (de_call C_holds hr (by rfl) (da_cons (de_v (pv 5)) (da_cons (de_v (pv 15)) da_nil)) (len_cons (len_cons len_nil))))) da_nil)))) (da_cons (de_lst (da_cons (de_call C_law_atoms hr (by rfl) (da_cons (de_v (pv 2)) da_nil) (len_cons len_nil)) (da_cons (de_v (pv 7)) (da_cons (de_lc (own := [("a", 15)]) rfl nd (di_l (de_call C_law_atoms hr (by rfl) (da_cons (de_v (pv 2)) da_nil) (len_cons len_nil))) (blkOk_by (N := ["script", "pool", "world", "value", "good", "b", "c", "rows", "some", "made", "deep", "k", "tried", "shown", "x", "a"]) (sc := defScope (topS 28)) (own := [("a", 15)]) (by decide +kernel)) (fun _ _ _ _ _ => (dg_n (pg_name (i := 15) nd rfl (by first | exact .inl rfl | exact .inr rfl)))) (fun _ _ _ _ _ => dts_yes) (fun _ _ _ _ _ => (de_call C_law_holds hr (by rfl) (da_cons (de_v (pv 5)) (da_cons (de_v (pv 15)) da_nil)) (len_cons (len_cons len_nil))))) da_nil)))) da_nil)) (len_cons (len_cons len_nil))))) (dss_one (ds_ret de_bl)) dss_nil) (dss_cons (ds_ite (db_cmp (op_ne_d hu) (dr_of (de_call C_same_condition hr (by rfl) (da_cons (de_v (pv 2)) (da_cons (de_v (pv 5)) (da_cons (de_v (pv 6)) da_nil))) (len_cons (len_cons (len_cons len_nil))))) (dr_of (de_cmp (op_eq_d hu) (dr_v (pv 7)) (dr_of (de_lc (own := [("a", 15)]) rfl nd (di_l (de_call C_law_atoms hr (by rfl) (da_cons (de_v (pv 2)) da_nil) (len_cons len_nil))) (blkOk_by (N := ["script", "pool", "world", "value", "good", "b", "c", "rows", "some", "made", "deep", "k", "tried", "shown", "x", "a"]) (sc := defScope (topS 28)) (own := [("a", 15)]) (by decide +kernel)) (fun _ _ _ _ _ => (dg_n (pg_name (i := 15) nd rfl (by first | exact .inl rfl | exact .inr rfl)))) (fun _ _ _ _ _ => (dts_one (db_of (de_call C_law_holds hr (by rfl) (da_cons (de_v (pv 6)) (da_cons (de_v (pv 15)) da_nil)) (len_cons (len_cons len_nil)))))) (fun _ _ _ _ _ => (de_v (pv 15))))) (nomark _))) (nomark _)) (dss_one (ds_ret de_bl)) dss_nil) (dss_cons (ds_lcS (i := 8) (own := [("a", 15)]) rfl rfl nd (di_l (de_call C_law_atoms hr (by rfl) (da_cons (de_v (pv 2)) da_nil) (len_cons len_nil))) (blkOk_by (N := ["script", "pool", "world", "value", "good", "b", "c", "rows", "some", "made", "deep", "k", "tried", "shown", "x", "a"]) (sc := defScope (topS 28)) (own := [("a", 15)]) (by decide +kernel)) (fun _ _ _ _ _ => (dg_n (pg_name (i := 15) nd rfl (by first | exact .inl rfl | exact .inr rfl)))) (fun _ _ _ _ _ => (dts_one (db_cmp (op_eq_d hu) (dr_of (de_callP C_law_draw hr (by rfl) (pv 1) (da_cons de_int da_nil) (len_cons len_nil))) (dr_of de_int) (nomark _)))) (fun _ _ _ _ _ => (de_v (pv 15)))) (dss_cons (ds_set (i := 9) nd (de_call C_condition_of hr (by rfl) (da_cons (de_v (pv 2)) (da_cons (de_t1 cl_tuple (by rfl) bi.m_tuple bt_tuple (dr_of (de_callP C_law_shuffled hr (by rfl) (pv 1) (da_cons (de_v (pv 8)) da_nil) (len_cons len_nil)))) da_nil)) (len_cons (len_cons len_nil)))) (dss_cons (ds_ite (PW.pt (dw_or (db_not (db_of (de_call C_is_condition hr (by rfl) (da_cons (de_v (pv 2)) (da_cons (de_v (pv 9)) da_nil)) (len_cons (len_cons len_nil))))) (dw_or (db_cmp (op_ne_d hu) (dr_of (de_call C_atoms_where hr (by rfl) (da_cons (de_v (pv 2)) (da_cons (de_v (pv 9)) da_nil)) (len_cons (len_cons len_nil)))) (dr_v (pv 8)) (nomark _)) (dw_or1 (db_cmp (op_ne_d hu) (dr_v (pv 9)) (dr_of (de_call C_condition_of hr (by rfl) (da_cons (de_v (pv 2)) (da_cons (de_op op_add_d (dr_v (pv 8)) (dr_v (pv 8))) da_nil)) (len_cons (len_cons len_nil)))) (nomark _)))))) (dss_one (ds_ret de_bl)) dss_nil) (dss_cons (ds_set (i := 10) nd (de_tup (da_cons de_str da_nil))) (dss_cons (ds_for (ts := []) PassesOwn.never rfl (di_r1 (by rfl) bi.m_range (da_cons (de_callP C_law_pick hr (by rfl) (pv 1) (da_cons (de_tup (da_cons de_int (da_cons de_int (da_cons de_int da_nil)))) da_nil) (len_cons len_nil)) da_nil)) (fg_n (pg_name (i := 11) nd rfl (by first | exact .inl rfl | exact .inr rfl))) (dss_one (ds_set (i := 10) nd (de_ite (db_cmp (op_eq_d hu) (dr_of (de_op op_mod_d (dr_of (de_t1 cl_int (by rfl) bi.m_int bt_int (dr_v (pv 11)))) (dr_of de_int))) (dr_of de_int) (nomark _)) (de_tup (da_cons de_str (da_cons (de_v (pv 10)) da_nil))) (de_tup (da_cons de_str (da_cons (de_v (pv 10)) (da_cons (de_tup (da_cons de_str da_nil)) da_nil)))))))) (dss_cons (ds_set (i := 12) nd (de_lst (da_cons (de_v (pv 5)) (da_cons (de_v (pv 6)) (da_cons (de_t1 cl_list (by rfl) bi.m_list bt_list (dr_v (pv 5))) (da_cons (de_v (pv 10)) (da_cons (de_tup (da_cons de_str (da_cons (de_ix (dr_v (pv 2)) (dr_of de_int)) da_nil))) (da_cons (de_tup (da_cons de_str (da_cons de_bl da_nil))) (da_cons (de_tup (da_cons de_str da_nil)) (da_cons (de_tup (da_cons de_str (da_cons (de_v (pv 5)) da_nil))) (da_cons (de_tup (da_cons de_str (da_cons (de_v (pv 5)) (da_cons (de_v (pv 6)) (da_cons (de_v (pv 5)) da_nil))))) (da_cons (de_tup (da_cons de_str (da_cons de_int da_nil))) (da_cons (de_tup (da_cons de_str (da_cons (de_v (pv 5)) (da_cons (de_v (pv 6)) da_nil)))) (da_cons (de_tup da_nil) (da_cons de_non (da_cons de_str (da_cons (de_tup (da_cons de_str (da_cons de_non da_nil))) da_nil))))))))))))))))) (dss_cons (ds_for (ts := []) PassesOwn.never rfl (di_l (de_op op_add_d (dr_v (pv 12)) (dr_of (de_lc (own := [("k", 11)]) rfl nd (di_r1 (by rfl) bi.m_range (da_cons de_int da_nil)) (blkOk_by (N := ["script", "pool", "world", "value", "good", "b", "c", "rows", "some", "made", "deep", "k", "tried", "shown", "x", "a"]) (sc := defScope (topS 28)) (own := [("k", 11)]) (by decide +kernel)) (fun _ _ _ _ _ => (dg_n (pg_name (i := 11) nd rfl (by first | exact .inl rfl | exact .inr rfl)))) (fun _ _ _ _ _ => dts_yes) (fun _ _ _ _ _ => (de_callP C_law_bent hr (by rfl) (pv 1) (da_cons (de_v (pv 5)) da_nil) (len_cons len_nil))))))) (fg_n (pg_name (i := 3) nd rfl (by first | exact .inl rfl | exact .inr rfl))) (dss_cons (ds_set (i := 13) nd (de_b1 (cl_repr hg hu) (by rfl) bi.m_repr bt_repr (dr_v (pv 3)))) (dss_one (ds_ite (PW.pt (dw_or (db_not (db_of (de_call C_law_same hr (by rfl) (da_cons (de_call C_is_condition hr (by rfl) (da_cons (de_v (pv 2)) (da_cons (de_v (pv 3)) da_nil)) (len_cons (len_cons len_nil))) (da_cons (de_call C_law_is_condition hr (by rfl) (da_cons (de_v (pv 2)) (da_cons (de_v (pv 3)) (da_cons de_int da_nil))) (len_cons (len_cons (len_cons len_nil)))) da_nil)) (len_cons (len_cons len_nil))))) (dw_or1 (db_cmp (op_ne_d hu) (dr_of (de_b1 (cl_repr hg hu) (by rfl) bi.m_repr bt_repr (dr_v (pv 3)))) (dr_v (pv 13)) (nomark _))))) (dss_one (ds_ret de_bl)) dss_nil)))) (dss_one (ds_ret de_bl))))))))))))))))

end
end K1

/-! deedsagain k01: what the defs answer. -/
namespace K1
open PySem PySem.Spec L2 Dg
set_option maxHeartbeats 0
open Ru (isI isB isS isTu isLi isT_int isT_bool isT_str isT_list isT_tuple)
/-! ### is_whole, name_of -/
def m_is_whole : MF := runB 1 false 1 b_is_whole
theorem e_is_whole {x : D} (h : x.plain = true) : m_is_whole [x] none = some (.d (.bool (isI x)), none) := by
  simp [m_is_whole, b_is_whole, -Option.bind_some, -Option.map_some, Ru.c_e, Ru.v_e, Ru.v_d, Ru.rv_e, Ru.rv_d, Ru.rv_l, Ru.nil_e, Ru.cons_e, Ru.cons_d, Ru.cons_l, Ru.cons_2, Ru.tup_e, Ru.tup_d, Ru.lst_e, Ru.lst_d, Ru.rd_e, Ru.rd_d, Ru.rd_l, Ru.op_e, Ru.op_1, Ru.op_2, Ru.op_3, Ru.un_e, Ru.un_1, Ru.isi_e, Ru.ite_e, Ru.ite_t, Ru.ite_f, Ru.ofB_e, Ru.ofB_1, Ru.toB_e, Ru.toB_1, Ru.and_e, Ru.and_t, Ru.and_f, Ru.or_e, Ru.or_t, Ru.or_f, Ru.not_e, Ru.not_1, Ru.px_e, Ru.px_1, Ru.px_2, Ru.oN_e, Ru.oS_e, Ru.oS_1, Ru.sl_e, Ru.sl_1, Ru.sl_2, Ru.sl_3, Ru.sl3_e, Ru.tl_1, Ru.tl_2, Ru.tl_3, Ru.tl_4, Ru.call_e, Ru.call_1, Ru.call_2, Ru.callP_e, Ru.callP_1, Ru.callP_2, Ru.chain_e, Ru.ch_1, Ru.ch_2, Ru.ch_t, Ru.ch_f, Ru.iL_e, Ru.iL_d, Ru.iL_l, Ru.iT_e, Ru.iT_d, Ru.iR1_e, Ru.iR1_1, Ru.lR_e, Ru.lR_1, Ru.tN_e, Ru.tT_2, Ru.yes_e, Ru.lc_e, Ru.lc_1, Ru.lc_2, Ru.seq_e, Ru.seq_nx, Ru.seq_rt, Ru.nop_e, Ru.set_e, Ru.set_d, Ru.set_l, Ru.setL_e, Ru.setL_l, Ru.ret_e, Ru.ret_1, Ru.retV_e, Ru.retV_l, Ru.retV_d, Ru.frz_e, Ru.frz_l, Ru.sIte_e, Ru.sIte_t, Ru.sIte_f, Ru.for_e, Ru.for_1, Ru.for_nil, Ru.for_cons, Ru.fK_1, Ru.fK_nx, Ru.fK_rt, Ru.append_e, Ru.append_1, Ru.append_d, Ru.append_l, Ru.extend_e, Ru.extend_1, Ru.extend_l, Ru.pop_e, Ru.pop_1, Ru.setIx_e, Ru.setIx_d, Ru.setP_e, Ru.setP_d, Ru.setP_1, Ru.par_e, Ru.par_1, Ru.stup_e, Ru.stup_d, Ru.wK_t, Ru.wK_f, Ru.wK_nx, Ru.wK_rt, Ru.runB_f, Ru.runB_t, Ru.rb_f, Ru.rb_t, Ru.rb_n, Ru.lt_i, Ru.le_i, Ru.gt_i, Ru.ge_i, Ru.sub_i, Ru.add_i, Ru.add_s, Ru.add_t, Ru.add_l, Ru.mul_i, Ru.div_i, Ru.mod_i, Ru.neg_i, Ru.is_n, Ru.isNot_n, Ru.non_n, Ru.non_i, Ru.non_b, Ru.non_s, Ru.non_l, Ru.non_t, Ru.len_l, Ru.len_t, Ru.len_s, Ru.list_l, Ru.list_t, Ru.tuple_l, Ru.tuple_t, Ru.int_i, Ru.gsl_l, Ru.gsl_t, Ru.gsl_s, Ru.eq_s, Ru.eq_i, Ru.eq_b, Ru.ne_b, Ru.ne_s, Ru.ne_i, Ru.in_2, Ru.atI_0, Ru.atI_1, Ru.atI_2, Ru.ix_t, Ru.ix_l, Ru.cut_1, E.wipeS, Ru.bind_some, Option.bind_none, Ru.map_some, Option.map_none, List.getElem?_cons_zero, List.getElem?_cons_succ, List.set_cons_zero, List.set_cons_succ, List.length_cons, List.length_nil, List.map_cons, List.map_nil, List.replicate, List.cons_append, List.nil_append, isT_int h, isT_bool h]
  cases x <;> simp [-Option.bind_some, -Option.map_some, Ru.c_e, Ru.v_e, Ru.v_d, Ru.rv_e, Ru.rv_d, Ru.rv_l, Ru.nil_e, Ru.cons_e, Ru.cons_d, Ru.cons_l, Ru.cons_2, Ru.tup_e, Ru.tup_d, Ru.lst_e, Ru.lst_d, Ru.rd_e, Ru.rd_d, Ru.rd_l, Ru.op_e, Ru.op_1, Ru.op_2, Ru.op_3, Ru.un_e, Ru.un_1, Ru.isi_e, Ru.ite_e, Ru.ite_t, Ru.ite_f, Ru.ofB_e, Ru.ofB_1, Ru.toB_e, Ru.toB_1, Ru.and_e, Ru.and_t, Ru.and_f, Ru.or_e, Ru.or_t, Ru.or_f, Ru.not_e, Ru.not_1, Ru.px_e, Ru.px_1, Ru.px_2, Ru.oN_e, Ru.oS_e, Ru.oS_1, Ru.sl_e, Ru.sl_1, Ru.sl_2, Ru.sl_3, Ru.sl3_e, Ru.tl_1, Ru.tl_2, Ru.tl_3, Ru.tl_4, Ru.call_e, Ru.call_1, Ru.call_2, Ru.callP_e, Ru.callP_1, Ru.callP_2, Ru.chain_e, Ru.ch_1, Ru.ch_2, Ru.ch_t, Ru.ch_f, Ru.iL_e, Ru.iL_d, Ru.iL_l, Ru.iT_e, Ru.iT_d, Ru.iR1_e, Ru.iR1_1, Ru.lR_e, Ru.lR_1, Ru.tN_e, Ru.tT_2, Ru.yes_e, Ru.lc_e, Ru.lc_1, Ru.lc_2, Ru.seq_e, Ru.seq_nx, Ru.seq_rt, Ru.nop_e, Ru.set_e, Ru.set_d, Ru.set_l, Ru.setL_e, Ru.setL_l, Ru.ret_e, Ru.ret_1, Ru.retV_e, Ru.retV_l, Ru.retV_d, Ru.frz_e, Ru.frz_l, Ru.sIte_e, Ru.sIte_t, Ru.sIte_f, Ru.for_e, Ru.for_1, Ru.for_nil, Ru.for_cons, Ru.fK_1, Ru.fK_nx, Ru.fK_rt, Ru.append_e, Ru.append_1, Ru.append_d, Ru.append_l, Ru.extend_e, Ru.extend_1, Ru.extend_l, Ru.pop_e, Ru.pop_1, Ru.setIx_e, Ru.setIx_d, Ru.setP_e, Ru.setP_d, Ru.setP_1, Ru.par_e, Ru.par_1, Ru.stup_e, Ru.stup_d, Ru.wK_t, Ru.wK_f, Ru.wK_nx, Ru.wK_rt, Ru.runB_f, Ru.runB_t, Ru.rb_f, Ru.rb_t, Ru.rb_n, Ru.lt_i, Ru.le_i, Ru.gt_i, Ru.ge_i, Ru.sub_i, Ru.add_i, Ru.add_s, Ru.add_t, Ru.add_l, Ru.mul_i, Ru.div_i, Ru.mod_i, Ru.neg_i, Ru.is_n, Ru.isNot_n, Ru.non_n, Ru.non_i, Ru.non_b, Ru.non_s, Ru.non_l, Ru.non_t, Ru.len_l, Ru.len_t, Ru.len_s, Ru.list_l, Ru.list_t, Ru.tuple_l, Ru.tuple_t, Ru.int_i, Ru.gsl_l, Ru.gsl_t, Ru.gsl_s, Ru.eq_s, Ru.eq_i, Ru.eq_b, Ru.ne_b, Ru.ne_s, Ru.ne_i, Ru.in_2, Ru.atI_0, Ru.atI_1, Ru.atI_2, Ru.ix_t, Ru.ix_l, Ru.cut_1, E.wipeS, Ru.bind_some, Option.bind_none, Ru.map_some, Option.map_none, List.getElem?_cons_zero, List.getElem?_cons_succ, List.set_cons_zero, List.set_cons_succ, List.length_cons, List.length_nil, List.map_cons, List.map_nil, List.replicate, List.cons_append, List.nil_append, isI, isB, isT_bool h]
def m_law_is_integer : MF := runB 1 false 1 b_law_is_integer
theorem e_law_is_integer {x : D} (h : x.plain = true) : m_law_is_integer [x] none = some (.d (.bool (isI x)), none) := by
  simp [m_law_is_integer, b_law_is_integer, -Option.bind_some, -Option.map_some, Ru.c_e, Ru.v_e, Ru.v_d, Ru.rv_e, Ru.rv_d, Ru.rv_l, Ru.nil_e, Ru.cons_e, Ru.cons_d, Ru.cons_l, Ru.cons_2, Ru.tup_e, Ru.tup_d, Ru.lst_e, Ru.lst_d, Ru.rd_e, Ru.rd_d, Ru.rd_l, Ru.op_e, Ru.op_1, Ru.op_2, Ru.op_3, Ru.un_e, Ru.un_1, Ru.isi_e, Ru.ite_e, Ru.ite_t, Ru.ite_f, Ru.ofB_e, Ru.ofB_1, Ru.toB_e, Ru.toB_1, Ru.and_e, Ru.and_t, Ru.and_f, Ru.or_e, Ru.or_t, Ru.or_f, Ru.not_e, Ru.not_1, Ru.px_e, Ru.px_1, Ru.px_2, Ru.oN_e, Ru.oS_e, Ru.oS_1, Ru.sl_e, Ru.sl_1, Ru.sl_2, Ru.sl_3, Ru.sl3_e, Ru.tl_1, Ru.tl_2, Ru.tl_3, Ru.tl_4, Ru.call_e, Ru.call_1, Ru.call_2, Ru.callP_e, Ru.callP_1, Ru.callP_2, Ru.chain_e, Ru.ch_1, Ru.ch_2, Ru.ch_t, Ru.ch_f, Ru.iL_e, Ru.iL_d, Ru.iL_l, Ru.iT_e, Ru.iT_d, Ru.iR1_e, Ru.iR1_1, Ru.lR_e, Ru.lR_1, Ru.tN_e, Ru.tT_2, Ru.yes_e, Ru.lc_e, Ru.lc_1, Ru.lc_2, Ru.seq_e, Ru.seq_nx, Ru.seq_rt, Ru.nop_e, Ru.set_e, Ru.set_d, Ru.set_l, Ru.setL_e, Ru.setL_l, Ru.ret_e, Ru.ret_1, Ru.retV_e, Ru.retV_l, Ru.retV_d, Ru.frz_e, Ru.frz_l, Ru.sIte_e, Ru.sIte_t, Ru.sIte_f, Ru.for_e, Ru.for_1, Ru.for_nil, Ru.for_cons, Ru.fK_1, Ru.fK_nx, Ru.fK_rt, Ru.append_e, Ru.append_1, Ru.append_d, Ru.append_l, Ru.extend_e, Ru.extend_1, Ru.extend_l, Ru.pop_e, Ru.pop_1, Ru.setIx_e, Ru.setIx_d, Ru.setP_e, Ru.setP_d, Ru.setP_1, Ru.par_e, Ru.par_1, Ru.stup_e, Ru.stup_d, Ru.wK_t, Ru.wK_f, Ru.wK_nx, Ru.wK_rt, Ru.runB_f, Ru.runB_t, Ru.rb_f, Ru.rb_t, Ru.rb_n, Ru.lt_i, Ru.le_i, Ru.gt_i, Ru.ge_i, Ru.sub_i, Ru.add_i, Ru.add_s, Ru.add_t, Ru.add_l, Ru.mul_i, Ru.div_i, Ru.mod_i, Ru.neg_i, Ru.is_n, Ru.isNot_n, Ru.non_n, Ru.non_i, Ru.non_b, Ru.non_s, Ru.non_l, Ru.non_t, Ru.len_l, Ru.len_t, Ru.len_s, Ru.list_l, Ru.list_t, Ru.tuple_l, Ru.tuple_t, Ru.int_i, Ru.gsl_l, Ru.gsl_t, Ru.gsl_s, Ru.eq_s, Ru.eq_i, Ru.eq_b, Ru.ne_b, Ru.ne_s, Ru.ne_i, Ru.in_2, Ru.atI_0, Ru.atI_1, Ru.atI_2, Ru.ix_t, Ru.ix_l, Ru.cut_1, E.wipeS, Ru.bind_some, Option.bind_none, Ru.map_some, Option.map_none, List.getElem?_cons_zero, List.getElem?_cons_succ, List.set_cons_zero, List.set_cons_succ, List.length_cons, List.length_nil, List.map_cons, List.map_nil, List.replicate, List.cons_append, List.nil_append, isT_int h, isT_bool h]
  cases x <;> simp [-Option.bind_some, -Option.map_some, Ru.c_e, Ru.v_e, Ru.v_d, Ru.rv_e, Ru.rv_d, Ru.rv_l, Ru.nil_e, Ru.cons_e, Ru.cons_d, Ru.cons_l, Ru.cons_2, Ru.tup_e, Ru.tup_d, Ru.lst_e, Ru.lst_d, Ru.rd_e, Ru.rd_d, Ru.rd_l, Ru.op_e, Ru.op_1, Ru.op_2, Ru.op_3, Ru.un_e, Ru.un_1, Ru.isi_e, Ru.ite_e, Ru.ite_t, Ru.ite_f, Ru.ofB_e, Ru.ofB_1, Ru.toB_e, Ru.toB_1, Ru.and_e, Ru.and_t, Ru.and_f, Ru.or_e, Ru.or_t, Ru.or_f, Ru.not_e, Ru.not_1, Ru.px_e, Ru.px_1, Ru.px_2, Ru.oN_e, Ru.oS_e, Ru.oS_1, Ru.sl_e, Ru.sl_1, Ru.sl_2, Ru.sl_3, Ru.sl3_e, Ru.tl_1, Ru.tl_2, Ru.tl_3, Ru.tl_4, Ru.call_e, Ru.call_1, Ru.call_2, Ru.callP_e, Ru.callP_1, Ru.callP_2, Ru.chain_e, Ru.ch_1, Ru.ch_2, Ru.ch_t, Ru.ch_f, Ru.iL_e, Ru.iL_d, Ru.iL_l, Ru.iT_e, Ru.iT_d, Ru.iR1_e, Ru.iR1_1, Ru.lR_e, Ru.lR_1, Ru.tN_e, Ru.tT_2, Ru.yes_e, Ru.lc_e, Ru.lc_1, Ru.lc_2, Ru.seq_e, Ru.seq_nx, Ru.seq_rt, Ru.nop_e, Ru.set_e, Ru.set_d, Ru.set_l, Ru.setL_e, Ru.setL_l, Ru.ret_e, Ru.ret_1, Ru.retV_e, Ru.retV_l, Ru.retV_d, Ru.frz_e, Ru.frz_l, Ru.sIte_e, Ru.sIte_t, Ru.sIte_f, Ru.for_e, Ru.for_1, Ru.for_nil, Ru.for_cons, Ru.fK_1, Ru.fK_nx, Ru.fK_rt, Ru.append_e, Ru.append_1, Ru.append_d, Ru.append_l, Ru.extend_e, Ru.extend_1, Ru.extend_l, Ru.pop_e, Ru.pop_1, Ru.setIx_e, Ru.setIx_d, Ru.setP_e, Ru.setP_d, Ru.setP_1, Ru.par_e, Ru.par_1, Ru.stup_e, Ru.stup_d, Ru.wK_t, Ru.wK_f, Ru.wK_nx, Ru.wK_rt, Ru.runB_f, Ru.runB_t, Ru.rb_f, Ru.rb_t, Ru.rb_n, Ru.lt_i, Ru.le_i, Ru.gt_i, Ru.ge_i, Ru.sub_i, Ru.add_i, Ru.add_s, Ru.add_t, Ru.add_l, Ru.mul_i, Ru.div_i, Ru.mod_i, Ru.neg_i, Ru.is_n, Ru.isNot_n, Ru.non_n, Ru.non_i, Ru.non_b, Ru.non_s, Ru.non_l, Ru.non_t, Ru.len_l, Ru.len_t, Ru.len_s, Ru.list_l, Ru.list_t, Ru.tuple_l, Ru.tuple_t, Ru.int_i, Ru.gsl_l, Ru.gsl_t, Ru.gsl_s, Ru.eq_s, Ru.eq_i, Ru.eq_b, Ru.ne_b, Ru.ne_s, Ru.ne_i, Ru.in_2, Ru.atI_0, Ru.atI_1, Ru.atI_2, Ru.ix_t, Ru.ix_l, Ru.cut_1, E.wipeS, Ru.bind_some, Option.bind_none, Ru.map_some, Option.map_none, List.getElem?_cons_zero, List.getElem?_cons_succ, List.set_cons_zero, List.set_cons_succ, List.length_cons, List.length_nil, List.map_cons, List.map_nil, List.replicate, List.cons_append, List.nil_append, isI, isB, isT_bool h]
def nameD : D → Str
  | .tuple (.str s :: _) => s
  | _ => ""
def m_name_of : MF := runB 1 false 1 b_name_of
theorem e_name_of {x : D} (h : x.plain = true) : m_name_of [x] none = some (.d (.str (nameD x)), none) := by
  cases x with
  | tuple xs =>
    cases xs with
    | nil => simp [m_name_of, b_name_of, -Option.bind_some, -Option.map_some, Ru.c_e, Ru.v_e, Ru.v_d, Ru.rv_e, Ru.rv_d, Ru.rv_l, Ru.nil_e, Ru.cons_e, Ru.cons_d, Ru.cons_l, Ru.cons_2, Ru.tup_e, Ru.tup_d, Ru.lst_e, Ru.lst_d, Ru.rd_e, Ru.rd_d, Ru.rd_l, Ru.op_e, Ru.op_1, Ru.op_2, Ru.op_3, Ru.un_e, Ru.un_1, Ru.isi_e, Ru.ite_e, Ru.ite_t, Ru.ite_f, Ru.ofB_e, Ru.ofB_1, Ru.toB_e, Ru.toB_1, Ru.and_e, Ru.and_t, Ru.and_f, Ru.or_e, Ru.or_t, Ru.or_f, Ru.not_e, Ru.not_1, Ru.px_e, Ru.px_1, Ru.px_2, Ru.oN_e, Ru.oS_e, Ru.oS_1, Ru.sl_e, Ru.sl_1, Ru.sl_2, Ru.sl_3, Ru.sl3_e, Ru.tl_1, Ru.tl_2, Ru.tl_3, Ru.tl_4, Ru.call_e, Ru.call_1, Ru.call_2, Ru.callP_e, Ru.callP_1, Ru.callP_2, Ru.chain_e, Ru.ch_1, Ru.ch_2, Ru.ch_t, Ru.ch_f, Ru.iL_e, Ru.iL_d, Ru.iL_l, Ru.iT_e, Ru.iT_d, Ru.iR1_e, Ru.iR1_1, Ru.lR_e, Ru.lR_1, Ru.tN_e, Ru.tT_2, Ru.yes_e, Ru.lc_e, Ru.lc_1, Ru.lc_2, Ru.seq_e, Ru.seq_nx, Ru.seq_rt, Ru.nop_e, Ru.set_e, Ru.set_d, Ru.set_l, Ru.setL_e, Ru.setL_l, Ru.ret_e, Ru.ret_1, Ru.retV_e, Ru.retV_l, Ru.retV_d, Ru.frz_e, Ru.frz_l, Ru.sIte_e, Ru.sIte_t, Ru.sIte_f, Ru.for_e, Ru.for_1, Ru.for_nil, Ru.for_cons, Ru.fK_1, Ru.fK_nx, Ru.fK_rt, Ru.append_e, Ru.append_1, Ru.append_d, Ru.append_l, Ru.extend_e, Ru.extend_1, Ru.extend_l, Ru.pop_e, Ru.pop_1, Ru.setIx_e, Ru.setIx_d, Ru.setP_e, Ru.setP_d, Ru.setP_1, Ru.par_e, Ru.par_1, Ru.stup_e, Ru.stup_d, Ru.wK_t, Ru.wK_f, Ru.wK_nx, Ru.wK_rt, Ru.runB_f, Ru.runB_t, Ru.rb_f, Ru.rb_t, Ru.rb_n, Ru.lt_i, Ru.le_i, Ru.gt_i, Ru.ge_i, Ru.sub_i, Ru.add_i, Ru.add_s, Ru.add_t, Ru.add_l, Ru.mul_i, Ru.div_i, Ru.mod_i, Ru.neg_i, Ru.is_n, Ru.isNot_n, Ru.non_n, Ru.non_i, Ru.non_b, Ru.non_s, Ru.non_l, Ru.non_t, Ru.len_l, Ru.len_t, Ru.len_s, Ru.list_l, Ru.list_t, Ru.tuple_l, Ru.tuple_t, Ru.int_i, Ru.gsl_l, Ru.gsl_t, Ru.gsl_s, Ru.eq_s, Ru.eq_i, Ru.eq_b, Ru.ne_b, Ru.ne_s, Ru.ne_i, Ru.in_2, Ru.atI_0, Ru.atI_1, Ru.atI_2, Ru.ix_t, Ru.ix_l, Ru.cut_1, E.wipeS, Ru.bind_some, Option.bind_none, Ru.map_some, Option.map_none, List.getElem?_cons_zero, List.getElem?_cons_succ, List.set_cons_zero, List.set_cons_succ, List.length_cons, List.length_nil, List.map_cons, List.map_nil, List.replicate, List.cons_append, List.nil_append, isT_tuple h, isTu, nameD]
    | cons y ys =>
      have hy : y.plain = true := by
        simp only [PyData.plain, PyData.plainAll, Bool.and_eq_true] at h
        exact h.1
      simp [m_name_of, b_name_of, -Option.bind_some, -Option.map_some, Ru.c_e, Ru.v_e, Ru.v_d, Ru.rv_e, Ru.rv_d, Ru.rv_l, Ru.nil_e, Ru.cons_e, Ru.cons_d, Ru.cons_l, Ru.cons_2, Ru.tup_e, Ru.tup_d, Ru.lst_e, Ru.lst_d, Ru.rd_e, Ru.rd_d, Ru.rd_l, Ru.op_e, Ru.op_1, Ru.op_2, Ru.op_3, Ru.un_e, Ru.un_1, Ru.isi_e, Ru.ite_e, Ru.ite_t, Ru.ite_f, Ru.ofB_e, Ru.ofB_1, Ru.toB_e, Ru.toB_1, Ru.and_e, Ru.and_t, Ru.and_f, Ru.or_e, Ru.or_t, Ru.or_f, Ru.not_e, Ru.not_1, Ru.px_e, Ru.px_1, Ru.px_2, Ru.oN_e, Ru.oS_e, Ru.oS_1, Ru.sl_e, Ru.sl_1, Ru.sl_2, Ru.sl_3, Ru.sl3_e, Ru.tl_1, Ru.tl_2, Ru.tl_3, Ru.tl_4, Ru.call_e, Ru.call_1, Ru.call_2, Ru.callP_e, Ru.callP_1, Ru.callP_2, Ru.chain_e, Ru.ch_1, Ru.ch_2, Ru.ch_t, Ru.ch_f, Ru.iL_e, Ru.iL_d, Ru.iL_l, Ru.iT_e, Ru.iT_d, Ru.iR1_e, Ru.iR1_1, Ru.lR_e, Ru.lR_1, Ru.tN_e, Ru.tT_2, Ru.yes_e, Ru.lc_e, Ru.lc_1, Ru.lc_2, Ru.seq_e, Ru.seq_nx, Ru.seq_rt, Ru.nop_e, Ru.set_e, Ru.set_d, Ru.set_l, Ru.setL_e, Ru.setL_l, Ru.ret_e, Ru.ret_1, Ru.retV_e, Ru.retV_l, Ru.retV_d, Ru.frz_e, Ru.frz_l, Ru.sIte_e, Ru.sIte_t, Ru.sIte_f, Ru.for_e, Ru.for_1, Ru.for_nil, Ru.for_cons, Ru.fK_1, Ru.fK_nx, Ru.fK_rt, Ru.append_e, Ru.append_1, Ru.append_d, Ru.append_l, Ru.extend_e, Ru.extend_1, Ru.extend_l, Ru.pop_e, Ru.pop_1, Ru.setIx_e, Ru.setIx_d, Ru.setP_e, Ru.setP_d, Ru.setP_1, Ru.par_e, Ru.par_1, Ru.stup_e, Ru.stup_d, Ru.wK_t, Ru.wK_f, Ru.wK_nx, Ru.wK_rt, Ru.runB_f, Ru.runB_t, Ru.rb_f, Ru.rb_t, Ru.rb_n, Ru.lt_i, Ru.le_i, Ru.gt_i, Ru.ge_i, Ru.sub_i, Ru.add_i, Ru.add_s, Ru.add_t, Ru.add_l, Ru.mul_i, Ru.div_i, Ru.mod_i, Ru.neg_i, Ru.is_n, Ru.isNot_n, Ru.non_n, Ru.non_i, Ru.non_b, Ru.non_s, Ru.non_l, Ru.non_t, Ru.len_l, Ru.len_t, Ru.len_s, Ru.list_l, Ru.list_t, Ru.tuple_l, Ru.tuple_t, Ru.int_i, Ru.gsl_l, Ru.gsl_t, Ru.gsl_s, Ru.eq_s, Ru.eq_i, Ru.eq_b, Ru.ne_b, Ru.ne_s, Ru.ne_i, Ru.in_2, Ru.atI_0, Ru.atI_1, Ru.atI_2, Ru.ix_t, Ru.ix_l, Ru.cut_1, E.wipeS, Ru.bind_some, Option.bind_none, Ru.map_some, Option.map_none, List.getElem?_cons_zero, List.getElem?_cons_succ, List.set_cons_zero, List.set_cons_succ, List.length_cons, List.length_nil, List.map_cons, List.map_nil, List.replicate, List.cons_append, List.nil_append, isT_tuple h, isTu, isT_str hy]
      cases y <;> simp [isS, nameD, -Option.bind_some, -Option.map_some, Ru.c_e, Ru.v_e, Ru.v_d, Ru.rv_e, Ru.rv_d, Ru.rv_l, Ru.nil_e, Ru.cons_e, Ru.cons_d, Ru.cons_l, Ru.cons_2, Ru.tup_e, Ru.tup_d, Ru.lst_e, Ru.lst_d, Ru.rd_e, Ru.rd_d, Ru.rd_l, Ru.op_e, Ru.op_1, Ru.op_2, Ru.op_3, Ru.un_e, Ru.un_1, Ru.isi_e, Ru.ite_e, Ru.ite_t, Ru.ite_f, Ru.ofB_e, Ru.ofB_1, Ru.toB_e, Ru.toB_1, Ru.and_e, Ru.and_t, Ru.and_f, Ru.or_e, Ru.or_t, Ru.or_f, Ru.not_e, Ru.not_1, Ru.px_e, Ru.px_1, Ru.px_2, Ru.oN_e, Ru.oS_e, Ru.oS_1, Ru.sl_e, Ru.sl_1, Ru.sl_2, Ru.sl_3, Ru.sl3_e, Ru.tl_1, Ru.tl_2, Ru.tl_3, Ru.tl_4, Ru.call_e, Ru.call_1, Ru.call_2, Ru.callP_e, Ru.callP_1, Ru.callP_2, Ru.chain_e, Ru.ch_1, Ru.ch_2, Ru.ch_t, Ru.ch_f, Ru.iL_e, Ru.iL_d, Ru.iL_l, Ru.iT_e, Ru.iT_d, Ru.iR1_e, Ru.iR1_1, Ru.lR_e, Ru.lR_1, Ru.tN_e, Ru.tT_2, Ru.yes_e, Ru.lc_e, Ru.lc_1, Ru.lc_2, Ru.seq_e, Ru.seq_nx, Ru.seq_rt, Ru.nop_e, Ru.set_e, Ru.set_d, Ru.set_l, Ru.setL_e, Ru.setL_l, Ru.ret_e, Ru.ret_1, Ru.retV_e, Ru.retV_l, Ru.retV_d, Ru.frz_e, Ru.frz_l, Ru.sIte_e, Ru.sIte_t, Ru.sIte_f, Ru.for_e, Ru.for_1, Ru.for_nil, Ru.for_cons, Ru.fK_1, Ru.fK_nx, Ru.fK_rt, Ru.append_e, Ru.append_1, Ru.append_d, Ru.append_l, Ru.extend_e, Ru.extend_1, Ru.extend_l, Ru.pop_e, Ru.pop_1, Ru.setIx_e, Ru.setIx_d, Ru.setP_e, Ru.setP_d, Ru.setP_1, Ru.par_e, Ru.par_1, Ru.stup_e, Ru.stup_d, Ru.wK_t, Ru.wK_f, Ru.wK_nx, Ru.wK_rt, Ru.runB_f, Ru.runB_t, Ru.rb_f, Ru.rb_t, Ru.rb_n, Ru.lt_i, Ru.le_i, Ru.gt_i, Ru.ge_i, Ru.sub_i, Ru.add_i, Ru.add_s, Ru.add_t, Ru.add_l, Ru.mul_i, Ru.div_i, Ru.mod_i, Ru.neg_i, Ru.is_n, Ru.isNot_n, Ru.non_n, Ru.non_i, Ru.non_b, Ru.non_s, Ru.non_l, Ru.non_t, Ru.len_l, Ru.len_t, Ru.len_s, Ru.list_l, Ru.list_t, Ru.tuple_l, Ru.tuple_t, Ru.int_i, Ru.gsl_l, Ru.gsl_t, Ru.gsl_s, Ru.eq_s, Ru.eq_i, Ru.eq_b, Ru.ne_b, Ru.ne_s, Ru.ne_i, Ru.in_2, Ru.atI_0, Ru.atI_1, Ru.atI_2, Ru.ix_t, Ru.ix_l, Ru.cut_1, E.wipeS, Ru.bind_some, Option.bind_none, Ru.map_some, Option.map_none, List.getElem?_cons_zero, List.getElem?_cons_succ, List.set_cons_zero, List.set_cons_succ, List.length_cons, List.length_nil, List.map_cons, List.map_nil, List.replicate, List.cons_append, List.nil_append]
  | _ =>
    simp [m_name_of, b_name_of, -Option.bind_some, -Option.map_some, Ru.c_e, Ru.v_e, Ru.v_d, Ru.rv_e, Ru.rv_d, Ru.rv_l, Ru.nil_e, Ru.cons_e, Ru.cons_d, Ru.cons_l, Ru.cons_2, Ru.tup_e, Ru.tup_d, Ru.lst_e, Ru.lst_d, Ru.rd_e, Ru.rd_d, Ru.rd_l, Ru.op_e, Ru.op_1, Ru.op_2, Ru.op_3, Ru.un_e, Ru.un_1, Ru.isi_e, Ru.ite_e, Ru.ite_t, Ru.ite_f, Ru.ofB_e, Ru.ofB_1, Ru.toB_e, Ru.toB_1, Ru.and_e, Ru.and_t, Ru.and_f, Ru.or_e, Ru.or_t, Ru.or_f, Ru.not_e, Ru.not_1, Ru.px_e, Ru.px_1, Ru.px_2, Ru.oN_e, Ru.oS_e, Ru.oS_1, Ru.sl_e, Ru.sl_1, Ru.sl_2, Ru.sl_3, Ru.sl3_e, Ru.tl_1, Ru.tl_2, Ru.tl_3, Ru.tl_4, Ru.call_e, Ru.call_1, Ru.call_2, Ru.callP_e, Ru.callP_1, Ru.callP_2, Ru.chain_e, Ru.ch_1, Ru.ch_2, Ru.ch_t, Ru.ch_f, Ru.iL_e, Ru.iL_d, Ru.iL_l, Ru.iT_e, Ru.iT_d, Ru.iR1_e, Ru.iR1_1, Ru.lR_e, Ru.lR_1, Ru.tN_e, Ru.tT_2, Ru.yes_e, Ru.lc_e, Ru.lc_1, Ru.lc_2, Ru.seq_e, Ru.seq_nx, Ru.seq_rt, Ru.nop_e, Ru.set_e, Ru.set_d, Ru.set_l, Ru.setL_e, Ru.setL_l, Ru.ret_e, Ru.ret_1, Ru.retV_e, Ru.retV_l, Ru.retV_d, Ru.frz_e, Ru.frz_l, Ru.sIte_e, Ru.sIte_t, Ru.sIte_f, Ru.for_e, Ru.for_1, Ru.for_nil, Ru.for_cons, Ru.fK_1, Ru.fK_nx, Ru.fK_rt, Ru.append_e, Ru.append_1, Ru.append_d, Ru.append_l, Ru.extend_e, Ru.extend_1, Ru.extend_l, Ru.pop_e, Ru.pop_1, Ru.setIx_e, Ru.setIx_d, Ru.setP_e, Ru.setP_d, Ru.setP_1, Ru.par_e, Ru.par_1, Ru.stup_e, Ru.stup_d, Ru.wK_t, Ru.wK_f, Ru.wK_nx, Ru.wK_rt, Ru.runB_f, Ru.runB_t, Ru.rb_f, Ru.rb_t, Ru.rb_n, Ru.lt_i, Ru.le_i, Ru.gt_i, Ru.ge_i, Ru.sub_i, Ru.add_i, Ru.add_s, Ru.add_t, Ru.add_l, Ru.mul_i, Ru.div_i, Ru.mod_i, Ru.neg_i, Ru.is_n, Ru.isNot_n, Ru.non_n, Ru.non_i, Ru.non_b, Ru.non_s, Ru.non_l, Ru.non_t, Ru.len_l, Ru.len_t, Ru.len_s, Ru.list_l, Ru.list_t, Ru.tuple_l, Ru.tuple_t, Ru.int_i, Ru.gsl_l, Ru.gsl_t, Ru.gsl_s, Ru.eq_s, Ru.eq_i, Ru.eq_b, Ru.ne_b, Ru.ne_s, Ru.ne_i, Ru.in_2, Ru.atI_0, Ru.atI_1, Ru.atI_2, Ru.ix_t, Ru.ix_l, Ru.cut_1, E.wipeS, Ru.bind_some, Option.bind_none, Ru.map_some, Option.map_none, List.getElem?_cons_zero, List.getElem?_cons_succ, List.set_cons_zero, List.set_cons_succ, List.length_cons, List.length_nil, List.map_cons, List.map_nil, List.replicate, List.cons_append, List.nil_append, isT_tuple h, isTu, nameD]
theorem ns_00 : (("no" : Str) == ("no" : Str)) = true := by decide +kernel
theorem ns_01 : (("no" : Str) == ("yes" : Str)) = false := by decide +kernel
theorem ns_02 : (("no" : Str) == ("test" : Str)) = false := by decide +kernel
theorem ns_03 : (("no" : Str) == ("not" : Str)) = false := by decide +kernel
theorem ns_04 : (("no" : Str) == ("and" : Str)) = false := by decide +kernel
theorem ns_05 : (("no" : Str) == ("or" : Str)) = false := by decide +kernel
theorem ns_06 : (("no" : Str) == ("" : Str)) = false := by decide +kernel
theorem ns_10 : (("yes" : Str) == ("no" : Str)) = false := by decide +kernel
theorem ns_11 : (("yes" : Str) == ("yes" : Str)) = true := by decide +kernel
theorem ns_12 : (("yes" : Str) == ("test" : Str)) = false := by decide +kernel
theorem ns_13 : (("yes" : Str) == ("not" : Str)) = false := by decide +kernel
theorem ns_14 : (("yes" : Str) == ("and" : Str)) = false := by decide +kernel
theorem ns_15 : (("yes" : Str) == ("or" : Str)) = false := by decide +kernel
theorem ns_16 : (("yes" : Str) == ("" : Str)) = false := by decide +kernel
theorem ns_20 : (("test" : Str) == ("no" : Str)) = false := by decide +kernel
theorem ns_21 : (("test" : Str) == ("yes" : Str)) = false := by decide +kernel
theorem ns_22 : (("test" : Str) == ("test" : Str)) = true := by decide +kernel
theorem ns_23 : (("test" : Str) == ("not" : Str)) = false := by decide +kernel
theorem ns_24 : (("test" : Str) == ("and" : Str)) = false := by decide +kernel
theorem ns_25 : (("test" : Str) == ("or" : Str)) = false := by decide +kernel
theorem ns_26 : (("test" : Str) == ("" : Str)) = false := by decide +kernel
theorem ns_30 : (("not" : Str) == ("no" : Str)) = false := by decide +kernel
theorem ns_31 : (("not" : Str) == ("yes" : Str)) = false := by decide +kernel
theorem ns_32 : (("not" : Str) == ("test" : Str)) = false := by decide +kernel
theorem ns_33 : (("not" : Str) == ("not" : Str)) = true := by decide +kernel
theorem ns_34 : (("not" : Str) == ("and" : Str)) = false := by decide +kernel
theorem ns_35 : (("not" : Str) == ("or" : Str)) = false := by decide +kernel
theorem ns_36 : (("not" : Str) == ("" : Str)) = false := by decide +kernel
theorem ns_40 : (("and" : Str) == ("no" : Str)) = false := by decide +kernel
theorem ns_41 : (("and" : Str) == ("yes" : Str)) = false := by decide +kernel
theorem ns_42 : (("and" : Str) == ("test" : Str)) = false := by decide +kernel
theorem ns_43 : (("and" : Str) == ("not" : Str)) = false := by decide +kernel
theorem ns_44 : (("and" : Str) == ("and" : Str)) = true := by decide +kernel
theorem ns_45 : (("and" : Str) == ("or" : Str)) = false := by decide +kernel
theorem ns_46 : (("and" : Str) == ("" : Str)) = false := by decide +kernel
theorem ns_50 : (("or" : Str) == ("no" : Str)) = false := by decide +kernel
theorem ns_51 : (("or" : Str) == ("yes" : Str)) = false := by decide +kernel
theorem ns_52 : (("or" : Str) == ("test" : Str)) = false := by decide +kernel
theorem ns_53 : (("or" : Str) == ("not" : Str)) = false := by decide +kernel
theorem ns_54 : (("or" : Str) == ("and" : Str)) = false := by decide +kernel
theorem ns_55 : (("or" : Str) == ("or" : Str)) = true := by decide +kernel
theorem ns_56 : (("or" : Str) == ("" : Str)) = false := by decide +kernel
theorem ns_60 : (("" : Str) == ("no" : Str)) = false := by decide +kernel
theorem ns_61 : (("" : Str) == ("yes" : Str)) = false := by decide +kernel
theorem ns_62 : (("" : Str) == ("test" : Str)) = false := by decide +kernel
theorem ns_63 : (("" : Str) == ("not" : Str)) = false := by decide +kernel
theorem ns_64 : (("" : Str) == ("and" : Str)) = false := by decide +kernel
theorem ns_65 : (("" : Str) == ("or" : Str)) = false := by decide +kernel
theorem ns_66 : (("" : Str) == ("" : Str)) = true := by decide +kernel
/-! ### inner_conditions -/
def innerN (d : Int) (s : Str) (xs : List D) : Option (List D) :=
  if (s == "no" || s == "yes") && xs.length == 0 then some []
  else if s == "test" && xs.length == 1 then (match xs with
    | [.int i] => if 0 ≤ i ∧ i < d then some [] else none
    | _ => none)
  else if s == "not" && xs.length == 1 then some xs
  else if (s == "and" || s == "or") && xs.length == 2 then some xs
  else none
def innerD (d : Int) : D → Option (List D)
  | .tuple (.str s :: xs) => innerN d s xs
  | _ => none
def rvO : Option (List D) → RV
  | some l => .l l
  | none => .d .none
abbrev W (d t : Int) : D := .tuple [.int d, .int t]
def m_inner_conditions : MF := runB 3 false 2 (b_inner_conditions m_name_of m_is_whole)
theorem nameCases (s : Str) : s = "no" ∨ s = "yes" ∨ s = "test" ∨ s = "not" ∨ s = "and" ∨ s = "or" ∨
    ((s == "no") = false ∧ (s == "yes") = false ∧ (s == "test") = false ∧ (s == "not") = false ∧ (s == "and") = false ∧ (s == "or") = false ∧
     (("no" : Str) == s) = false ∧ (("yes" : Str) == s) = false ∧ (("and" : Str) == s) = false ∧ (("or" : Str) == s) = false) := by
  by_cases h1 : s = "no"; · exact .inl h1
  by_cases h2 : s = "yes"; · exact .inr (.inl h2)
  by_cases h3 : s = "test"; · exact .inr (.inr (.inl h3))
  by_cases h4 : s = "not"; · exact .inr (.inr (.inr (.inl h4)))
  by_cases h5 : s = "and"; · exact .inr (.inr (.inr (.inr (.inl h5))))
  by_cases h6 : s = "or"; · exact .inr (.inr (.inr (.inr (.inr (.inl h6)))))
  refine .inr (.inr (.inr (.inr (.inr (.inr ⟨?_, ?_, ?_, ?_, ?_, ?_, ?_, ?_, ?_, ?_⟩))))) <;> first | exact beq_false_of_ne ‹_› | exact beq_false_of_ne (Ne.symm ‹_›)
theorem plain3 {s : Str} {xs : List D} (h : (PyData.tuple (.str s :: xs)).plain = true) : ∀ x ∈ xs, x.plain = true := by
  have h' : PyData.plainAll xs = true := by
    simp only [PyData.plain, PyData.plainAll, Bool.and_eq_true] at h
    exact h.2
  clear h
  induction xs with
  | nil => intro x hx; cases hx
  | cons y ys ih =>
    simp only [PyData.plainAll, Bool.and_eq_true] at h'
    intro x hx
    rcases List.mem_cons.mp hx with rfl | z
    · exact h'.1
    · exact ih h'.2 x z
theorem e_inner_conditions {d t : Int} {x : D} (h : x.plain = true) : m_inner_conditions [W d t, x] none = some (rvO (innerD d x), none) := by
  by_cases hs : ∃ s xs, x = .tuple (.str s :: xs)
  · obtain ⟨s, xs, rfl⟩ := hs
    have hn := e_name_of h
    simp only [nameD] at hn
    have hp := plain3 h
    match xs, hp with
    | [], _ =>
      rcases nameCases s with rfl | rfl | rfl | rfl | rfl | rfl | ⟨a1, a2, a3, a4, a5, a6, a7, a8, a9, a10⟩ <;>
        simp [m_inner_conditions, b_inner_conditions, -Option.bind_some, -Option.map_some, Ru.c_e, Ru.v_e, Ru.v_d, Ru.rv_e, Ru.rv_d, Ru.rv_l, Ru.nil_e, Ru.cons_e, Ru.cons_d, Ru.cons_l, Ru.cons_2, Ru.tup_e, Ru.tup_d, Ru.lst_e, Ru.lst_d, Ru.rd_e, Ru.rd_d, Ru.rd_l, Ru.op_e, Ru.op_1, Ru.op_2, Ru.op_3, Ru.un_e, Ru.un_1, Ru.isi_e, Ru.ite_e, Ru.ite_t, Ru.ite_f, Ru.ofB_e, Ru.ofB_1, Ru.toB_e, Ru.toB_1, Ru.and_e, Ru.and_t, Ru.and_f, Ru.or_e, Ru.or_t, Ru.or_f, Ru.not_e, Ru.not_1, Ru.px_e, Ru.px_1, Ru.px_2, Ru.oN_e, Ru.oS_e, Ru.oS_1, Ru.sl_e, Ru.sl_1, Ru.sl_2, Ru.sl_3, Ru.sl3_e, Ru.tl_1, Ru.tl_2, Ru.tl_3, Ru.tl_4, Ru.call_e, Ru.call_1, Ru.call_2, Ru.callP_e, Ru.callP_1, Ru.callP_2, Ru.chain_e, Ru.ch_1, Ru.ch_2, Ru.ch_t, Ru.ch_f, Ru.iL_e, Ru.iL_d, Ru.iL_l, Ru.iT_e, Ru.iT_d, Ru.iR1_e, Ru.iR1_1, Ru.lR_e, Ru.lR_1, Ru.tN_e, Ru.tT_2, Ru.yes_e, Ru.lc_e, Ru.lc_1, Ru.lc_2, Ru.seq_e, Ru.seq_nx, Ru.seq_rt, Ru.nop_e, Ru.set_e, Ru.set_d, Ru.set_l, Ru.setL_e, Ru.setL_l, Ru.ret_e, Ru.ret_1, Ru.retV_e, Ru.retV_l, Ru.retV_d, Ru.frz_e, Ru.frz_l, Ru.sIte_e, Ru.sIte_t, Ru.sIte_f, Ru.for_e, Ru.for_1, Ru.for_nil, Ru.for_cons, Ru.fK_1, Ru.fK_nx, Ru.fK_rt, Ru.append_e, Ru.append_1, Ru.append_d, Ru.append_l, Ru.extend_e, Ru.extend_1, Ru.extend_l, Ru.pop_e, Ru.pop_1, Ru.setIx_e, Ru.setIx_d, Ru.setP_e, Ru.setP_d, Ru.setP_1, Ru.par_e, Ru.par_1, Ru.stup_e, Ru.stup_d, Ru.wK_t, Ru.wK_f, Ru.wK_nx, Ru.wK_rt, Ru.runB_f, Ru.runB_t, Ru.rb_f, Ru.rb_t, Ru.rb_n, Ru.lt_i, Ru.le_i, Ru.gt_i, Ru.ge_i, Ru.sub_i, Ru.add_i, Ru.add_s, Ru.add_t, Ru.add_l, Ru.mul_i, Ru.div_i, Ru.mod_i, Ru.neg_i, Ru.is_n, Ru.isNot_n, Ru.non_n, Ru.non_i, Ru.non_b, Ru.non_s, Ru.non_l, Ru.non_t, Ru.len_l, Ru.len_t, Ru.len_s, Ru.list_l, Ru.list_t, Ru.tuple_l, Ru.tuple_t, Ru.int_i, Ru.gsl_l, Ru.gsl_t, Ru.gsl_s, Ru.eq_s, Ru.eq_i, Ru.eq_b, Ru.ne_b, Ru.ne_s, Ru.ne_i, Ru.in_2, Ru.atI_0, Ru.atI_1, Ru.atI_2, Ru.ix_t, Ru.ix_l, Ru.cut_1, E.wipeS, Ru.bind_some, Option.bind_none, Ru.map_some, Option.map_none, List.getElem?_cons_zero, List.getElem?_cons_succ, List.set_cons_zero, List.set_cons_succ, List.length_cons, List.length_nil, List.map_cons, List.map_nil, List.replicate, List.cons_append, List.nil_append, hn, innerD, innerN, rvO, ns_00, ns_01, ns_02, ns_03, ns_04, ns_05, ns_06, ns_10, ns_11, ns_12, ns_13, ns_14, ns_15, ns_16, ns_20, ns_21, ns_22, ns_23, ns_24, ns_25, ns_26, ns_30, ns_31, ns_32, ns_33, ns_34, ns_35, ns_36, ns_40, ns_41, ns_42, ns_43, ns_44, ns_45, ns_46, ns_50, ns_51, ns_52, ns_53, ns_54, ns_55, ns_56, ns_60, ns_61, ns_62, ns_63, ns_64, ns_65, ns_66, *]
    | [y], hp =>
      have hw := e_is_whole (hp y (by simp))
      rcases nameCases s with rfl | rfl | rfl | rfl | rfl | rfl | ⟨a1, a2, a3, a4, a5, a6, a7, a8, a9, a10⟩
      · simp [m_inner_conditions, b_inner_conditions, -Option.bind_some, -Option.map_some, Ru.c_e, Ru.v_e, Ru.v_d, Ru.rv_e, Ru.rv_d, Ru.rv_l, Ru.nil_e, Ru.cons_e, Ru.cons_d, Ru.cons_l, Ru.cons_2, Ru.tup_e, Ru.tup_d, Ru.lst_e, Ru.lst_d, Ru.rd_e, Ru.rd_d, Ru.rd_l, Ru.op_e, Ru.op_1, Ru.op_2, Ru.op_3, Ru.un_e, Ru.un_1, Ru.isi_e, Ru.ite_e, Ru.ite_t, Ru.ite_f, Ru.ofB_e, Ru.ofB_1, Ru.toB_e, Ru.toB_1, Ru.and_e, Ru.and_t, Ru.and_f, Ru.or_e, Ru.or_t, Ru.or_f, Ru.not_e, Ru.not_1, Ru.px_e, Ru.px_1, Ru.px_2, Ru.oN_e, Ru.oS_e, Ru.oS_1, Ru.sl_e, Ru.sl_1, Ru.sl_2, Ru.sl_3, Ru.sl3_e, Ru.tl_1, Ru.tl_2, Ru.tl_3, Ru.tl_4, Ru.call_e, Ru.call_1, Ru.call_2, Ru.callP_e, Ru.callP_1, Ru.callP_2, Ru.chain_e, Ru.ch_1, Ru.ch_2, Ru.ch_t, Ru.ch_f, Ru.iL_e, Ru.iL_d, Ru.iL_l, Ru.iT_e, Ru.iT_d, Ru.iR1_e, Ru.iR1_1, Ru.lR_e, Ru.lR_1, Ru.tN_e, Ru.tT_2, Ru.yes_e, Ru.lc_e, Ru.lc_1, Ru.lc_2, Ru.seq_e, Ru.seq_nx, Ru.seq_rt, Ru.nop_e, Ru.set_e, Ru.set_d, Ru.set_l, Ru.setL_e, Ru.setL_l, Ru.ret_e, Ru.ret_1, Ru.retV_e, Ru.retV_l, Ru.retV_d, Ru.frz_e, Ru.frz_l, Ru.sIte_e, Ru.sIte_t, Ru.sIte_f, Ru.for_e, Ru.for_1, Ru.for_nil, Ru.for_cons, Ru.fK_1, Ru.fK_nx, Ru.fK_rt, Ru.append_e, Ru.append_1, Ru.append_d, Ru.append_l, Ru.extend_e, Ru.extend_1, Ru.extend_l, Ru.pop_e, Ru.pop_1, Ru.setIx_e, Ru.setIx_d, Ru.setP_e, Ru.setP_d, Ru.setP_1, Ru.par_e, Ru.par_1, Ru.stup_e, Ru.stup_d, Ru.wK_t, Ru.wK_f, Ru.wK_nx, Ru.wK_rt, Ru.runB_f, Ru.runB_t, Ru.rb_f, Ru.rb_t, Ru.rb_n, Ru.lt_i, Ru.le_i, Ru.gt_i, Ru.ge_i, Ru.sub_i, Ru.add_i, Ru.add_s, Ru.add_t, Ru.add_l, Ru.mul_i, Ru.div_i, Ru.mod_i, Ru.neg_i, Ru.is_n, Ru.isNot_n, Ru.non_n, Ru.non_i, Ru.non_b, Ru.non_s, Ru.non_l, Ru.non_t, Ru.len_l, Ru.len_t, Ru.len_s, Ru.list_l, Ru.list_t, Ru.tuple_l, Ru.tuple_t, Ru.int_i, Ru.gsl_l, Ru.gsl_t, Ru.gsl_s, Ru.eq_s, Ru.eq_i, Ru.eq_b, Ru.ne_b, Ru.ne_s, Ru.ne_i, Ru.in_2, Ru.atI_0, Ru.atI_1, Ru.atI_2, Ru.ix_t, Ru.ix_l, Ru.cut_1, E.wipeS, Ru.bind_some, Option.bind_none, Ru.map_some, Option.map_none, List.getElem?_cons_zero, List.getElem?_cons_succ, List.set_cons_zero, List.set_cons_succ, List.length_cons, List.length_nil, List.map_cons, List.map_nil, List.replicate, List.cons_append, List.nil_append, hn, innerD, innerN, rvO, ns_00, ns_01, ns_02, ns_03, ns_04, ns_05, ns_06, ns_10, ns_11, ns_12, ns_13, ns_14, ns_15, ns_16, ns_20, ns_21, ns_22, ns_23, ns_24, ns_25, ns_26, ns_30, ns_31, ns_32, ns_33, ns_34, ns_35, ns_36, ns_40, ns_41, ns_42, ns_43, ns_44, ns_45, ns_46, ns_50, ns_51, ns_52, ns_53, ns_54, ns_55, ns_56, ns_60, ns_61, ns_62, ns_63, ns_64, ns_65, ns_66]
      · simp [m_inner_conditions, b_inner_conditions, -Option.bind_some, -Option.map_some, Ru.c_e, Ru.v_e, Ru.v_d, Ru.rv_e, Ru.rv_d, Ru.rv_l, Ru.nil_e, Ru.cons_e, Ru.cons_d, Ru.cons_l, Ru.cons_2, Ru.tup_e, Ru.tup_d, Ru.lst_e, Ru.lst_d, Ru.rd_e, Ru.rd_d, Ru.rd_l, Ru.op_e, Ru.op_1, Ru.op_2, Ru.op_3, Ru.un_e, Ru.un_1, Ru.isi_e, Ru.ite_e, Ru.ite_t, Ru.ite_f, Ru.ofB_e, Ru.ofB_1, Ru.toB_e, Ru.toB_1, Ru.and_e, Ru.and_t, Ru.and_f, Ru.or_e, Ru.or_t, Ru.or_f, Ru.not_e, Ru.not_1, Ru.px_e, Ru.px_1, Ru.px_2, Ru.oN_e, Ru.oS_e, Ru.oS_1, Ru.sl_e, Ru.sl_1, Ru.sl_2, Ru.sl_3, Ru.sl3_e, Ru.tl_1, Ru.tl_2, Ru.tl_3, Ru.tl_4, Ru.call_e, Ru.call_1, Ru.call_2, Ru.callP_e, Ru.callP_1, Ru.callP_2, Ru.chain_e, Ru.ch_1, Ru.ch_2, Ru.ch_t, Ru.ch_f, Ru.iL_e, Ru.iL_d, Ru.iL_l, Ru.iT_e, Ru.iT_d, Ru.iR1_e, Ru.iR1_1, Ru.lR_e, Ru.lR_1, Ru.tN_e, Ru.tT_2, Ru.yes_e, Ru.lc_e, Ru.lc_1, Ru.lc_2, Ru.seq_e, Ru.seq_nx, Ru.seq_rt, Ru.nop_e, Ru.set_e, Ru.set_d, Ru.set_l, Ru.setL_e, Ru.setL_l, Ru.ret_e, Ru.ret_1, Ru.retV_e, Ru.retV_l, Ru.retV_d, Ru.frz_e, Ru.frz_l, Ru.sIte_e, Ru.sIte_t, Ru.sIte_f, Ru.for_e, Ru.for_1, Ru.for_nil, Ru.for_cons, Ru.fK_1, Ru.fK_nx, Ru.fK_rt, Ru.append_e, Ru.append_1, Ru.append_d, Ru.append_l, Ru.extend_e, Ru.extend_1, Ru.extend_l, Ru.pop_e, Ru.pop_1, Ru.setIx_e, Ru.setIx_d, Ru.setP_e, Ru.setP_d, Ru.setP_1, Ru.par_e, Ru.par_1, Ru.stup_e, Ru.stup_d, Ru.wK_t, Ru.wK_f, Ru.wK_nx, Ru.wK_rt, Ru.runB_f, Ru.runB_t, Ru.rb_f, Ru.rb_t, Ru.rb_n, Ru.lt_i, Ru.le_i, Ru.gt_i, Ru.ge_i, Ru.sub_i, Ru.add_i, Ru.add_s, Ru.add_t, Ru.add_l, Ru.mul_i, Ru.div_i, Ru.mod_i, Ru.neg_i, Ru.is_n, Ru.isNot_n, Ru.non_n, Ru.non_i, Ru.non_b, Ru.non_s, Ru.non_l, Ru.non_t, Ru.len_l, Ru.len_t, Ru.len_s, Ru.list_l, Ru.list_t, Ru.tuple_l, Ru.tuple_t, Ru.int_i, Ru.gsl_l, Ru.gsl_t, Ru.gsl_s, Ru.eq_s, Ru.eq_i, Ru.eq_b, Ru.ne_b, Ru.ne_s, Ru.ne_i, Ru.in_2, Ru.atI_0, Ru.atI_1, Ru.atI_2, Ru.ix_t, Ru.ix_l, Ru.cut_1, E.wipeS, Ru.bind_some, Option.bind_none, Ru.map_some, Option.map_none, List.getElem?_cons_zero, List.getElem?_cons_succ, List.set_cons_zero, List.set_cons_succ, List.length_cons, List.length_nil, List.map_cons, List.map_nil, List.replicate, List.cons_append, List.nil_append, hn, innerD, innerN, rvO, ns_00, ns_01, ns_02, ns_03, ns_04, ns_05, ns_06, ns_10, ns_11, ns_12, ns_13, ns_14, ns_15, ns_16, ns_20, ns_21, ns_22, ns_23, ns_24, ns_25, ns_26, ns_30, ns_31, ns_32, ns_33, ns_34, ns_35, ns_36, ns_40, ns_41, ns_42, ns_43, ns_44, ns_45, ns_46, ns_50, ns_51, ns_52, ns_53, ns_54, ns_55, ns_56, ns_60, ns_61, ns_62, ns_63, ns_64, ns_65, ns_66]
      · cases y <;> simp [m_inner_conditions, b_inner_conditions, -Option.bind_some, -Option.map_some, Ru.c_e, Ru.v_e, Ru.v_d, Ru.rv_e, Ru.rv_d, Ru.rv_l, Ru.nil_e, Ru.cons_e, Ru.cons_d, Ru.cons_l, Ru.cons_2, Ru.tup_e, Ru.tup_d, Ru.lst_e, Ru.lst_d, Ru.rd_e, Ru.rd_d, Ru.rd_l, Ru.op_e, Ru.op_1, Ru.op_2, Ru.op_3, Ru.un_e, Ru.un_1, Ru.isi_e, Ru.ite_e, Ru.ite_t, Ru.ite_f, Ru.ofB_e, Ru.ofB_1, Ru.toB_e, Ru.toB_1, Ru.and_e, Ru.and_t, Ru.and_f, Ru.or_e, Ru.or_t, Ru.or_f, Ru.not_e, Ru.not_1, Ru.px_e, Ru.px_1, Ru.px_2, Ru.oN_e, Ru.oS_e, Ru.oS_1, Ru.sl_e, Ru.sl_1, Ru.sl_2, Ru.sl_3, Ru.sl3_e, Ru.tl_1, Ru.tl_2, Ru.tl_3, Ru.tl_4, Ru.call_e, Ru.call_1, Ru.call_2, Ru.callP_e, Ru.callP_1, Ru.callP_2, Ru.chain_e, Ru.ch_1, Ru.ch_2, Ru.ch_t, Ru.ch_f, Ru.iL_e, Ru.iL_d, Ru.iL_l, Ru.iT_e, Ru.iT_d, Ru.iR1_e, Ru.iR1_1, Ru.lR_e, Ru.lR_1, Ru.tN_e, Ru.tT_2, Ru.yes_e, Ru.lc_e, Ru.lc_1, Ru.lc_2, Ru.seq_e, Ru.seq_nx, Ru.seq_rt, Ru.nop_e, Ru.set_e, Ru.set_d, Ru.set_l, Ru.setL_e, Ru.setL_l, Ru.ret_e, Ru.ret_1, Ru.retV_e, Ru.retV_l, Ru.retV_d, Ru.frz_e, Ru.frz_l, Ru.sIte_e, Ru.sIte_t, Ru.sIte_f, Ru.for_e, Ru.for_1, Ru.for_nil, Ru.for_cons, Ru.fK_1, Ru.fK_nx, Ru.fK_rt, Ru.append_e, Ru.append_1, Ru.append_d, Ru.append_l, Ru.extend_e, Ru.extend_1, Ru.extend_l, Ru.pop_e, Ru.pop_1, Ru.setIx_e, Ru.setIx_d, Ru.setP_e, Ru.setP_d, Ru.setP_1, Ru.par_e, Ru.par_1, Ru.stup_e, Ru.stup_d, Ru.wK_t, Ru.wK_f, Ru.wK_nx, Ru.wK_rt, Ru.runB_f, Ru.runB_t, Ru.rb_f, Ru.rb_t, Ru.rb_n, Ru.lt_i, Ru.le_i, Ru.gt_i, Ru.ge_i, Ru.sub_i, Ru.add_i, Ru.add_s, Ru.add_t, Ru.add_l, Ru.mul_i, Ru.div_i, Ru.mod_i, Ru.neg_i, Ru.is_n, Ru.isNot_n, Ru.non_n, Ru.non_i, Ru.non_b, Ru.non_s, Ru.non_l, Ru.non_t, Ru.len_l, Ru.len_t, Ru.len_s, Ru.list_l, Ru.list_t, Ru.tuple_l, Ru.tuple_t, Ru.int_i, Ru.gsl_l, Ru.gsl_t, Ru.gsl_s, Ru.eq_s, Ru.eq_i, Ru.eq_b, Ru.ne_b, Ru.ne_s, Ru.ne_i, Ru.in_2, Ru.atI_0, Ru.atI_1, Ru.atI_2, Ru.ix_t, Ru.ix_l, Ru.cut_1, E.wipeS, Ru.bind_some, Option.bind_none, Ru.map_some, Option.map_none, List.getElem?_cons_zero, List.getElem?_cons_succ, List.set_cons_zero, List.set_cons_succ, List.length_cons, List.length_nil, List.map_cons, List.map_nil, List.replicate, List.cons_append, List.nil_append, hn, hw, isI, innerD, innerN, rvO, ns_00, ns_01, ns_02, ns_03, ns_04, ns_05, ns_06, ns_10, ns_11, ns_12, ns_13, ns_14, ns_15, ns_16, ns_20, ns_21, ns_22, ns_23, ns_24, ns_25, ns_26, ns_30, ns_31, ns_32, ns_33, ns_34, ns_35, ns_36, ns_40, ns_41, ns_42, ns_43, ns_44, ns_45, ns_46, ns_50, ns_51, ns_52, ns_53, ns_54, ns_55, ns_56, ns_60, ns_61, ns_62, ns_63, ns_64, ns_65, ns_66]
        rename_i i
        by_cases c1 : 0 ≤ i <;> by_cases c2 : i < d <;> simp [c1, c2, -Option.bind_some, -Option.map_some, Ru.c_e, Ru.v_e, Ru.v_d, Ru.rv_e, Ru.rv_d, Ru.rv_l, Ru.nil_e, Ru.cons_e, Ru.cons_d, Ru.cons_l, Ru.cons_2, Ru.tup_e, Ru.tup_d, Ru.lst_e, Ru.lst_d, Ru.rd_e, Ru.rd_d, Ru.rd_l, Ru.op_e, Ru.op_1, Ru.op_2, Ru.op_3, Ru.un_e, Ru.un_1, Ru.isi_e, Ru.ite_e, Ru.ite_t, Ru.ite_f, Ru.ofB_e, Ru.ofB_1, Ru.toB_e, Ru.toB_1, Ru.and_e, Ru.and_t, Ru.and_f, Ru.or_e, Ru.or_t, Ru.or_f, Ru.not_e, Ru.not_1, Ru.px_e, Ru.px_1, Ru.px_2, Ru.oN_e, Ru.oS_e, Ru.oS_1, Ru.sl_e, Ru.sl_1, Ru.sl_2, Ru.sl_3, Ru.sl3_e, Ru.tl_1, Ru.tl_2, Ru.tl_3, Ru.tl_4, Ru.call_e, Ru.call_1, Ru.call_2, Ru.callP_e, Ru.callP_1, Ru.callP_2, Ru.chain_e, Ru.ch_1, Ru.ch_2, Ru.ch_t, Ru.ch_f, Ru.iL_e, Ru.iL_d, Ru.iL_l, Ru.iT_e, Ru.iT_d, Ru.iR1_e, Ru.iR1_1, Ru.lR_e, Ru.lR_1, Ru.tN_e, Ru.tT_2, Ru.yes_e, Ru.lc_e, Ru.lc_1, Ru.lc_2, Ru.seq_e, Ru.seq_nx, Ru.seq_rt, Ru.nop_e, Ru.set_e, Ru.set_d, Ru.set_l, Ru.setL_e, Ru.setL_l, Ru.ret_e, Ru.ret_1, Ru.retV_e, Ru.retV_l, Ru.retV_d, Ru.frz_e, Ru.frz_l, Ru.sIte_e, Ru.sIte_t, Ru.sIte_f, Ru.for_e, Ru.for_1, Ru.for_nil, Ru.for_cons, Ru.fK_1, Ru.fK_nx, Ru.fK_rt, Ru.append_e, Ru.append_1, Ru.append_d, Ru.append_l, Ru.extend_e, Ru.extend_1, Ru.extend_l, Ru.pop_e, Ru.pop_1, Ru.setIx_e, Ru.setIx_d, Ru.setP_e, Ru.setP_d, Ru.setP_1, Ru.par_e, Ru.par_1, Ru.stup_e, Ru.stup_d, Ru.wK_t, Ru.wK_f, Ru.wK_nx, Ru.wK_rt, Ru.runB_f, Ru.runB_t, Ru.rb_f, Ru.rb_t, Ru.rb_n, Ru.lt_i, Ru.le_i, Ru.gt_i, Ru.ge_i, Ru.sub_i, Ru.add_i, Ru.add_s, Ru.add_t, Ru.add_l, Ru.mul_i, Ru.div_i, Ru.mod_i, Ru.neg_i, Ru.is_n, Ru.isNot_n, Ru.non_n, Ru.non_i, Ru.non_b, Ru.non_s, Ru.non_l, Ru.non_t, Ru.len_l, Ru.len_t, Ru.len_s, Ru.list_l, Ru.list_t, Ru.tuple_l, Ru.tuple_t, Ru.int_i, Ru.gsl_l, Ru.gsl_t, Ru.gsl_s, Ru.eq_s, Ru.eq_i, Ru.eq_b, Ru.ne_b, Ru.ne_s, Ru.ne_i, Ru.in_2, Ru.atI_0, Ru.atI_1, Ru.atI_2, Ru.ix_t, Ru.ix_l, Ru.cut_1, E.wipeS, Ru.bind_some, Option.bind_none, Ru.map_some, Option.map_none, List.getElem?_cons_zero, List.getElem?_cons_succ, List.set_cons_zero, List.set_cons_succ, List.length_cons, List.length_nil, List.map_cons, List.map_nil, List.replicate, List.cons_append, List.nil_append, hw, isI, ns_00, ns_01, ns_02, ns_03, ns_04, ns_05, ns_06, ns_10, ns_11, ns_12, ns_13, ns_14, ns_15, ns_16, ns_20, ns_21, ns_22, ns_23, ns_24, ns_25, ns_26, ns_30, ns_31, ns_32, ns_33, ns_34, ns_35, ns_36, ns_40, ns_41, ns_42, ns_43, ns_44, ns_45, ns_46, ns_50, ns_51, ns_52, ns_53, ns_54, ns_55, ns_56, ns_60, ns_61, ns_62, ns_63, ns_64, ns_65, ns_66]
      · simp [m_inner_conditions, b_inner_conditions, -Option.bind_some, -Option.map_some, Ru.c_e, Ru.v_e, Ru.v_d, Ru.rv_e, Ru.rv_d, Ru.rv_l, Ru.nil_e, Ru.cons_e, Ru.cons_d, Ru.cons_l, Ru.cons_2, Ru.tup_e, Ru.tup_d, Ru.lst_e, Ru.lst_d, Ru.rd_e, Ru.rd_d, Ru.rd_l, Ru.op_e, Ru.op_1, Ru.op_2, Ru.op_3, Ru.un_e, Ru.un_1, Ru.isi_e, Ru.ite_e, Ru.ite_t, Ru.ite_f, Ru.ofB_e, Ru.ofB_1, Ru.toB_e, Ru.toB_1, Ru.and_e, Ru.and_t, Ru.and_f, Ru.or_e, Ru.or_t, Ru.or_f, Ru.not_e, Ru.not_1, Ru.px_e, Ru.px_1, Ru.px_2, Ru.oN_e, Ru.oS_e, Ru.oS_1, Ru.sl_e, Ru.sl_1, Ru.sl_2, Ru.sl_3, Ru.sl3_e, Ru.tl_1, Ru.tl_2, Ru.tl_3, Ru.tl_4, Ru.call_e, Ru.call_1, Ru.call_2, Ru.callP_e, Ru.callP_1, Ru.callP_2, Ru.chain_e, Ru.ch_1, Ru.ch_2, Ru.ch_t, Ru.ch_f, Ru.iL_e, Ru.iL_d, Ru.iL_l, Ru.iT_e, Ru.iT_d, Ru.iR1_e, Ru.iR1_1, Ru.lR_e, Ru.lR_1, Ru.tN_e, Ru.tT_2, Ru.yes_e, Ru.lc_e, Ru.lc_1, Ru.lc_2, Ru.seq_e, Ru.seq_nx, Ru.seq_rt, Ru.nop_e, Ru.set_e, Ru.set_d, Ru.set_l, Ru.setL_e, Ru.setL_l, Ru.ret_e, Ru.ret_1, Ru.retV_e, Ru.retV_l, Ru.retV_d, Ru.frz_e, Ru.frz_l, Ru.sIte_e, Ru.sIte_t, Ru.sIte_f, Ru.for_e, Ru.for_1, Ru.for_nil, Ru.for_cons, Ru.fK_1, Ru.fK_nx, Ru.fK_rt, Ru.append_e, Ru.append_1, Ru.append_d, Ru.append_l, Ru.extend_e, Ru.extend_1, Ru.extend_l, Ru.pop_e, Ru.pop_1, Ru.setIx_e, Ru.setIx_d, Ru.setP_e, Ru.setP_d, Ru.setP_1, Ru.par_e, Ru.par_1, Ru.stup_e, Ru.stup_d, Ru.wK_t, Ru.wK_f, Ru.wK_nx, Ru.wK_rt, Ru.runB_f, Ru.runB_t, Ru.rb_f, Ru.rb_t, Ru.rb_n, Ru.lt_i, Ru.le_i, Ru.gt_i, Ru.ge_i, Ru.sub_i, Ru.add_i, Ru.add_s, Ru.add_t, Ru.add_l, Ru.mul_i, Ru.div_i, Ru.mod_i, Ru.neg_i, Ru.is_n, Ru.isNot_n, Ru.non_n, Ru.non_i, Ru.non_b, Ru.non_s, Ru.non_l, Ru.non_t, Ru.len_l, Ru.len_t, Ru.len_s, Ru.list_l, Ru.list_t, Ru.tuple_l, Ru.tuple_t, Ru.int_i, Ru.gsl_l, Ru.gsl_t, Ru.gsl_s, Ru.eq_s, Ru.eq_i, Ru.eq_b, Ru.ne_b, Ru.ne_s, Ru.ne_i, Ru.in_2, Ru.atI_0, Ru.atI_1, Ru.atI_2, Ru.ix_t, Ru.ix_l, Ru.cut_1, E.wipeS, Ru.bind_some, Option.bind_none, Ru.map_some, Option.map_none, List.getElem?_cons_zero, List.getElem?_cons_succ, List.set_cons_zero, List.set_cons_succ, List.length_cons, List.length_nil, List.map_cons, List.map_nil, List.replicate, List.cons_append, List.nil_append, hn, innerD, innerN, rvO, ns_00, ns_01, ns_02, ns_03, ns_04, ns_05, ns_06, ns_10, ns_11, ns_12, ns_13, ns_14, ns_15, ns_16, ns_20, ns_21, ns_22, ns_23, ns_24, ns_25, ns_26, ns_30, ns_31, ns_32, ns_33, ns_34, ns_35, ns_36, ns_40, ns_41, ns_42, ns_43, ns_44, ns_45, ns_46, ns_50, ns_51, ns_52, ns_53, ns_54, ns_55, ns_56, ns_60, ns_61, ns_62, ns_63, ns_64, ns_65, ns_66]
      · simp [m_inner_conditions, b_inner_conditions, -Option.bind_some, -Option.map_some, Ru.c_e, Ru.v_e, Ru.v_d, Ru.rv_e, Ru.rv_d, Ru.rv_l, Ru.nil_e, Ru.cons_e, Ru.cons_d, Ru.cons_l, Ru.cons_2, Ru.tup_e, Ru.tup_d, Ru.lst_e, Ru.lst_d, Ru.rd_e, Ru.rd_d, Ru.rd_l, Ru.op_e, Ru.op_1, Ru.op_2, Ru.op_3, Ru.un_e, Ru.un_1, Ru.isi_e, Ru.ite_e, Ru.ite_t, Ru.ite_f, Ru.ofB_e, Ru.ofB_1, Ru.toB_e, Ru.toB_1, Ru.and_e, Ru.and_t, Ru.and_f, Ru.or_e, Ru.or_t, Ru.or_f, Ru.not_e, Ru.not_1, Ru.px_e, Ru.px_1, Ru.px_2, Ru.oN_e, Ru.oS_e, Ru.oS_1, Ru.sl_e, Ru.sl_1, Ru.sl_2, Ru.sl_3, Ru.sl3_e, Ru.tl_1, Ru.tl_2, Ru.tl_3, Ru.tl_4, Ru.call_e, Ru.call_1, Ru.call_2, Ru.callP_e, Ru.callP_1, Ru.callP_2, Ru.chain_e, Ru.ch_1, Ru.ch_2, Ru.ch_t, Ru.ch_f, Ru.iL_e, Ru.iL_d, Ru.iL_l, Ru.iT_e, Ru.iT_d, Ru.iR1_e, Ru.iR1_1, Ru.lR_e, Ru.lR_1, Ru.tN_e, Ru.tT_2, Ru.yes_e, Ru.lc_e, Ru.lc_1, Ru.lc_2, Ru.seq_e, Ru.seq_nx, Ru.seq_rt, Ru.nop_e, Ru.set_e, Ru.set_d, Ru.set_l, Ru.setL_e, Ru.setL_l, Ru.ret_e, Ru.ret_1, Ru.retV_e, Ru.retV_l, Ru.retV_d, Ru.frz_e, Ru.frz_l, Ru.sIte_e, Ru.sIte_t, Ru.sIte_f, Ru.for_e, Ru.for_1, Ru.for_nil, Ru.for_cons, Ru.fK_1, Ru.fK_nx, Ru.fK_rt, Ru.append_e, Ru.append_1, Ru.append_d, Ru.append_l, Ru.extend_e, Ru.extend_1, Ru.extend_l, Ru.pop_e, Ru.pop_1, Ru.setIx_e, Ru.setIx_d, Ru.setP_e, Ru.setP_d, Ru.setP_1, Ru.par_e, Ru.par_1, Ru.stup_e, Ru.stup_d, Ru.wK_t, Ru.wK_f, Ru.wK_nx, Ru.wK_rt, Ru.runB_f, Ru.runB_t, Ru.rb_f, Ru.rb_t, Ru.rb_n, Ru.lt_i, Ru.le_i, Ru.gt_i, Ru.ge_i, Ru.sub_i, Ru.add_i, Ru.add_s, Ru.add_t, Ru.add_l, Ru.mul_i, Ru.div_i, Ru.mod_i, Ru.neg_i, Ru.is_n, Ru.isNot_n, Ru.non_n, Ru.non_i, Ru.non_b, Ru.non_s, Ru.non_l, Ru.non_t, Ru.len_l, Ru.len_t, Ru.len_s, Ru.list_l, Ru.list_t, Ru.tuple_l, Ru.tuple_t, Ru.int_i, Ru.gsl_l, Ru.gsl_t, Ru.gsl_s, Ru.eq_s, Ru.eq_i, Ru.eq_b, Ru.ne_b, Ru.ne_s, Ru.ne_i, Ru.in_2, Ru.atI_0, Ru.atI_1, Ru.atI_2, Ru.ix_t, Ru.ix_l, Ru.cut_1, E.wipeS, Ru.bind_some, Option.bind_none, Ru.map_some, Option.map_none, List.getElem?_cons_zero, List.getElem?_cons_succ, List.set_cons_zero, List.set_cons_succ, List.length_cons, List.length_nil, List.map_cons, List.map_nil, List.replicate, List.cons_append, List.nil_append, hn, innerD, innerN, rvO, ns_00, ns_01, ns_02, ns_03, ns_04, ns_05, ns_06, ns_10, ns_11, ns_12, ns_13, ns_14, ns_15, ns_16, ns_20, ns_21, ns_22, ns_23, ns_24, ns_25, ns_26, ns_30, ns_31, ns_32, ns_33, ns_34, ns_35, ns_36, ns_40, ns_41, ns_42, ns_43, ns_44, ns_45, ns_46, ns_50, ns_51, ns_52, ns_53, ns_54, ns_55, ns_56, ns_60, ns_61, ns_62, ns_63, ns_64, ns_65, ns_66]
      · simp [m_inner_conditions, b_inner_conditions, -Option.bind_some, -Option.map_some, Ru.c_e, Ru.v_e, Ru.v_d, Ru.rv_e, Ru.rv_d, Ru.rv_l, Ru.nil_e, Ru.cons_e, Ru.cons_d, Ru.cons_l, Ru.cons_2, Ru.tup_e, Ru.tup_d, Ru.lst_e, Ru.lst_d, Ru.rd_e, Ru.rd_d, Ru.rd_l, Ru.op_e, Ru.op_1, Ru.op_2, Ru.op_3, Ru.un_e, Ru.un_1, Ru.isi_e, Ru.ite_e, Ru.ite_t, Ru.ite_f, Ru.ofB_e, Ru.ofB_1, Ru.toB_e, Ru.toB_1, Ru.and_e, Ru.and_t, Ru.and_f, Ru.or_e, Ru.or_t, Ru.or_f, Ru.not_e, Ru.not_1, Ru.px_e, Ru.px_1, Ru.px_2, Ru.oN_e, Ru.oS_e, Ru.oS_1, Ru.sl_e, Ru.sl_1, Ru.sl_2, Ru.sl_3, Ru.sl3_e, Ru.tl_1, Ru.tl_2, Ru.tl_3, Ru.tl_4, Ru.call_e, Ru.call_1, Ru.call_2, Ru.callP_e, Ru.callP_1, Ru.callP_2, Ru.chain_e, Ru.ch_1, Ru.ch_2, Ru.ch_t, Ru.ch_f, Ru.iL_e, Ru.iL_d, Ru.iL_l, Ru.iT_e, Ru.iT_d, Ru.iR1_e, Ru.iR1_1, Ru.lR_e, Ru.lR_1, Ru.tN_e, Ru.tT_2, Ru.yes_e, Ru.lc_e, Ru.lc_1, Ru.lc_2, Ru.seq_e, Ru.seq_nx, Ru.seq_rt, Ru.nop_e, Ru.set_e, Ru.set_d, Ru.set_l, Ru.setL_e, Ru.setL_l, Ru.ret_e, Ru.ret_1, Ru.retV_e, Ru.retV_l, Ru.retV_d, Ru.frz_e, Ru.frz_l, Ru.sIte_e, Ru.sIte_t, Ru.sIte_f, Ru.for_e, Ru.for_1, Ru.for_nil, Ru.for_cons, Ru.fK_1, Ru.fK_nx, Ru.fK_rt, Ru.append_e, Ru.append_1, Ru.append_d, Ru.append_l, Ru.extend_e, Ru.extend_1, Ru.extend_l, Ru.pop_e, Ru.pop_1, Ru.setIx_e, Ru.setIx_d, Ru.setP_e, Ru.setP_d, Ru.setP_1, Ru.par_e, Ru.par_1, Ru.stup_e, Ru.stup_d, Ru.wK_t, Ru.wK_f, Ru.wK_nx, Ru.wK_rt, Ru.runB_f, Ru.runB_t, Ru.rb_f, Ru.rb_t, Ru.rb_n, Ru.lt_i, Ru.le_i, Ru.gt_i, Ru.ge_i, Ru.sub_i, Ru.add_i, Ru.add_s, Ru.add_t, Ru.add_l, Ru.mul_i, Ru.div_i, Ru.mod_i, Ru.neg_i, Ru.is_n, Ru.isNot_n, Ru.non_n, Ru.non_i, Ru.non_b, Ru.non_s, Ru.non_l, Ru.non_t, Ru.len_l, Ru.len_t, Ru.len_s, Ru.list_l, Ru.list_t, Ru.tuple_l, Ru.tuple_t, Ru.int_i, Ru.gsl_l, Ru.gsl_t, Ru.gsl_s, Ru.eq_s, Ru.eq_i, Ru.eq_b, Ru.ne_b, Ru.ne_s, Ru.ne_i, Ru.in_2, Ru.atI_0, Ru.atI_1, Ru.atI_2, Ru.ix_t, Ru.ix_l, Ru.cut_1, E.wipeS, Ru.bind_some, Option.bind_none, Ru.map_some, Option.map_none, List.getElem?_cons_zero, List.getElem?_cons_succ, List.set_cons_zero, List.set_cons_succ, List.length_cons, List.length_nil, List.map_cons, List.map_nil, List.replicate, List.cons_append, List.nil_append, hn, innerD, innerN, rvO, ns_00, ns_01, ns_02, ns_03, ns_04, ns_05, ns_06, ns_10, ns_11, ns_12, ns_13, ns_14, ns_15, ns_16, ns_20, ns_21, ns_22, ns_23, ns_24, ns_25, ns_26, ns_30, ns_31, ns_32, ns_33, ns_34, ns_35, ns_36, ns_40, ns_41, ns_42, ns_43, ns_44, ns_45, ns_46, ns_50, ns_51, ns_52, ns_53, ns_54, ns_55, ns_56, ns_60, ns_61, ns_62, ns_63, ns_64, ns_65, ns_66]
      · simp [m_inner_conditions, b_inner_conditions, -Option.bind_some, -Option.map_some, Ru.c_e, Ru.v_e, Ru.v_d, Ru.rv_e, Ru.rv_d, Ru.rv_l, Ru.nil_e, Ru.cons_e, Ru.cons_d, Ru.cons_l, Ru.cons_2, Ru.tup_e, Ru.tup_d, Ru.lst_e, Ru.lst_d, Ru.rd_e, Ru.rd_d, Ru.rd_l, Ru.op_e, Ru.op_1, Ru.op_2, Ru.op_3, Ru.un_e, Ru.un_1, Ru.isi_e, Ru.ite_e, Ru.ite_t, Ru.ite_f, Ru.ofB_e, Ru.ofB_1, Ru.toB_e, Ru.toB_1, Ru.and_e, Ru.and_t, Ru.and_f, Ru.or_e, Ru.or_t, Ru.or_f, Ru.not_e, Ru.not_1, Ru.px_e, Ru.px_1, Ru.px_2, Ru.oN_e, Ru.oS_e, Ru.oS_1, Ru.sl_e, Ru.sl_1, Ru.sl_2, Ru.sl_3, Ru.sl3_e, Ru.tl_1, Ru.tl_2, Ru.tl_3, Ru.tl_4, Ru.call_e, Ru.call_1, Ru.call_2, Ru.callP_e, Ru.callP_1, Ru.callP_2, Ru.chain_e, Ru.ch_1, Ru.ch_2, Ru.ch_t, Ru.ch_f, Ru.iL_e, Ru.iL_d, Ru.iL_l, Ru.iT_e, Ru.iT_d, Ru.iR1_e, Ru.iR1_1, Ru.lR_e, Ru.lR_1, Ru.tN_e, Ru.tT_2, Ru.yes_e, Ru.lc_e, Ru.lc_1, Ru.lc_2, Ru.seq_e, Ru.seq_nx, Ru.seq_rt, Ru.nop_e, Ru.set_e, Ru.set_d, Ru.set_l, Ru.setL_e, Ru.setL_l, Ru.ret_e, Ru.ret_1, Ru.retV_e, Ru.retV_l, Ru.retV_d, Ru.frz_e, Ru.frz_l, Ru.sIte_e, Ru.sIte_t, Ru.sIte_f, Ru.for_e, Ru.for_1, Ru.for_nil, Ru.for_cons, Ru.fK_1, Ru.fK_nx, Ru.fK_rt, Ru.append_e, Ru.append_1, Ru.append_d, Ru.append_l, Ru.extend_e, Ru.extend_1, Ru.extend_l, Ru.pop_e, Ru.pop_1, Ru.setIx_e, Ru.setIx_d, Ru.setP_e, Ru.setP_d, Ru.setP_1, Ru.par_e, Ru.par_1, Ru.stup_e, Ru.stup_d, Ru.wK_t, Ru.wK_f, Ru.wK_nx, Ru.wK_rt, Ru.runB_f, Ru.runB_t, Ru.rb_f, Ru.rb_t, Ru.rb_n, Ru.lt_i, Ru.le_i, Ru.gt_i, Ru.ge_i, Ru.sub_i, Ru.add_i, Ru.add_s, Ru.add_t, Ru.add_l, Ru.mul_i, Ru.div_i, Ru.mod_i, Ru.neg_i, Ru.is_n, Ru.isNot_n, Ru.non_n, Ru.non_i, Ru.non_b, Ru.non_s, Ru.non_l, Ru.non_t, Ru.len_l, Ru.len_t, Ru.len_s, Ru.list_l, Ru.list_t, Ru.tuple_l, Ru.tuple_t, Ru.int_i, Ru.gsl_l, Ru.gsl_t, Ru.gsl_s, Ru.eq_s, Ru.eq_i, Ru.eq_b, Ru.ne_b, Ru.ne_s, Ru.ne_i, Ru.in_2, Ru.atI_0, Ru.atI_1, Ru.atI_2, Ru.ix_t, Ru.ix_l, Ru.cut_1, E.wipeS, Ru.bind_some, Option.bind_none, Ru.map_some, Option.map_none, List.getElem?_cons_zero, List.getElem?_cons_succ, List.set_cons_zero, List.set_cons_succ, List.length_cons, List.length_nil, List.map_cons, List.map_nil, List.replicate, List.cons_append, List.nil_append, hn, innerD, innerN, rvO, ns_00, ns_01, ns_02, ns_03, ns_04, ns_05, ns_06, ns_10, ns_11, ns_12, ns_13, ns_14, ns_15, ns_16, ns_20, ns_21, ns_22, ns_23, ns_24, ns_25, ns_26, ns_30, ns_31, ns_32, ns_33, ns_34, ns_35, ns_36, ns_40, ns_41, ns_42, ns_43, ns_44, ns_45, ns_46, ns_50, ns_51, ns_52, ns_53, ns_54, ns_55, ns_56, ns_60, ns_61, ns_62, ns_63, ns_64, ns_65, ns_66, *]
    | [y, z], _ =>
      rcases nameCases s with rfl | rfl | rfl | rfl | rfl | rfl | ⟨a1, a2, a3, a4, a5, a6, a7, a8, a9, a10⟩ <;>
        simp [m_inner_conditions, b_inner_conditions, -Option.bind_some, -Option.map_some, Ru.c_e, Ru.v_e, Ru.v_d, Ru.rv_e, Ru.rv_d, Ru.rv_l, Ru.nil_e, Ru.cons_e, Ru.cons_d, Ru.cons_l, Ru.cons_2, Ru.tup_e, Ru.tup_d, Ru.lst_e, Ru.lst_d, Ru.rd_e, Ru.rd_d, Ru.rd_l, Ru.op_e, Ru.op_1, Ru.op_2, Ru.op_3, Ru.un_e, Ru.un_1, Ru.isi_e, Ru.ite_e, Ru.ite_t, Ru.ite_f, Ru.ofB_e, Ru.ofB_1, Ru.toB_e, Ru.toB_1, Ru.and_e, Ru.and_t, Ru.and_f, Ru.or_e, Ru.or_t, Ru.or_f, Ru.not_e, Ru.not_1, Ru.px_e, Ru.px_1, Ru.px_2, Ru.oN_e, Ru.oS_e, Ru.oS_1, Ru.sl_e, Ru.sl_1, Ru.sl_2, Ru.sl_3, Ru.sl3_e, Ru.tl_1, Ru.tl_2, Ru.tl_3, Ru.tl_4, Ru.call_e, Ru.call_1, Ru.call_2, Ru.callP_e, Ru.callP_1, Ru.callP_2, Ru.chain_e, Ru.ch_1, Ru.ch_2, Ru.ch_t, Ru.ch_f, Ru.iL_e, Ru.iL_d, Ru.iL_l, Ru.iT_e, Ru.iT_d, Ru.iR1_e, Ru.iR1_1, Ru.lR_e, Ru.lR_1, Ru.tN_e, Ru.tT_2, Ru.yes_e, Ru.lc_e, Ru.lc_1, Ru.lc_2, Ru.seq_e, Ru.seq_nx, Ru.seq_rt, Ru.nop_e, Ru.set_e, Ru.set_d, Ru.set_l, Ru.setL_e, Ru.setL_l, Ru.ret_e, Ru.ret_1, Ru.retV_e, Ru.retV_l, Ru.retV_d, Ru.frz_e, Ru.frz_l, Ru.sIte_e, Ru.sIte_t, Ru.sIte_f, Ru.for_e, Ru.for_1, Ru.for_nil, Ru.for_cons, Ru.fK_1, Ru.fK_nx, Ru.fK_rt, Ru.append_e, Ru.append_1, Ru.append_d, Ru.append_l, Ru.extend_e, Ru.extend_1, Ru.extend_l, Ru.pop_e, Ru.pop_1, Ru.setIx_e, Ru.setIx_d, Ru.setP_e, Ru.setP_d, Ru.setP_1, Ru.par_e, Ru.par_1, Ru.stup_e, Ru.stup_d, Ru.wK_t, Ru.wK_f, Ru.wK_nx, Ru.wK_rt, Ru.runB_f, Ru.runB_t, Ru.rb_f, Ru.rb_t, Ru.rb_n, Ru.lt_i, Ru.le_i, Ru.gt_i, Ru.ge_i, Ru.sub_i, Ru.add_i, Ru.add_s, Ru.add_t, Ru.add_l, Ru.mul_i, Ru.div_i, Ru.mod_i, Ru.neg_i, Ru.is_n, Ru.isNot_n, Ru.non_n, Ru.non_i, Ru.non_b, Ru.non_s, Ru.non_l, Ru.non_t, Ru.len_l, Ru.len_t, Ru.len_s, Ru.list_l, Ru.list_t, Ru.tuple_l, Ru.tuple_t, Ru.int_i, Ru.gsl_l, Ru.gsl_t, Ru.gsl_s, Ru.eq_s, Ru.eq_i, Ru.eq_b, Ru.ne_b, Ru.ne_s, Ru.ne_i, Ru.in_2, Ru.atI_0, Ru.atI_1, Ru.atI_2, Ru.ix_t, Ru.ix_l, Ru.cut_1, E.wipeS, Ru.bind_some, Option.bind_none, Ru.map_some, Option.map_none, List.getElem?_cons_zero, List.getElem?_cons_succ, List.set_cons_zero, List.set_cons_succ, List.length_cons, List.length_nil, List.map_cons, List.map_nil, List.replicate, List.cons_append, List.nil_append, hn, innerD, innerN, rvO, ns_00, ns_01, ns_02, ns_03, ns_04, ns_05, ns_06, ns_10, ns_11, ns_12, ns_13, ns_14, ns_15, ns_16, ns_20, ns_21, ns_22, ns_23, ns_24, ns_25, ns_26, ns_30, ns_31, ns_32, ns_33, ns_34, ns_35, ns_36, ns_40, ns_41, ns_42, ns_43, ns_44, ns_45, ns_46, ns_50, ns_51, ns_52, ns_53, ns_54, ns_55, ns_56, ns_60, ns_61, ns_62, ns_63, ns_64, ns_65, ns_66, *]
    | y :: z :: u :: r, _ =>
      have l1 : ((r.length : Int) + 1 + 1 + 1 + 1 == 1) = false := beq_false_of_ne (by omega)
      have l2 : ((r.length : Int) + 1 + 1 + 1 + 1 == 2) = false := beq_false_of_ne (by omega)
      have l3 : ((r.length : Int) + 1 + 1 + 1 + 1 == 3) = false := beq_false_of_ne (by omega)
      rcases nameCases s with rfl | rfl | rfl | rfl | rfl | rfl | ⟨a1, a2, a3, a4, a5, a6, a7, a8, a9, a10⟩ <;>
        simp [m_inner_conditions, b_inner_conditions, -Option.bind_some, -Option.map_some, Ru.c_e, Ru.v_e, Ru.v_d, Ru.rv_e, Ru.rv_d, Ru.rv_l, Ru.nil_e, Ru.cons_e, Ru.cons_d, Ru.cons_l, Ru.cons_2, Ru.tup_e, Ru.tup_d, Ru.lst_e, Ru.lst_d, Ru.rd_e, Ru.rd_d, Ru.rd_l, Ru.op_e, Ru.op_1, Ru.op_2, Ru.op_3, Ru.un_e, Ru.un_1, Ru.isi_e, Ru.ite_e, Ru.ite_t, Ru.ite_f, Ru.ofB_e, Ru.ofB_1, Ru.toB_e, Ru.toB_1, Ru.and_e, Ru.and_t, Ru.and_f, Ru.or_e, Ru.or_t, Ru.or_f, Ru.not_e, Ru.not_1, Ru.px_e, Ru.px_1, Ru.px_2, Ru.oN_e, Ru.oS_e, Ru.oS_1, Ru.sl_e, Ru.sl_1, Ru.sl_2, Ru.sl_3, Ru.sl3_e, Ru.tl_1, Ru.tl_2, Ru.tl_3, Ru.tl_4, Ru.call_e, Ru.call_1, Ru.call_2, Ru.callP_e, Ru.callP_1, Ru.callP_2, Ru.chain_e, Ru.ch_1, Ru.ch_2, Ru.ch_t, Ru.ch_f, Ru.iL_e, Ru.iL_d, Ru.iL_l, Ru.iT_e, Ru.iT_d, Ru.iR1_e, Ru.iR1_1, Ru.lR_e, Ru.lR_1, Ru.tN_e, Ru.tT_2, Ru.yes_e, Ru.lc_e, Ru.lc_1, Ru.lc_2, Ru.seq_e, Ru.seq_nx, Ru.seq_rt, Ru.nop_e, Ru.set_e, Ru.set_d, Ru.set_l, Ru.setL_e, Ru.setL_l, Ru.ret_e, Ru.ret_1, Ru.retV_e, Ru.retV_l, Ru.retV_d, Ru.frz_e, Ru.frz_l, Ru.sIte_e, Ru.sIte_t, Ru.sIte_f, Ru.for_e, Ru.for_1, Ru.for_nil, Ru.for_cons, Ru.fK_1, Ru.fK_nx, Ru.fK_rt, Ru.append_e, Ru.append_1, Ru.append_d, Ru.append_l, Ru.extend_e, Ru.extend_1, Ru.extend_l, Ru.pop_e, Ru.pop_1, Ru.setIx_e, Ru.setIx_d, Ru.setP_e, Ru.setP_d, Ru.setP_1, Ru.par_e, Ru.par_1, Ru.stup_e, Ru.stup_d, Ru.wK_t, Ru.wK_f, Ru.wK_nx, Ru.wK_rt, Ru.runB_f, Ru.runB_t, Ru.rb_f, Ru.rb_t, Ru.rb_n, Ru.lt_i, Ru.le_i, Ru.gt_i, Ru.ge_i, Ru.sub_i, Ru.add_i, Ru.add_s, Ru.add_t, Ru.add_l, Ru.mul_i, Ru.div_i, Ru.mod_i, Ru.neg_i, Ru.is_n, Ru.isNot_n, Ru.non_n, Ru.non_i, Ru.non_b, Ru.non_s, Ru.non_l, Ru.non_t, Ru.len_l, Ru.len_t, Ru.len_s, Ru.list_l, Ru.list_t, Ru.tuple_l, Ru.tuple_t, Ru.int_i, Ru.gsl_l, Ru.gsl_t, Ru.gsl_s, Ru.eq_s, Ru.eq_i, Ru.eq_b, Ru.ne_b, Ru.ne_s, Ru.ne_i, Ru.in_2, Ru.atI_0, Ru.atI_1, Ru.atI_2, Ru.ix_t, Ru.ix_l, Ru.cut_1, E.wipeS, Ru.bind_some, Option.bind_none, Ru.map_some, Option.map_none, List.getElem?_cons_zero, List.getElem?_cons_succ, List.set_cons_zero, List.set_cons_succ, List.length_cons, List.length_nil, List.map_cons, List.map_nil, List.replicate, List.cons_append, List.nil_append, hn, innerD, innerN, rvO, ns_00, ns_01, ns_02, ns_03, ns_04, ns_05, ns_06, ns_10, ns_11, ns_12, ns_13, ns_14, ns_15, ns_16, ns_20, ns_21, ns_22, ns_23, ns_24, ns_25, ns_26, ns_30, ns_31, ns_32, ns_33, ns_34, ns_35, ns_36, ns_40, ns_41, ns_42, ns_43, ns_44, ns_45, ns_46, ns_50, ns_51, ns_52, ns_53, ns_54, ns_55, ns_56, ns_60, ns_61, ns_62, ns_63, ns_64, ns_65, ns_66, *]
  · have hn := e_name_of h
    have h0 : nameD x = "" := by
      unfold nameD
      split
      · exact absurd ⟨_, _, rfl⟩ hs
      · rfl
    have h1 : innerD d x = none := by
      unfold innerD
      split
      · exact absurd ⟨_, _, rfl⟩ hs
      · rfl
    rw [h0] at hn
    simp [m_inner_conditions, b_inner_conditions, -Option.bind_some, -Option.map_some, Ru.c_e, Ru.v_e, Ru.v_d, Ru.rv_e, Ru.rv_d, Ru.rv_l, Ru.nil_e, Ru.cons_e, Ru.cons_d, Ru.cons_l, Ru.cons_2, Ru.tup_e, Ru.tup_d, Ru.lst_e, Ru.lst_d, Ru.rd_e, Ru.rd_d, Ru.rd_l, Ru.op_e, Ru.op_1, Ru.op_2, Ru.op_3, Ru.un_e, Ru.un_1, Ru.isi_e, Ru.ite_e, Ru.ite_t, Ru.ite_f, Ru.ofB_e, Ru.ofB_1, Ru.toB_e, Ru.toB_1, Ru.and_e, Ru.and_t, Ru.and_f, Ru.or_e, Ru.or_t, Ru.or_f, Ru.not_e, Ru.not_1, Ru.px_e, Ru.px_1, Ru.px_2, Ru.oN_e, Ru.oS_e, Ru.oS_1, Ru.sl_e, Ru.sl_1, Ru.sl_2, Ru.sl_3, Ru.sl3_e, Ru.tl_1, Ru.tl_2, Ru.tl_3, Ru.tl_4, Ru.call_e, Ru.call_1, Ru.call_2, Ru.callP_e, Ru.callP_1, Ru.callP_2, Ru.chain_e, Ru.ch_1, Ru.ch_2, Ru.ch_t, Ru.ch_f, Ru.iL_e, Ru.iL_d, Ru.iL_l, Ru.iT_e, Ru.iT_d, Ru.iR1_e, Ru.iR1_1, Ru.lR_e, Ru.lR_1, Ru.tN_e, Ru.tT_2, Ru.yes_e, Ru.lc_e, Ru.lc_1, Ru.lc_2, Ru.seq_e, Ru.seq_nx, Ru.seq_rt, Ru.nop_e, Ru.set_e, Ru.set_d, Ru.set_l, Ru.setL_e, Ru.setL_l, Ru.ret_e, Ru.ret_1, Ru.retV_e, Ru.retV_l, Ru.retV_d, Ru.frz_e, Ru.frz_l, Ru.sIte_e, Ru.sIte_t, Ru.sIte_f, Ru.for_e, Ru.for_1, Ru.for_nil, Ru.for_cons, Ru.fK_1, Ru.fK_nx, Ru.fK_rt, Ru.append_e, Ru.append_1, Ru.append_d, Ru.append_l, Ru.extend_e, Ru.extend_1, Ru.extend_l, Ru.pop_e, Ru.pop_1, Ru.setIx_e, Ru.setIx_d, Ru.setP_e, Ru.setP_d, Ru.setP_1, Ru.par_e, Ru.par_1, Ru.stup_e, Ru.stup_d, Ru.wK_t, Ru.wK_f, Ru.wK_nx, Ru.wK_rt, Ru.runB_f, Ru.runB_t, Ru.rb_f, Ru.rb_t, Ru.rb_n, Ru.lt_i, Ru.le_i, Ru.gt_i, Ru.ge_i, Ru.sub_i, Ru.add_i, Ru.add_s, Ru.add_t, Ru.add_l, Ru.mul_i, Ru.div_i, Ru.mod_i, Ru.neg_i, Ru.is_n, Ru.isNot_n, Ru.non_n, Ru.non_i, Ru.non_b, Ru.non_s, Ru.non_l, Ru.non_t, Ru.len_l, Ru.len_t, Ru.len_s, Ru.list_l, Ru.list_t, Ru.tuple_l, Ru.tuple_t, Ru.int_i, Ru.gsl_l, Ru.gsl_t, Ru.gsl_s, Ru.eq_s, Ru.eq_i, Ru.eq_b, Ru.ne_b, Ru.ne_s, Ru.ne_i, Ru.in_2, Ru.atI_0, Ru.atI_1, Ru.atI_2, Ru.ix_t, Ru.ix_l, Ru.cut_1, E.wipeS, Ru.bind_some, Option.bind_none, Ru.map_some, Option.map_none, List.getElem?_cons_zero, List.getElem?_cons_succ, List.set_cons_zero, List.set_cons_succ, List.length_cons, List.length_nil, List.map_cons, List.map_nil, List.replicate, List.cons_append, List.nil_append, hn, h1, rvO, ns_00, ns_01, ns_02, ns_03, ns_04, ns_05, ns_06, ns_10, ns_11, ns_12, ns_13, ns_14, ns_15, ns_16, ns_20, ns_21, ns_22, ns_23, ns_24, ns_25, ns_26, ns_30, ns_31, ns_32, ns_33, ns_34, ns_35, ns_36, ns_40, ns_41, ns_42, ns_43, ns_44, ns_45, ns_46, ns_50, ns_51, ns_52, ns_53, ns_54, ns_55, ns_56, ns_60, ns_61, ns_62, ns_63, ns_64, ns_65, ns_66]
end K1

/-! deedsagain k01: is_condition. -/
namespace K1
open PySem PySem.Spec L2 Dg
open Dg.Ru (isI isB isS isTu isLi isT_int isT_bool isT_str isT_list isT_tuple)
set_option maxHeartbeats 0
mutual
def sz : PyData → Nat
  | .none | .bool _ | .int _ => 1
  | .str x => x.length + 1
  | .list xs => szAll xs + 1
  | .tuple xs => szAll xs + 1
  | .dict _ => 1
def szAll : List PyData → Nat
  | [] => 0
  | x :: xs => sz x + szAll xs
end
theorem sz_pos : ∀ d : D, 1 ≤ sz d
  | .none => Nat.le_refl _
  | .bool _ => Nat.le_refl _
  | .int _ => Nat.le_refl _
  | .str _ => Nat.le_add_left _ _
  | .list _ => Nat.le_add_left _ _
  | .tuple _ => Nat.le_add_left _ _
  | .dict _ => Nat.le_refl _
theorem szAll_len : ∀ xs : List D, xs.length ≤ szAll xs
  | [] => Nat.le_refl _
  | x :: xs => by
    have h1 := sz_pos x
    have h2 := szAll_len xs
    simp only [szAll, List.length_cons]
    omega
theorem sz_mem : ∀ {xs : List D} {x : D}, x ∈ xs → sz x ≤ szAll xs
  | y :: ys, x, h => by
    simp only [szAll]
    rcases List.mem_cons.mp h with rfl | h
    · omega
    · have := sz_mem h; omega
theorem szAll_append : ∀ xs ys : List D, szAll (xs ++ ys) = szAll xs + szAll ys
  | [], ys => by simp [szAll]
  | x :: xs, ys => by
    simp only [List.cons_append, szAll, szAll_append xs ys]
    omega
/-! ### the definition -/
def vC (d : Int) : Nat → D → Bool
  | 0, _ => false
  | n + 1, x => match innerD d x with
    | none => false
    | some l => l.all (vC d n)
theorem innerD_some {d : Int} {x : D} {l : List D} (h : innerD d x = some l) : ∃ s, x = .tuple (.str s :: l) ∨ l = [] := by
  unfold innerD at h
  split at h
  · rename_i s xs
    unfold innerN at h
    split at h
    · cases h; exact ⟨s, .inr rfl⟩
    · split at h
      · split at h
        · split at h
          · cases h; exact ⟨s, .inr rfl⟩
          · cases h
        · cases h
      · split at h
        · cases h; exact ⟨s, .inl rfl⟩
        · split at h
          · cases h; exact ⟨s, .inl rfl⟩
          · cases h
  · cases h
theorem inner_sz {d : Int} {x : D} {l : List D} (h : innerD d x = some l) : szAll l < sz x := by
  obtain ⟨s, rfl | rfl⟩ := innerD_some h
  · simp only [sz, szAll]; omega
  · exact sz_pos x
theorem plainAll_mem : ∀ {xs : List D}, PyData.plainAll xs = true → ∀ x ∈ xs, x.plain = true
  | [], _, x, h => by cases h
  | y :: ys, h, x, hx => by
    simp only [PyData.plainAll, Bool.and_eq_true] at h
    rcases List.mem_cons.mp hx with rfl | z
    · exact h.1
    · exact plainAll_mem h.2 x z
theorem inner_plain {d : Int} {x : D} {l : List D} (hp : x.plain = true) (h : innerD d x = some l) : ∀ y ∈ l, y.plain = true := by
  obtain ⟨s, rfl | rfl⟩ := innerD_some h
  · exact plain3 hp
  · intro y hy; cases hy
/-! ### the stack -/
def enc1 (q : D × Nat) : D := .tuple [q.1, .int q.2]
def tot (st : List (D × Nat)) : Nat := (st.map fun q => sz q.1).sum
theorem tot_append (a b : List (D × Nat)) : tot (a ++ b) = tot a + tot b := by simp [tot]
theorem tot_len : ∀ st : List (D × Nat), st.length ≤ tot st
  | [] => Nat.le_refl _
  | q :: r => by
    have h1 := sz_pos q.1
    have h2 := tot_len r
    simp only [tot, List.map_cons, List.sum_cons, List.length_cons] at *
    omega
theorem tot_inner (l : List D) (k : Nat) : tot (l.map fun y => (y, k)) = szAll l := by
  induction l with
  | nil => rfl
  | cons x xs ih =>
    simp only [tot, List.map_cons, List.sum_cons, szAll] at *
    omega
theorem enc1_mk {x : D} {k : Nat} : enc1 (x, k) = .tuple [x, .int k] := rfl
theorem loop {d t : Int} {v : D} : ∀ (fuel : Nat) (st : List (D × Nat)) (s3 s4 s5 s6 : Sl), (∀ q ∈ st, q.1.plain = true) → tot st < fuel → fuel ≤ 16000000 →
    (S.whl (c1_is_condition m_inner_conditions) (w2_is_condition m_inner_conditions) fuel ⟨[.d (W d t), .d v, .l (st.map enc1), s3, s4, s5, s6], none⟩).bind
      (Ru.seqK (S.ret (E.c (.bool true)))) = some (.rt (.d (.bool (st.all fun q => vC d (41 - q.2) q.1))) none) := by
  intro fuel
  induction fuel with
  | zero => intro st _ _ _ _ _ h; omega
  | succ fuel ih =>
    intro st s3 s4 s5 s6 hp hf hz
    rcases List.eq_nil_or_concat st with rfl | ⟨st', q, rfl⟩
    · rw [Ru.whl_e]
      simp [-Option.bind_some, -Option.map_some, Ru.c_e, Ru.v_e, Ru.v_d, Ru.rv_e, Ru.rv_d, Ru.rv_l, Ru.nil_e, Ru.cons_e, Ru.cons_d, Ru.cons_l, Ru.cons_2, Ru.tup_e, Ru.tup_d, Ru.lst_e, Ru.lst_d, Ru.rd_e, Ru.rd_d, Ru.rd_l, Ru.op_e, Ru.op_1, Ru.op_2, Ru.op_3, Ru.un_e, Ru.un_1, Ru.isi_e, Ru.ite_e, Ru.ite_t, Ru.ite_f, Ru.ofB_e, Ru.ofB_1, Ru.toB_e, Ru.toB_1, Ru.and_e, Ru.and_t, Ru.and_f, Ru.or_e, Ru.or_t, Ru.or_f, Ru.not_e, Ru.not_1, Ru.px_e, Ru.px_1, Ru.px_2, Ru.oN_e, Ru.oS_e, Ru.oS_1, Ru.sl_e, Ru.sl_1, Ru.sl_2, Ru.sl_3, Ru.sl3_e, Ru.tl_1, Ru.tl_2, Ru.tl_3, Ru.tl_4, Ru.call_e, Ru.call_1, Ru.call_2, Ru.callP_e, Ru.callP_1, Ru.callP_2, Ru.chain_e, Ru.ch_1, Ru.ch_2, Ru.ch_t, Ru.ch_f, Ru.iL_e, Ru.iL_d, Ru.iL_l, Ru.iT_e, Ru.iT_d, Ru.iR1_e, Ru.iR1_1, Ru.lR_e, Ru.lR_1, Ru.tN_e, Ru.tT_2, Ru.yes_e, Ru.lc_e, Ru.lc_1, Ru.lc_2, Ru.seq_e, Ru.seq_nx, Ru.seq_rt, Ru.nop_e, Ru.set_e, Ru.set_d, Ru.set_l, Ru.setL_e, Ru.setL_l, Ru.ret_e, Ru.ret_1, Ru.retV_e, Ru.retV_l, Ru.retV_d, Ru.frz_e, Ru.frz_l, Ru.sIte_e, Ru.sIte_t, Ru.sIte_f, Ru.for_e, Ru.for_1, Ru.for_nil, Ru.for_cons, Ru.fK_1, Ru.fK_nx, Ru.fK_rt, Ru.append_e, Ru.append_1, Ru.append_d, Ru.append_l, Ru.extend_e, Ru.extend_1, Ru.extend_l, Ru.pop_e, Ru.pop_1, Ru.setIx_e, Ru.setIx_d, Ru.setP_e, Ru.setP_d, Ru.setP_1, Ru.par_e, Ru.par_1, Ru.stup_e, Ru.stup_d, Ru.wK_t, Ru.wK_f, Ru.wK_nx, Ru.wK_rt, Ru.runB_f, Ru.runB_t, Ru.rb_f, Ru.rb_t, Ru.rb_n, Ru.lt_i, Ru.le_i, Ru.gt_i, Ru.ge_i, Ru.sub_i, Ru.add_i, Ru.add_s, Ru.add_t, Ru.add_l, Ru.mul_i, Ru.div_i, Ru.mod_i, Ru.neg_i, Ru.is_n, Ru.isNot_n, Ru.non_n, Ru.non_i, Ru.non_b, Ru.non_s, Ru.non_l, Ru.non_t, Ru.len_l, Ru.len_t, Ru.len_s, Ru.list_l, Ru.list_t, Ru.tuple_l, Ru.tuple_t, Ru.int_i, Ru.gsl_l, Ru.gsl_t, Ru.gsl_s, Ru.eq_s, Ru.eq_i, Ru.eq_b, Ru.ne_b, Ru.ne_s, Ru.ne_i, Ru.in_2, Ru.atI_0, Ru.atI_1, Ru.atI_2, Ru.ix_t, Ru.ix_l, Ru.cut_1, E.wipeS, Ru.bind_some, Option.bind_none, Ru.map_some, Option.map_none, List.getElem?_cons_zero, List.getElem?_cons_succ, List.set_cons_zero, List.set_cons_succ, List.length_cons, List.length_nil, List.map_cons, List.map_nil, List.replicate, List.cons_append, List.nil_append, c1_is_condition]
    · obtain ⟨x, k⟩ := q
      rw [List.concat_eq_append] at hp hf ⊢
      have hx : x.plain = true := hp (x, k) (by simp)
      have hi := e_inner_conditions (d := d) (t := t) hx
      have hc : c1_is_condition m_inner_conditions ⟨[.d (W d t), .d v, .l ((st' ++ [(x, k)]).map enc1), s3, s4, s5, s6], none⟩ = some (true, none) := by
        have hlen : (0 : Int) < (st'.length : Int) + 1 := by omega
        simp [-Option.bind_some, -Option.map_some, Ru.c_e, Ru.v_e, Ru.v_d, Ru.rv_e, Ru.rv_d, Ru.rv_l, Ru.nil_e, Ru.cons_e, Ru.cons_d, Ru.cons_l, Ru.cons_2, Ru.tup_e, Ru.tup_d, Ru.lst_e, Ru.lst_d, Ru.rd_e, Ru.rd_d, Ru.rd_l, Ru.op_e, Ru.op_1, Ru.op_2, Ru.op_3, Ru.un_e, Ru.un_1, Ru.isi_e, Ru.ite_e, Ru.ite_t, Ru.ite_f, Ru.ofB_e, Ru.ofB_1, Ru.toB_e, Ru.toB_1, Ru.and_e, Ru.and_t, Ru.and_f, Ru.or_e, Ru.or_t, Ru.or_f, Ru.not_e, Ru.not_1, Ru.px_e, Ru.px_1, Ru.px_2, Ru.oN_e, Ru.oS_e, Ru.oS_1, Ru.sl_e, Ru.sl_1, Ru.sl_2, Ru.sl_3, Ru.sl3_e, Ru.tl_1, Ru.tl_2, Ru.tl_3, Ru.tl_4, Ru.call_e, Ru.call_1, Ru.call_2, Ru.callP_e, Ru.callP_1, Ru.callP_2, Ru.chain_e, Ru.ch_1, Ru.ch_2, Ru.ch_t, Ru.ch_f, Ru.iL_e, Ru.iL_d, Ru.iL_l, Ru.iT_e, Ru.iT_d, Ru.iR1_e, Ru.iR1_1, Ru.lR_e, Ru.lR_1, Ru.tN_e, Ru.tT_2, Ru.yes_e, Ru.lc_e, Ru.lc_1, Ru.lc_2, Ru.seq_e, Ru.seq_nx, Ru.seq_rt, Ru.nop_e, Ru.set_e, Ru.set_d, Ru.set_l, Ru.setL_e, Ru.setL_l, Ru.ret_e, Ru.ret_1, Ru.retV_e, Ru.retV_l, Ru.retV_d, Ru.frz_e, Ru.frz_l, Ru.sIte_e, Ru.sIte_t, Ru.sIte_f, Ru.for_e, Ru.for_1, Ru.for_nil, Ru.for_cons, Ru.fK_1, Ru.fK_nx, Ru.fK_rt, Ru.append_e, Ru.append_1, Ru.append_d, Ru.append_l, Ru.extend_e, Ru.extend_1, Ru.extend_l, Ru.pop_e, Ru.pop_1, Ru.setIx_e, Ru.setIx_d, Ru.setP_e, Ru.setP_d, Ru.setP_1, Ru.par_e, Ru.par_1, Ru.stup_e, Ru.stup_d, Ru.wK_t, Ru.wK_f, Ru.wK_nx, Ru.wK_rt, Ru.runB_f, Ru.runB_t, Ru.rb_f, Ru.rb_t, Ru.rb_n, Ru.lt_i, Ru.le_i, Ru.gt_i, Ru.ge_i, Ru.sub_i, Ru.add_i, Ru.add_s, Ru.add_t, Ru.add_l, Ru.mul_i, Ru.div_i, Ru.mod_i, Ru.neg_i, Ru.is_n, Ru.isNot_n, Ru.non_n, Ru.non_i, Ru.non_b, Ru.non_s, Ru.non_l, Ru.non_t, Ru.len_l, Ru.len_t, Ru.len_s, Ru.list_l, Ru.list_t, Ru.tuple_l, Ru.tuple_t, Ru.int_i, Ru.gsl_l, Ru.gsl_t, Ru.gsl_s, Ru.eq_s, Ru.eq_i, Ru.eq_b, Ru.ne_b, Ru.ne_s, Ru.ne_i, Ru.in_2, Ru.atI_0, Ru.atI_1, Ru.atI_2, Ru.ix_t, Ru.ix_l, Ru.cut_1, E.wipeS, Ru.bind_some, Option.bind_none, Ru.map_some, Option.map_none, List.getElem?_cons_zero, List.getElem?_cons_succ, List.set_cons_zero, List.set_cons_succ, List.length_cons, List.length_nil, List.map_cons, List.map_nil, List.replicate, List.cons_append, List.nil_append, c1_is_condition, hlen]
      rw [Ru.whl_e, hc]
      simp only [Option.bind_some, Ru.wK_t]
      by_cases hk : k ≤ 40
      · have hk2 : (k : Int) ≤ 40 := by omega
        have e41 : 41 - k = (40 - k) + 1 := by omega
        cases hD : innerD d x with
        | none =>
          rw [hD] at hi
          simp [-Option.bind_some, -Option.map_some, Ru.c_e, Ru.v_e, Ru.v_d, Ru.rv_e, Ru.rv_d, Ru.rv_l, Ru.nil_e, Ru.cons_e, Ru.cons_d, Ru.cons_l, Ru.cons_2, Ru.tup_e, Ru.tup_d, Ru.lst_e, Ru.lst_d, Ru.rd_e, Ru.rd_d, Ru.rd_l, Ru.op_e, Ru.op_1, Ru.op_2, Ru.op_3, Ru.un_e, Ru.un_1, Ru.isi_e, Ru.ite_e, Ru.ite_t, Ru.ite_f, Ru.ofB_e, Ru.ofB_1, Ru.toB_e, Ru.toB_1, Ru.and_e, Ru.and_t, Ru.and_f, Ru.or_e, Ru.or_t, Ru.or_f, Ru.not_e, Ru.not_1, Ru.px_e, Ru.px_1, Ru.px_2, Ru.oN_e, Ru.oS_e, Ru.oS_1, Ru.sl_e, Ru.sl_1, Ru.sl_2, Ru.sl_3, Ru.sl3_e, Ru.tl_1, Ru.tl_2, Ru.tl_3, Ru.tl_4, Ru.call_e, Ru.call_1, Ru.call_2, Ru.callP_e, Ru.callP_1, Ru.callP_2, Ru.chain_e, Ru.ch_1, Ru.ch_2, Ru.ch_t, Ru.ch_f, Ru.iL_e, Ru.iL_d, Ru.iL_l, Ru.iT_e, Ru.iT_d, Ru.iR1_e, Ru.iR1_1, Ru.lR_e, Ru.lR_1, Ru.tN_e, Ru.tT_2, Ru.yes_e, Ru.lc_e, Ru.lc_1, Ru.lc_2, Ru.seq_e, Ru.seq_nx, Ru.seq_rt, Ru.nop_e, Ru.set_e, Ru.set_d, Ru.set_l, Ru.setL_e, Ru.setL_l, Ru.ret_e, Ru.ret_1, Ru.retV_e, Ru.retV_l, Ru.retV_d, Ru.frz_e, Ru.frz_l, Ru.sIte_e, Ru.sIte_t, Ru.sIte_f, Ru.for_e, Ru.for_1, Ru.for_nil, Ru.for_cons, Ru.fK_1, Ru.fK_nx, Ru.fK_rt, Ru.append_e, Ru.append_1, Ru.append_d, Ru.append_l, Ru.extend_e, Ru.extend_1, Ru.extend_l, Ru.pop_e, Ru.pop_1, Ru.setIx_e, Ru.setIx_d, Ru.setP_e, Ru.setP_d, Ru.setP_1, Ru.par_e, Ru.par_1, Ru.stup_e, Ru.stup_d, Ru.wK_t, Ru.wK_f, Ru.wK_nx, Ru.wK_rt, Ru.runB_f, Ru.runB_t, Ru.rb_f, Ru.rb_t, Ru.rb_n, Ru.lt_i, Ru.le_i, Ru.gt_i, Ru.ge_i, Ru.sub_i, Ru.add_i, Ru.add_s, Ru.add_t, Ru.add_l, Ru.mul_i, Ru.div_i, Ru.mod_i, Ru.neg_i, Ru.is_n, Ru.isNot_n, Ru.non_n, Ru.non_i, Ru.non_b, Ru.non_s, Ru.non_l, Ru.non_t, Ru.len_l, Ru.len_t, Ru.len_s, Ru.list_l, Ru.list_t, Ru.tuple_l, Ru.tuple_t, Ru.int_i, Ru.gsl_l, Ru.gsl_t, Ru.gsl_s, Ru.eq_s, Ru.eq_i, Ru.eq_b, Ru.ne_b, Ru.ne_s, Ru.ne_i, Ru.in_2, Ru.atI_0, Ru.atI_1, Ru.atI_2, Ru.ix_t, Ru.ix_l, Ru.cut_1, E.wipeS, Ru.bind_some, Option.bind_none, Ru.map_some, Option.map_none, List.getElem?_cons_zero, List.getElem?_cons_succ, List.set_cons_zero, List.set_cons_succ, List.length_cons, List.length_nil, List.map_cons, List.map_nil, List.replicate, List.cons_append, List.nil_append, w2_is_condition, enc1_mk, hk2, hi, rvO]
          simp [e41, vC, hD]
        | some l =>
          rw [hD] at hi
          have hsz := inner_sz hD
          have hlc : E.lcL (E.tN 6) E.yes (E.tup (E.cons (E.v 6) (E.cons (E.op gAdd (E.rv 4) (E.rd (E.c (PyData.int 1)))) E.nil))) (E.wipeS [Sl.d (W d t), Sl.d v, Sl.l (List.map enc1 st'), Sl.d x, Sl.d (PyData.int k), Sl.d (PyData.list l), s6] [6]) l none [] =
              some (l.map fun y => enc1 (y, k + 1), none) := by
            rw [Ru.lc_map (fun y => enc1 (y, k + 1)) l []]
            · simp
            · intro y hy
              refine ⟨_, rfl, rfl, .d (enc1 (y, k + 1)), ?_, rfl⟩
              simp [-Option.bind_some, -Option.map_some, Ru.c_e, Ru.v_e, Ru.v_d, Ru.rv_e, Ru.rv_d, Ru.rv_l, Ru.nil_e, Ru.cons_e, Ru.cons_d, Ru.cons_l, Ru.cons_2, Ru.tup_e, Ru.tup_d, Ru.lst_e, Ru.lst_d, Ru.rd_e, Ru.rd_d, Ru.rd_l, Ru.op_e, Ru.op_1, Ru.op_2, Ru.op_3, Ru.un_e, Ru.un_1, Ru.isi_e, Ru.ite_e, Ru.ite_t, Ru.ite_f, Ru.ofB_e, Ru.ofB_1, Ru.toB_e, Ru.toB_1, Ru.and_e, Ru.and_t, Ru.and_f, Ru.or_e, Ru.or_t, Ru.or_f, Ru.not_e, Ru.not_1, Ru.px_e, Ru.px_1, Ru.px_2, Ru.oN_e, Ru.oS_e, Ru.oS_1, Ru.sl_e, Ru.sl_1, Ru.sl_2, Ru.sl_3, Ru.sl3_e, Ru.tl_1, Ru.tl_2, Ru.tl_3, Ru.tl_4, Ru.call_e, Ru.call_1, Ru.call_2, Ru.callP_e, Ru.callP_1, Ru.callP_2, Ru.chain_e, Ru.ch_1, Ru.ch_2, Ru.ch_t, Ru.ch_f, Ru.iL_e, Ru.iL_d, Ru.iL_l, Ru.iT_e, Ru.iT_d, Ru.iR1_e, Ru.iR1_1, Ru.lR_e, Ru.lR_1, Ru.tN_e, Ru.tT_2, Ru.yes_e, Ru.lc_e, Ru.lc_1, Ru.lc_2, Ru.seq_e, Ru.seq_nx, Ru.seq_rt, Ru.nop_e, Ru.set_e, Ru.set_d, Ru.set_l, Ru.setL_e, Ru.setL_l, Ru.ret_e, Ru.ret_1, Ru.retV_e, Ru.retV_l, Ru.retV_d, Ru.frz_e, Ru.frz_l, Ru.sIte_e, Ru.sIte_t, Ru.sIte_f, Ru.for_e, Ru.for_1, Ru.for_nil, Ru.for_cons, Ru.fK_1, Ru.fK_nx, Ru.fK_rt, Ru.append_e, Ru.append_1, Ru.append_d, Ru.append_l, Ru.extend_e, Ru.extend_1, Ru.extend_l, Ru.pop_e, Ru.pop_1, Ru.setIx_e, Ru.setIx_d, Ru.setP_e, Ru.setP_d, Ru.setP_1, Ru.par_e, Ru.par_1, Ru.stup_e, Ru.stup_d, Ru.wK_t, Ru.wK_f, Ru.wK_nx, Ru.wK_rt, Ru.runB_f, Ru.runB_t, Ru.rb_f, Ru.rb_t, Ru.rb_n, Ru.lt_i, Ru.le_i, Ru.gt_i, Ru.ge_i, Ru.sub_i, Ru.add_i, Ru.add_s, Ru.add_t, Ru.add_l, Ru.mul_i, Ru.div_i, Ru.mod_i, Ru.neg_i, Ru.is_n, Ru.isNot_n, Ru.non_n, Ru.non_i, Ru.non_b, Ru.non_s, Ru.non_l, Ru.non_t, Ru.len_l, Ru.len_t, Ru.len_s, Ru.list_l, Ru.list_t, Ru.tuple_l, Ru.tuple_t, Ru.int_i, Ru.gsl_l, Ru.gsl_t, Ru.gsl_s, Ru.eq_s, Ru.eq_i, Ru.eq_b, Ru.ne_b, Ru.ne_s, Ru.ne_i, Ru.in_2, Ru.atI_0, Ru.atI_1, Ru.atI_2, Ru.ix_t, Ru.ix_l, Ru.cut_1, E.wipeS, Ru.bind_some, Option.bind_none, Ru.map_some, Option.map_none, List.getElem?_cons_zero, List.getElem?_cons_succ, List.set_cons_zero, List.set_cons_succ, List.length_cons, List.length_nil, List.map_cons, List.map_nil, List.replicate, List.cons_append, List.nil_append, enc1]
          have ht := tot_append st' [(x, k)]
          have ht2 : tot [(x, k)] = sz x := by simp [tot]
          have hl1 : l.length ≤ 16777216 := by
            have := szAll_len l
            omega
          have hl2 : (st'.map enc1).length + ((l.map fun y => (y, k + 1)).map enc1).length ≤ 16777216 := by
            have h1 := szAll_len l
            have h2 := tot_len st'
            simp only [List.length_map]
            omega
          have hw : w2_is_condition m_inner_conditions ⟨[.d (W d t), .d v, .l ((st' ++ [(x, k)]).map enc1), s3, s4, s5, s6], none⟩ =
              some (.nx ⟨[.d (W d t), .d v, .l ((st' ++ l.map fun y => (y, k + 1)).map enc1), .d x, .d (.int k), .d (.list l), s6], none⟩) := by
            simp only [E.wipeS, List.set_cons_zero, List.set_cons_succ] at hlc
            have hl2' : (st'.map enc1).length + (l.map fun y => enc1 (y, k + 1)).length ≤ 16777216 := by simpa using hl2
            rw [List.map_append, List.map_append, List.map_map]
            simp [-Option.bind_some, -Option.map_some, Ru.c_e, Ru.v_e, Ru.v_d, Ru.rv_e, Ru.rv_d, Ru.rv_l, Ru.nil_e, Ru.cons_e, Ru.cons_d, Ru.cons_l, Ru.cons_2, Ru.tup_e, Ru.tup_d, Ru.lst_e, Ru.lst_d, Ru.rd_e, Ru.rd_d, Ru.rd_l, Ru.op_e, Ru.op_1, Ru.op_2, Ru.op_3, Ru.un_e, Ru.un_1, Ru.isi_e, Ru.ite_e, Ru.ite_t, Ru.ite_f, Ru.ofB_e, Ru.ofB_1, Ru.toB_e, Ru.toB_1, Ru.and_e, Ru.and_t, Ru.and_f, Ru.or_e, Ru.or_t, Ru.or_f, Ru.not_e, Ru.not_1, Ru.px_e, Ru.px_1, Ru.px_2, Ru.oN_e, Ru.oS_e, Ru.oS_1, Ru.sl_e, Ru.sl_1, Ru.sl_2, Ru.sl_3, Ru.sl3_e, Ru.tl_1, Ru.tl_2, Ru.tl_3, Ru.tl_4, Ru.call_e, Ru.call_1, Ru.call_2, Ru.callP_e, Ru.callP_1, Ru.callP_2, Ru.chain_e, Ru.ch_1, Ru.ch_2, Ru.ch_t, Ru.ch_f, Ru.iL_e, Ru.iL_d, Ru.iL_l, Ru.iT_e, Ru.iT_d, Ru.iR1_e, Ru.iR1_1, Ru.lR_e, Ru.lR_1, Ru.tN_e, Ru.tT_2, Ru.yes_e, Ru.lc_e, Ru.lc_1, Ru.lc_2, Ru.seq_e, Ru.seq_nx, Ru.seq_rt, Ru.nop_e, Ru.set_e, Ru.set_d, Ru.set_l, Ru.setL_e, Ru.setL_l, Ru.ret_e, Ru.ret_1, Ru.retV_e, Ru.retV_l, Ru.retV_d, Ru.frz_e, Ru.frz_l, Ru.sIte_e, Ru.sIte_t, Ru.sIte_f, Ru.for_e, Ru.for_1, Ru.for_nil, Ru.for_cons, Ru.fK_1, Ru.fK_nx, Ru.fK_rt, Ru.append_e, Ru.append_1, Ru.append_d, Ru.append_l, Ru.extend_e, Ru.extend_1, Ru.extend_l, Ru.pop_e, Ru.pop_1, Ru.setIx_e, Ru.setIx_d, Ru.setP_e, Ru.setP_d, Ru.setP_1, Ru.par_e, Ru.par_1, Ru.stup_e, Ru.stup_d, Ru.wK_t, Ru.wK_f, Ru.wK_nx, Ru.wK_rt, Ru.runB_f, Ru.runB_t, Ru.rb_f, Ru.rb_t, Ru.rb_n, Ru.lt_i, Ru.le_i, Ru.gt_i, Ru.ge_i, Ru.sub_i, Ru.add_i, Ru.add_s, Ru.add_t, Ru.add_l, Ru.mul_i, Ru.div_i, Ru.mod_i, Ru.neg_i, Ru.is_n, Ru.isNot_n, Ru.non_n, Ru.non_i, Ru.non_b, Ru.non_s, Ru.non_l, Ru.non_t, Ru.len_l, Ru.len_t, Ru.len_s, Ru.list_l, Ru.list_t, Ru.tuple_l, Ru.tuple_t, Ru.int_i, Ru.gsl_l, Ru.gsl_t, Ru.gsl_s, Ru.eq_s, Ru.eq_i, Ru.eq_b, Ru.ne_b, Ru.ne_s, Ru.ne_i, Ru.in_2, Ru.atI_0, Ru.atI_1, Ru.atI_2, Ru.ix_t, Ru.ix_l, Ru.cut_1, E.wipeS, Ru.bind_some, Option.bind_none, Ru.map_some, Option.map_none, List.getElem?_cons_zero, List.getElem?_cons_succ, List.set_cons_zero, List.set_cons_succ, List.length_cons, List.length_nil, List.map_cons, List.map_nil, List.replicate, List.cons_append, List.nil_append, w2_is_condition, enc1_mk, hk2, hi, rvO, hl1, hlc]
            exact Ru.extend_l hl2'
          rw [hw]
          simp only [Option.bind_some, Ru.wK_nx]
          refine (ih _ _ _ _ _ ?_ ?_ (by omega)).trans ?_
          · intro q hq
            rcases List.mem_append.mp hq with h | h
            · exact hp q (by simp [h])
            · obtain ⟨y, hy, rfl⟩ := List.mem_map.mp h
              exact inner_plain hx hD y hy
          · rw [tot_append, tot_inner]
            omega
          · simp only [List.all_append, List.all_map, List.all_cons, List.all_nil, Bool.and_true, e41, vC, hD]
            have e2 : ((fun q : D × Nat => vC d (41 - q.2) q.1) ∘ fun y => (y, k + 1)) = vC d (40 - k) := by
              funext y
              show vC d (41 - (k + 1)) y = _
              congr 1
              omega
            rw [e2]
      · have hk2 : ¬ (k : Int) ≤ 40 := by omega
        have e41 : 41 - k = 0 := by omega
        simp [-Option.bind_some, -Option.map_some, Ru.c_e, Ru.v_e, Ru.v_d, Ru.rv_e, Ru.rv_d, Ru.rv_l, Ru.nil_e, Ru.cons_e, Ru.cons_d, Ru.cons_l, Ru.cons_2, Ru.tup_e, Ru.tup_d, Ru.lst_e, Ru.lst_d, Ru.rd_e, Ru.rd_d, Ru.rd_l, Ru.op_e, Ru.op_1, Ru.op_2, Ru.op_3, Ru.un_e, Ru.un_1, Ru.isi_e, Ru.ite_e, Ru.ite_t, Ru.ite_f, Ru.ofB_e, Ru.ofB_1, Ru.toB_e, Ru.toB_1, Ru.and_e, Ru.and_t, Ru.and_f, Ru.or_e, Ru.or_t, Ru.or_f, Ru.not_e, Ru.not_1, Ru.px_e, Ru.px_1, Ru.px_2, Ru.oN_e, Ru.oS_e, Ru.oS_1, Ru.sl_e, Ru.sl_1, Ru.sl_2, Ru.sl_3, Ru.sl3_e, Ru.tl_1, Ru.tl_2, Ru.tl_3, Ru.tl_4, Ru.call_e, Ru.call_1, Ru.call_2, Ru.callP_e, Ru.callP_1, Ru.callP_2, Ru.chain_e, Ru.ch_1, Ru.ch_2, Ru.ch_t, Ru.ch_f, Ru.iL_e, Ru.iL_d, Ru.iL_l, Ru.iT_e, Ru.iT_d, Ru.iR1_e, Ru.iR1_1, Ru.lR_e, Ru.lR_1, Ru.tN_e, Ru.tT_2, Ru.yes_e, Ru.lc_e, Ru.lc_1, Ru.lc_2, Ru.seq_e, Ru.seq_nx, Ru.seq_rt, Ru.nop_e, Ru.set_e, Ru.set_d, Ru.set_l, Ru.setL_e, Ru.setL_l, Ru.ret_e, Ru.ret_1, Ru.retV_e, Ru.retV_l, Ru.retV_d, Ru.frz_e, Ru.frz_l, Ru.sIte_e, Ru.sIte_t, Ru.sIte_f, Ru.for_e, Ru.for_1, Ru.for_nil, Ru.for_cons, Ru.fK_1, Ru.fK_nx, Ru.fK_rt, Ru.append_e, Ru.append_1, Ru.append_d, Ru.append_l, Ru.extend_e, Ru.extend_1, Ru.extend_l, Ru.pop_e, Ru.pop_1, Ru.setIx_e, Ru.setIx_d, Ru.setP_e, Ru.setP_d, Ru.setP_1, Ru.par_e, Ru.par_1, Ru.stup_e, Ru.stup_d, Ru.wK_t, Ru.wK_f, Ru.wK_nx, Ru.wK_rt, Ru.runB_f, Ru.runB_t, Ru.rb_f, Ru.rb_t, Ru.rb_n, Ru.lt_i, Ru.le_i, Ru.gt_i, Ru.ge_i, Ru.sub_i, Ru.add_i, Ru.add_s, Ru.add_t, Ru.add_l, Ru.mul_i, Ru.div_i, Ru.mod_i, Ru.neg_i, Ru.is_n, Ru.isNot_n, Ru.non_n, Ru.non_i, Ru.non_b, Ru.non_s, Ru.non_l, Ru.non_t, Ru.len_l, Ru.len_t, Ru.len_s, Ru.list_l, Ru.list_t, Ru.tuple_l, Ru.tuple_t, Ru.int_i, Ru.gsl_l, Ru.gsl_t, Ru.gsl_s, Ru.eq_s, Ru.eq_i, Ru.eq_b, Ru.ne_b, Ru.ne_s, Ru.ne_i, Ru.in_2, Ru.atI_0, Ru.atI_1, Ru.atI_2, Ru.ix_t, Ru.ix_l, Ru.cut_1, E.wipeS, Ru.bind_some, Option.bind_none, Ru.map_some, Option.map_none, List.getElem?_cons_zero, List.getElem?_cons_succ, List.set_cons_zero, List.set_cons_succ, List.length_cons, List.length_nil, List.map_cons, List.map_nil, List.replicate, List.cons_append, List.nil_append, w2_is_condition, enc1_mk, hk2, e41, vC]
def m_is_condition : MF := runB 7 false 2 (b_is_condition m_inner_conditions)
theorem e_is_condition {d t : Int} {x : D} (hp : x.plain = true) (hs : sz x < 4000) : m_is_condition [W d t, x] none = some (.d (.bool (vC d 40 x)), none) := by
  have h := loop (d := d) (t := t) (v := x) 4000 [(x, 1)] .un .un .un .un (fun q hq => by simp at hq; subst hq; exact hp) (by simpa [tot] using hs) (by decide)
  simp only [List.map_cons, List.map_nil, enc1_mk] at h
  simp [m_is_condition, b_is_condition, -Option.bind_some, -Option.map_some, Ru.c_e, Ru.v_e, Ru.v_d, Ru.rv_e, Ru.rv_d, Ru.rv_l, Ru.nil_e, Ru.cons_e, Ru.cons_d, Ru.cons_l, Ru.cons_2, Ru.tup_e, Ru.tup_d, Ru.lst_e, Ru.lst_d, Ru.rd_e, Ru.rd_d, Ru.rd_l, Ru.op_e, Ru.op_1, Ru.op_2, Ru.op_3, Ru.un_e, Ru.un_1, Ru.isi_e, Ru.ite_e, Ru.ite_t, Ru.ite_f, Ru.ofB_e, Ru.ofB_1, Ru.toB_e, Ru.toB_1, Ru.and_e, Ru.and_t, Ru.and_f, Ru.or_e, Ru.or_t, Ru.or_f, Ru.not_e, Ru.not_1, Ru.px_e, Ru.px_1, Ru.px_2, Ru.oN_e, Ru.oS_e, Ru.oS_1, Ru.sl_e, Ru.sl_1, Ru.sl_2, Ru.sl_3, Ru.sl3_e, Ru.tl_1, Ru.tl_2, Ru.tl_3, Ru.tl_4, Ru.call_e, Ru.call_1, Ru.call_2, Ru.callP_e, Ru.callP_1, Ru.callP_2, Ru.chain_e, Ru.ch_1, Ru.ch_2, Ru.ch_t, Ru.ch_f, Ru.iL_e, Ru.iL_d, Ru.iL_l, Ru.iT_e, Ru.iT_d, Ru.iR1_e, Ru.iR1_1, Ru.lR_e, Ru.lR_1, Ru.tN_e, Ru.tT_2, Ru.yes_e, Ru.lc_e, Ru.lc_1, Ru.lc_2, Ru.seq_e, Ru.seq_nx, Ru.seq_rt, Ru.nop_e, Ru.set_e, Ru.set_d, Ru.set_l, Ru.setL_e, Ru.setL_l, Ru.ret_e, Ru.ret_1, Ru.retV_e, Ru.retV_l, Ru.retV_d, Ru.frz_e, Ru.frz_l, Ru.sIte_e, Ru.sIte_t, Ru.sIte_f, Ru.for_e, Ru.for_1, Ru.for_nil, Ru.for_cons, Ru.fK_1, Ru.fK_nx, Ru.fK_rt, Ru.append_e, Ru.append_1, Ru.append_d, Ru.append_l, Ru.extend_e, Ru.extend_1, Ru.extend_l, Ru.pop_e, Ru.pop_1, Ru.setIx_e, Ru.setIx_d, Ru.setP_e, Ru.setP_d, Ru.setP_1, Ru.par_e, Ru.par_1, Ru.stup_e, Ru.stup_d, Ru.wK_t, Ru.wK_f, Ru.wK_nx, Ru.wK_rt, Ru.runB_f, Ru.runB_t, Ru.rb_f, Ru.rb_t, Ru.rb_n, Ru.lt_i, Ru.le_i, Ru.gt_i, Ru.ge_i, Ru.sub_i, Ru.add_i, Ru.add_s, Ru.add_t, Ru.add_l, Ru.mul_i, Ru.div_i, Ru.mod_i, Ru.neg_i, Ru.is_n, Ru.isNot_n, Ru.non_n, Ru.non_i, Ru.non_b, Ru.non_s, Ru.non_l, Ru.non_t, Ru.len_l, Ru.len_t, Ru.len_s, Ru.list_l, Ru.list_t, Ru.tuple_l, Ru.tuple_t, Ru.int_i, Ru.gsl_l, Ru.gsl_t, Ru.gsl_s, Ru.eq_s, Ru.eq_i, Ru.eq_b, Ru.ne_b, Ru.ne_s, Ru.ne_i, Ru.in_2, Ru.atI_0, Ru.atI_1, Ru.atI_2, Ru.ix_t, Ru.ix_l, Ru.cut_1, E.wipeS, Ru.bind_some, Option.bind_none, Ru.map_some, Option.map_none, List.getElem?_cons_zero, List.getElem?_cons_succ, List.set_cons_zero, List.set_cons_succ, List.length_cons, List.length_nil, List.map_cons, List.map_nil, List.replicate, List.cons_append, List.nil_append]
  rw [show ((1 : Nat) : Int) = 1 from rfl] at h
  rw [h]
  simp [-Option.bind_some, -Option.map_some, Ru.c_e, Ru.v_e, Ru.v_d, Ru.rv_e, Ru.rv_d, Ru.rv_l, Ru.nil_e, Ru.cons_e, Ru.cons_d, Ru.cons_l, Ru.cons_2, Ru.tup_e, Ru.tup_d, Ru.lst_e, Ru.lst_d, Ru.rd_e, Ru.rd_d, Ru.rd_l, Ru.op_e, Ru.op_1, Ru.op_2, Ru.op_3, Ru.un_e, Ru.un_1, Ru.isi_e, Ru.ite_e, Ru.ite_t, Ru.ite_f, Ru.ofB_e, Ru.ofB_1, Ru.toB_e, Ru.toB_1, Ru.and_e, Ru.and_t, Ru.and_f, Ru.or_e, Ru.or_t, Ru.or_f, Ru.not_e, Ru.not_1, Ru.px_e, Ru.px_1, Ru.px_2, Ru.oN_e, Ru.oS_e, Ru.oS_1, Ru.sl_e, Ru.sl_1, Ru.sl_2, Ru.sl_3, Ru.sl3_e, Ru.tl_1, Ru.tl_2, Ru.tl_3, Ru.tl_4, Ru.call_e, Ru.call_1, Ru.call_2, Ru.callP_e, Ru.callP_1, Ru.callP_2, Ru.chain_e, Ru.ch_1, Ru.ch_2, Ru.ch_t, Ru.ch_f, Ru.iL_e, Ru.iL_d, Ru.iL_l, Ru.iT_e, Ru.iT_d, Ru.iR1_e, Ru.iR1_1, Ru.lR_e, Ru.lR_1, Ru.tN_e, Ru.tT_2, Ru.yes_e, Ru.lc_e, Ru.lc_1, Ru.lc_2, Ru.seq_e, Ru.seq_nx, Ru.seq_rt, Ru.nop_e, Ru.set_e, Ru.set_d, Ru.set_l, Ru.setL_e, Ru.setL_l, Ru.ret_e, Ru.ret_1, Ru.retV_e, Ru.retV_l, Ru.retV_d, Ru.frz_e, Ru.frz_l, Ru.sIte_e, Ru.sIte_t, Ru.sIte_f, Ru.for_e, Ru.for_1, Ru.for_nil, Ru.for_cons, Ru.fK_1, Ru.fK_nx, Ru.fK_rt, Ru.append_e, Ru.append_1, Ru.append_d, Ru.append_l, Ru.extend_e, Ru.extend_1, Ru.extend_l, Ru.pop_e, Ru.pop_1, Ru.setIx_e, Ru.setIx_d, Ru.setP_e, Ru.setP_d, Ru.setP_1, Ru.par_e, Ru.par_1, Ru.stup_e, Ru.stup_d, Ru.wK_t, Ru.wK_f, Ru.wK_nx, Ru.wK_rt, Ru.runB_f, Ru.runB_t, Ru.rb_f, Ru.rb_t, Ru.rb_n, Ru.lt_i, Ru.le_i, Ru.gt_i, Ru.ge_i, Ru.sub_i, Ru.add_i, Ru.add_s, Ru.add_t, Ru.add_l, Ru.mul_i, Ru.div_i, Ru.mod_i, Ru.neg_i, Ru.is_n, Ru.isNot_n, Ru.non_n, Ru.non_i, Ru.non_b, Ru.non_s, Ru.non_l, Ru.non_t, Ru.len_l, Ru.len_t, Ru.len_s, Ru.list_l, Ru.list_t, Ru.tuple_l, Ru.tuple_t, Ru.int_i, Ru.gsl_l, Ru.gsl_t, Ru.gsl_s, Ru.eq_s, Ru.eq_i, Ru.eq_b, Ru.ne_b, Ru.ne_s, Ru.ne_i, Ru.in_2, Ru.atI_0, Ru.atI_1, Ru.atI_2, Ru.ix_t, Ru.ix_l, Ru.cut_1, E.wipeS, Ru.bind_some, Option.bind_none, Ru.map_some, Option.map_none, List.getElem?_cons_zero, List.getElem?_cons_succ, List.set_cons_zero, List.set_cons_succ, List.length_cons, List.length_nil, List.map_cons, List.map_nil, List.replicate, List.cons_append, List.nil_append]
/-! ### _law_is_condition -/
def m_law_is_condition : Nat → MF
  | 0 => fun _ _ => none
  | n + 1 => runB 4 false 3 (b_law_is_condition (m_law_is_condition n) m_law_is_integer)
theorem e_law_is_condition {d t : Int} : ∀ (n : Nat) (x : D) (k : Nat), x.plain = true → 41 - k < n →
    m_law_is_condition n [W d t, x, .int k] none = some (.d (.bool (vC d (41 - k) x)), none) := by
  intro n
  induction n with
  | zero => intro x k _ h; omega
  | succ n ih =>
    intro x k hp hk
    have hT := isT_tuple hp
    by_cases h40 : k ≤ 40
    · have h1 : ¬ (40 < (k : Int)) := by omega
      have e41 : 41 - k = (40 - k) + 1 := by omega
      by_cases hs : ∃ s xs, x = .tuple (.str s :: xs)
      · obtain ⟨s, xs, rfl⟩ := hs
        have hp3 := plain3 hp
        have ih' : ∀ y ∈ xs, m_law_is_condition n [W d t, y, .int ((k : Int) + 1)] none = some (.d (.bool (vC d (40 - k) y)), none) := fun y hy => by
          have z := ih y (k + 1) (hp3 y hy) (by omega)
          rw [show 41 - (k + 1) = 40 - k by omega] at z
          exact z
        have hS : gIsT "str" (.str s) = some (.d (.bool true)) := isT_str rfl
        have hl0 : ((xs.length : Int) + 1 == 0) = false := beq_false_of_ne (by omega)
        rw [e41]
        match xs, hp3, ih' with
        | [], _, _ =>
          rcases nameCases s with rfl | rfl | rfl | rfl | rfl | rfl | ⟨a1, a2, a3, a4, a5, a6, a7, a8, a9, a10⟩ <;>
            simp [m_law_is_condition, b_law_is_condition, -Option.bind_some, -Option.map_some, Ru.c_e, Ru.v_e, Ru.v_d, Ru.rv_e, Ru.rv_d, Ru.rv_l, Ru.nil_e, Ru.cons_e, Ru.cons_d, Ru.cons_l, Ru.cons_2, Ru.tup_e, Ru.tup_d, Ru.lst_e, Ru.lst_d, Ru.rd_e, Ru.rd_d, Ru.rd_l, Ru.op_e, Ru.op_1, Ru.op_2, Ru.op_3, Ru.un_e, Ru.un_1, Ru.isi_e, Ru.ite_e, Ru.ite_t, Ru.ite_f, Ru.ofB_e, Ru.ofB_1, Ru.toB_e, Ru.toB_1, Ru.and_e, Ru.and_t, Ru.and_f, Ru.or_e, Ru.or_t, Ru.or_f, Ru.not_e, Ru.not_1, Ru.px_e, Ru.px_1, Ru.px_2, Ru.oN_e, Ru.oS_e, Ru.oS_1, Ru.sl_e, Ru.sl_1, Ru.sl_2, Ru.sl_3, Ru.sl3_e, Ru.tl_1, Ru.tl_2, Ru.tl_3, Ru.tl_4, Ru.call_e, Ru.call_1, Ru.call_2, Ru.callP_e, Ru.callP_1, Ru.callP_2, Ru.chain_e, Ru.ch_1, Ru.ch_2, Ru.ch_t, Ru.ch_f, Ru.iL_e, Ru.iL_d, Ru.iL_l, Ru.iT_e, Ru.iT_d, Ru.iR1_e, Ru.iR1_1, Ru.lR_e, Ru.lR_1, Ru.tN_e, Ru.tT_2, Ru.yes_e, Ru.lc_e, Ru.lc_1, Ru.lc_2, Ru.seq_e, Ru.seq_nx, Ru.seq_rt, Ru.nop_e, Ru.set_e, Ru.set_d, Ru.set_l, Ru.setL_e, Ru.setL_l, Ru.ret_e, Ru.ret_1, Ru.retV_e, Ru.retV_l, Ru.retV_d, Ru.frz_e, Ru.frz_l, Ru.sIte_e, Ru.sIte_t, Ru.sIte_f, Ru.for_e, Ru.for_1, Ru.for_nil, Ru.for_cons, Ru.fK_1, Ru.fK_nx, Ru.fK_rt, Ru.append_e, Ru.append_1, Ru.append_d, Ru.append_l, Ru.extend_e, Ru.extend_1, Ru.extend_l, Ru.pop_e, Ru.pop_1, Ru.setIx_e, Ru.setIx_d, Ru.setP_e, Ru.setP_d, Ru.setP_1, Ru.par_e, Ru.par_1, Ru.stup_e, Ru.stup_d, Ru.wK_t, Ru.wK_f, Ru.wK_nx, Ru.wK_rt, Ru.runB_f, Ru.runB_t, Ru.rb_f, Ru.rb_t, Ru.rb_n, Ru.lt_i, Ru.le_i, Ru.gt_i, Ru.ge_i, Ru.sub_i, Ru.add_i, Ru.add_s, Ru.add_t, Ru.add_l, Ru.mul_i, Ru.div_i, Ru.mod_i, Ru.neg_i, Ru.is_n, Ru.isNot_n, Ru.non_n, Ru.non_i, Ru.non_b, Ru.non_s, Ru.non_l, Ru.non_t, Ru.len_l, Ru.len_t, Ru.len_s, Ru.list_l, Ru.list_t, Ru.tuple_l, Ru.tuple_t, Ru.int_i, Ru.gsl_l, Ru.gsl_t, Ru.gsl_s, Ru.eq_s, Ru.eq_i, Ru.eq_b, Ru.ne_b, Ru.ne_s, Ru.ne_i, Ru.in_2, Ru.atI_0, Ru.atI_1, Ru.atI_2, Ru.ix_t, Ru.ix_l, Ru.cut_1, E.wipeS, Ru.bind_some, Option.bind_none, Ru.map_some, Option.map_none, List.getElem?_cons_zero, List.getElem?_cons_succ, List.set_cons_zero, List.set_cons_succ, List.length_cons, List.length_nil, List.map_cons, List.map_nil, List.replicate, List.cons_append, List.nil_append, h1, hT, isTu, hS, vC, innerD, innerN, ns_00, ns_01, ns_02, ns_03, ns_04, ns_05, ns_06, ns_10, ns_11, ns_12, ns_13, ns_14, ns_15, ns_16, ns_20, ns_21, ns_22, ns_23, ns_24, ns_25, ns_26, ns_30, ns_31, ns_32, ns_33, ns_34, ns_35, ns_36, ns_40, ns_41, ns_42, ns_43, ns_44, ns_45, ns_46, ns_50, ns_51, ns_52, ns_53, ns_54, ns_55, ns_56, ns_60, ns_61, ns_62, ns_63, ns_64, ns_65, ns_66, *]
        | [y], hp3, ih' =>
          have hw := e_law_is_integer (hp3 y (by simp))
          have hy := ih' y (by simp)
          rcases nameCases s with rfl | rfl | rfl | rfl | rfl | rfl | ⟨a1, a2, a3, a4, a5, a6, a7, a8, a9, a10⟩
          · simp [m_law_is_condition, b_law_is_condition, -Option.bind_some, -Option.map_some, Ru.c_e, Ru.v_e, Ru.v_d, Ru.rv_e, Ru.rv_d, Ru.rv_l, Ru.nil_e, Ru.cons_e, Ru.cons_d, Ru.cons_l, Ru.cons_2, Ru.tup_e, Ru.tup_d, Ru.lst_e, Ru.lst_d, Ru.rd_e, Ru.rd_d, Ru.rd_l, Ru.op_e, Ru.op_1, Ru.op_2, Ru.op_3, Ru.un_e, Ru.un_1, Ru.isi_e, Ru.ite_e, Ru.ite_t, Ru.ite_f, Ru.ofB_e, Ru.ofB_1, Ru.toB_e, Ru.toB_1, Ru.and_e, Ru.and_t, Ru.and_f, Ru.or_e, Ru.or_t, Ru.or_f, Ru.not_e, Ru.not_1, Ru.px_e, Ru.px_1, Ru.px_2, Ru.oN_e, Ru.oS_e, Ru.oS_1, Ru.sl_e, Ru.sl_1, Ru.sl_2, Ru.sl_3, Ru.sl3_e, Ru.tl_1, Ru.tl_2, Ru.tl_3, Ru.tl_4, Ru.call_e, Ru.call_1, Ru.call_2, Ru.callP_e, Ru.callP_1, Ru.callP_2, Ru.chain_e, Ru.ch_1, Ru.ch_2, Ru.ch_t, Ru.ch_f, Ru.iL_e, Ru.iL_d, Ru.iL_l, Ru.iT_e, Ru.iT_d, Ru.iR1_e, Ru.iR1_1, Ru.lR_e, Ru.lR_1, Ru.tN_e, Ru.tT_2, Ru.yes_e, Ru.lc_e, Ru.lc_1, Ru.lc_2, Ru.seq_e, Ru.seq_nx, Ru.seq_rt, Ru.nop_e, Ru.set_e, Ru.set_d, Ru.set_l, Ru.setL_e, Ru.setL_l, Ru.ret_e, Ru.ret_1, Ru.retV_e, Ru.retV_l, Ru.retV_d, Ru.frz_e, Ru.frz_l, Ru.sIte_e, Ru.sIte_t, Ru.sIte_f, Ru.for_e, Ru.for_1, Ru.for_nil, Ru.for_cons, Ru.fK_1, Ru.fK_nx, Ru.fK_rt, Ru.append_e, Ru.append_1, Ru.append_d, Ru.append_l, Ru.extend_e, Ru.extend_1, Ru.extend_l, Ru.pop_e, Ru.pop_1, Ru.setIx_e, Ru.setIx_d, Ru.setP_e, Ru.setP_d, Ru.setP_1, Ru.par_e, Ru.par_1, Ru.stup_e, Ru.stup_d, Ru.wK_t, Ru.wK_f, Ru.wK_nx, Ru.wK_rt, Ru.runB_f, Ru.runB_t, Ru.rb_f, Ru.rb_t, Ru.rb_n, Ru.lt_i, Ru.le_i, Ru.gt_i, Ru.ge_i, Ru.sub_i, Ru.add_i, Ru.add_s, Ru.add_t, Ru.add_l, Ru.mul_i, Ru.div_i, Ru.mod_i, Ru.neg_i, Ru.is_n, Ru.isNot_n, Ru.non_n, Ru.non_i, Ru.non_b, Ru.non_s, Ru.non_l, Ru.non_t, Ru.len_l, Ru.len_t, Ru.len_s, Ru.list_l, Ru.list_t, Ru.tuple_l, Ru.tuple_t, Ru.int_i, Ru.gsl_l, Ru.gsl_t, Ru.gsl_s, Ru.eq_s, Ru.eq_i, Ru.eq_b, Ru.ne_b, Ru.ne_s, Ru.ne_i, Ru.in_2, Ru.atI_0, Ru.atI_1, Ru.atI_2, Ru.ix_t, Ru.ix_l, Ru.cut_1, E.wipeS, Ru.bind_some, Option.bind_none, Ru.map_some, Option.map_none, List.getElem?_cons_zero, List.getElem?_cons_succ, List.set_cons_zero, List.set_cons_succ, List.length_cons, List.length_nil, List.map_cons, List.map_nil, List.replicate, List.cons_append, List.nil_append, h1, hT, isTu, hS, vC, innerD, innerN, ns_00, ns_01, ns_02, ns_03, ns_04, ns_05, ns_06, ns_10, ns_11, ns_12, ns_13, ns_14, ns_15, ns_16, ns_20, ns_21, ns_22, ns_23, ns_24, ns_25, ns_26, ns_30, ns_31, ns_32, ns_33, ns_34, ns_35, ns_36, ns_40, ns_41, ns_42, ns_43, ns_44, ns_45, ns_46, ns_50, ns_51, ns_52, ns_53, ns_54, ns_55, ns_56, ns_60, ns_61, ns_62, ns_63, ns_64, ns_65, ns_66]
          · simp [m_law_is_condition, b_law_is_condition, -Option.bind_some, -Option.map_some, Ru.c_e, Ru.v_e, Ru.v_d, Ru.rv_e, Ru.rv_d, Ru.rv_l, Ru.nil_e, Ru.cons_e, Ru.cons_d, Ru.cons_l, Ru.cons_2, Ru.tup_e, Ru.tup_d, Ru.lst_e, Ru.lst_d, Ru.rd_e, Ru.rd_d, Ru.rd_l, Ru.op_e, Ru.op_1, Ru.op_2, Ru.op_3, Ru.un_e, Ru.un_1, Ru.isi_e, Ru.ite_e, Ru.ite_t, Ru.ite_f, Ru.ofB_e, Ru.ofB_1, Ru.toB_e, Ru.toB_1, Ru.and_e, Ru.and_t, Ru.and_f, Ru.or_e, Ru.or_t, Ru.or_f, Ru.not_e, Ru.not_1, Ru.px_e, Ru.px_1, Ru.px_2, Ru.oN_e, Ru.oS_e, Ru.oS_1, Ru.sl_e, Ru.sl_1, Ru.sl_2, Ru.sl_3, Ru.sl3_e, Ru.tl_1, Ru.tl_2, Ru.tl_3, Ru.tl_4, Ru.call_e, Ru.call_1, Ru.call_2, Ru.callP_e, Ru.callP_1, Ru.callP_2, Ru.chain_e, Ru.ch_1, Ru.ch_2, Ru.ch_t, Ru.ch_f, Ru.iL_e, Ru.iL_d, Ru.iL_l, Ru.iT_e, Ru.iT_d, Ru.iR1_e, Ru.iR1_1, Ru.lR_e, Ru.lR_1, Ru.tN_e, Ru.tT_2, Ru.yes_e, Ru.lc_e, Ru.lc_1, Ru.lc_2, Ru.seq_e, Ru.seq_nx, Ru.seq_rt, Ru.nop_e, Ru.set_e, Ru.set_d, Ru.set_l, Ru.setL_e, Ru.setL_l, Ru.ret_e, Ru.ret_1, Ru.retV_e, Ru.retV_l, Ru.retV_d, Ru.frz_e, Ru.frz_l, Ru.sIte_e, Ru.sIte_t, Ru.sIte_f, Ru.for_e, Ru.for_1, Ru.for_nil, Ru.for_cons, Ru.fK_1, Ru.fK_nx, Ru.fK_rt, Ru.append_e, Ru.append_1, Ru.append_d, Ru.append_l, Ru.extend_e, Ru.extend_1, Ru.extend_l, Ru.pop_e, Ru.pop_1, Ru.setIx_e, Ru.setIx_d, Ru.setP_e, Ru.setP_d, Ru.setP_1, Ru.par_e, Ru.par_1, Ru.stup_e, Ru.stup_d, Ru.wK_t, Ru.wK_f, Ru.wK_nx, Ru.wK_rt, Ru.runB_f, Ru.runB_t, Ru.rb_f, Ru.rb_t, Ru.rb_n, Ru.lt_i, Ru.le_i, Ru.gt_i, Ru.ge_i, Ru.sub_i, Ru.add_i, Ru.add_s, Ru.add_t, Ru.add_l, Ru.mul_i, Ru.div_i, Ru.mod_i, Ru.neg_i, Ru.is_n, Ru.isNot_n, Ru.non_n, Ru.non_i, Ru.non_b, Ru.non_s, Ru.non_l, Ru.non_t, Ru.len_l, Ru.len_t, Ru.len_s, Ru.list_l, Ru.list_t, Ru.tuple_l, Ru.tuple_t, Ru.int_i, Ru.gsl_l, Ru.gsl_t, Ru.gsl_s, Ru.eq_s, Ru.eq_i, Ru.eq_b, Ru.ne_b, Ru.ne_s, Ru.ne_i, Ru.in_2, Ru.atI_0, Ru.atI_1, Ru.atI_2, Ru.ix_t, Ru.ix_l, Ru.cut_1, E.wipeS, Ru.bind_some, Option.bind_none, Ru.map_some, Option.map_none, List.getElem?_cons_zero, List.getElem?_cons_succ, List.set_cons_zero, List.set_cons_succ, List.length_cons, List.length_nil, List.map_cons, List.map_nil, List.replicate, List.cons_append, List.nil_append, h1, hT, isTu, hS, vC, innerD, innerN, ns_00, ns_01, ns_02, ns_03, ns_04, ns_05, ns_06, ns_10, ns_11, ns_12, ns_13, ns_14, ns_15, ns_16, ns_20, ns_21, ns_22, ns_23, ns_24, ns_25, ns_26, ns_30, ns_31, ns_32, ns_33, ns_34, ns_35, ns_36, ns_40, ns_41, ns_42, ns_43, ns_44, ns_45, ns_46, ns_50, ns_51, ns_52, ns_53, ns_54, ns_55, ns_56, ns_60, ns_61, ns_62, ns_63, ns_64, ns_65, ns_66]
          · cases y with
            | int i =>
              by_cases c1 : 0 ≤ i <;> by_cases c2 : i < d <;>
                simp [m_law_is_condition, b_law_is_condition, -Option.bind_some, -Option.map_some, Ru.c_e, Ru.v_e, Ru.v_d, Ru.rv_e, Ru.rv_d, Ru.rv_l, Ru.nil_e, Ru.cons_e, Ru.cons_d, Ru.cons_l, Ru.cons_2, Ru.tup_e, Ru.tup_d, Ru.lst_e, Ru.lst_d, Ru.rd_e, Ru.rd_d, Ru.rd_l, Ru.op_e, Ru.op_1, Ru.op_2, Ru.op_3, Ru.un_e, Ru.un_1, Ru.isi_e, Ru.ite_e, Ru.ite_t, Ru.ite_f, Ru.ofB_e, Ru.ofB_1, Ru.toB_e, Ru.toB_1, Ru.and_e, Ru.and_t, Ru.and_f, Ru.or_e, Ru.or_t, Ru.or_f, Ru.not_e, Ru.not_1, Ru.px_e, Ru.px_1, Ru.px_2, Ru.oN_e, Ru.oS_e, Ru.oS_1, Ru.sl_e, Ru.sl_1, Ru.sl_2, Ru.sl_3, Ru.sl3_e, Ru.tl_1, Ru.tl_2, Ru.tl_3, Ru.tl_4, Ru.call_e, Ru.call_1, Ru.call_2, Ru.callP_e, Ru.callP_1, Ru.callP_2, Ru.chain_e, Ru.ch_1, Ru.ch_2, Ru.ch_t, Ru.ch_f, Ru.iL_e, Ru.iL_d, Ru.iL_l, Ru.iT_e, Ru.iT_d, Ru.iR1_e, Ru.iR1_1, Ru.lR_e, Ru.lR_1, Ru.tN_e, Ru.tT_2, Ru.yes_e, Ru.lc_e, Ru.lc_1, Ru.lc_2, Ru.seq_e, Ru.seq_nx, Ru.seq_rt, Ru.nop_e, Ru.set_e, Ru.set_d, Ru.set_l, Ru.setL_e, Ru.setL_l, Ru.ret_e, Ru.ret_1, Ru.retV_e, Ru.retV_l, Ru.retV_d, Ru.frz_e, Ru.frz_l, Ru.sIte_e, Ru.sIte_t, Ru.sIte_f, Ru.for_e, Ru.for_1, Ru.for_nil, Ru.for_cons, Ru.fK_1, Ru.fK_nx, Ru.fK_rt, Ru.append_e, Ru.append_1, Ru.append_d, Ru.append_l, Ru.extend_e, Ru.extend_1, Ru.extend_l, Ru.pop_e, Ru.pop_1, Ru.setIx_e, Ru.setIx_d, Ru.setP_e, Ru.setP_d, Ru.setP_1, Ru.par_e, Ru.par_1, Ru.stup_e, Ru.stup_d, Ru.wK_t, Ru.wK_f, Ru.wK_nx, Ru.wK_rt, Ru.runB_f, Ru.runB_t, Ru.rb_f, Ru.rb_t, Ru.rb_n, Ru.lt_i, Ru.le_i, Ru.gt_i, Ru.ge_i, Ru.sub_i, Ru.add_i, Ru.add_s, Ru.add_t, Ru.add_l, Ru.mul_i, Ru.div_i, Ru.mod_i, Ru.neg_i, Ru.is_n, Ru.isNot_n, Ru.non_n, Ru.non_i, Ru.non_b, Ru.non_s, Ru.non_l, Ru.non_t, Ru.len_l, Ru.len_t, Ru.len_s, Ru.list_l, Ru.list_t, Ru.tuple_l, Ru.tuple_t, Ru.int_i, Ru.gsl_l, Ru.gsl_t, Ru.gsl_s, Ru.eq_s, Ru.eq_i, Ru.eq_b, Ru.ne_b, Ru.ne_s, Ru.ne_i, Ru.in_2, Ru.atI_0, Ru.atI_1, Ru.atI_2, Ru.ix_t, Ru.ix_l, Ru.cut_1, E.wipeS, Ru.bind_some, Option.bind_none, Ru.map_some, Option.map_none, List.getElem?_cons_zero, List.getElem?_cons_succ, List.set_cons_zero, List.set_cons_succ, List.length_cons, List.length_nil, List.map_cons, List.map_nil, List.replicate, List.cons_append, List.nil_append, h1, hT, isTu, hS, vC, innerD, innerN, ns_00, ns_01, ns_02, ns_03, ns_04, ns_05, ns_06, ns_10, ns_11, ns_12, ns_13, ns_14, ns_15, ns_16, ns_20, ns_21, ns_22, ns_23, ns_24, ns_25, ns_26, ns_30, ns_31, ns_32, ns_33, ns_34, ns_35, ns_36, ns_40, ns_41, ns_42, ns_43, ns_44, ns_45, ns_46, ns_50, ns_51, ns_52, ns_53, ns_54, ns_55, ns_56, ns_60, ns_61, ns_62, ns_63, ns_64, ns_65, ns_66, hw, isI, c1, c2]
            | _ => simp [m_law_is_condition, b_law_is_condition, -Option.bind_some, -Option.map_some, Ru.c_e, Ru.v_e, Ru.v_d, Ru.rv_e, Ru.rv_d, Ru.rv_l, Ru.nil_e, Ru.cons_e, Ru.cons_d, Ru.cons_l, Ru.cons_2, Ru.tup_e, Ru.tup_d, Ru.lst_e, Ru.lst_d, Ru.rd_e, Ru.rd_d, Ru.rd_l, Ru.op_e, Ru.op_1, Ru.op_2, Ru.op_3, Ru.un_e, Ru.un_1, Ru.isi_e, Ru.ite_e, Ru.ite_t, Ru.ite_f, Ru.ofB_e, Ru.ofB_1, Ru.toB_e, Ru.toB_1, Ru.and_e, Ru.and_t, Ru.and_f, Ru.or_e, Ru.or_t, Ru.or_f, Ru.not_e, Ru.not_1, Ru.px_e, Ru.px_1, Ru.px_2, Ru.oN_e, Ru.oS_e, Ru.oS_1, Ru.sl_e, Ru.sl_1, Ru.sl_2, Ru.sl_3, Ru.sl3_e, Ru.tl_1, Ru.tl_2, Ru.tl_3, Ru.tl_4, Ru.call_e, Ru.call_1, Ru.call_2, Ru.callP_e, Ru.callP_1, Ru.callP_2, Ru.chain_e, Ru.ch_1, Ru.ch_2, Ru.ch_t, Ru.ch_f, Ru.iL_e, Ru.iL_d, Ru.iL_l, Ru.iT_e, Ru.iT_d, Ru.iR1_e, Ru.iR1_1, Ru.lR_e, Ru.lR_1, Ru.tN_e, Ru.tT_2, Ru.yes_e, Ru.lc_e, Ru.lc_1, Ru.lc_2, Ru.seq_e, Ru.seq_nx, Ru.seq_rt, Ru.nop_e, Ru.set_e, Ru.set_d, Ru.set_l, Ru.setL_e, Ru.setL_l, Ru.ret_e, Ru.ret_1, Ru.retV_e, Ru.retV_l, Ru.retV_d, Ru.frz_e, Ru.frz_l, Ru.sIte_e, Ru.sIte_t, Ru.sIte_f, Ru.for_e, Ru.for_1, Ru.for_nil, Ru.for_cons, Ru.fK_1, Ru.fK_nx, Ru.fK_rt, Ru.append_e, Ru.append_1, Ru.append_d, Ru.append_l, Ru.extend_e, Ru.extend_1, Ru.extend_l, Ru.pop_e, Ru.pop_1, Ru.setIx_e, Ru.setIx_d, Ru.setP_e, Ru.setP_d, Ru.setP_1, Ru.par_e, Ru.par_1, Ru.stup_e, Ru.stup_d, Ru.wK_t, Ru.wK_f, Ru.wK_nx, Ru.wK_rt, Ru.runB_f, Ru.runB_t, Ru.rb_f, Ru.rb_t, Ru.rb_n, Ru.lt_i, Ru.le_i, Ru.gt_i, Ru.ge_i, Ru.sub_i, Ru.add_i, Ru.add_s, Ru.add_t, Ru.add_l, Ru.mul_i, Ru.div_i, Ru.mod_i, Ru.neg_i, Ru.is_n, Ru.isNot_n, Ru.non_n, Ru.non_i, Ru.non_b, Ru.non_s, Ru.non_l, Ru.non_t, Ru.len_l, Ru.len_t, Ru.len_s, Ru.list_l, Ru.list_t, Ru.tuple_l, Ru.tuple_t, Ru.int_i, Ru.gsl_l, Ru.gsl_t, Ru.gsl_s, Ru.eq_s, Ru.eq_i, Ru.eq_b, Ru.ne_b, Ru.ne_s, Ru.ne_i, Ru.in_2, Ru.atI_0, Ru.atI_1, Ru.atI_2, Ru.ix_t, Ru.ix_l, Ru.cut_1, E.wipeS, Ru.bind_some, Option.bind_none, Ru.map_some, Option.map_none, List.getElem?_cons_zero, List.getElem?_cons_succ, List.set_cons_zero, List.set_cons_succ, List.length_cons, List.length_nil, List.map_cons, List.map_nil, List.replicate, List.cons_append, List.nil_append, h1, hT, isTu, hS, vC, innerD, innerN, ns_00, ns_01, ns_02, ns_03, ns_04, ns_05, ns_06, ns_10, ns_11, ns_12, ns_13, ns_14, ns_15, ns_16, ns_20, ns_21, ns_22, ns_23, ns_24, ns_25, ns_26, ns_30, ns_31, ns_32, ns_33, ns_34, ns_35, ns_36, ns_40, ns_41, ns_42, ns_43, ns_44, ns_45, ns_46, ns_50, ns_51, ns_52, ns_53, ns_54, ns_55, ns_56, ns_60, ns_61, ns_62, ns_63, ns_64, ns_65, ns_66, hw, isI]
          · simp [m_law_is_condition, b_law_is_condition, -Option.bind_some, -Option.map_some, Ru.c_e, Ru.v_e, Ru.v_d, Ru.rv_e, Ru.rv_d, Ru.rv_l, Ru.nil_e, Ru.cons_e, Ru.cons_d, Ru.cons_l, Ru.cons_2, Ru.tup_e, Ru.tup_d, Ru.lst_e, Ru.lst_d, Ru.rd_e, Ru.rd_d, Ru.rd_l, Ru.op_e, Ru.op_1, Ru.op_2, Ru.op_3, Ru.un_e, Ru.un_1, Ru.isi_e, Ru.ite_e, Ru.ite_t, Ru.ite_f, Ru.ofB_e, Ru.ofB_1, Ru.toB_e, Ru.toB_1, Ru.and_e, Ru.and_t, Ru.and_f, Ru.or_e, Ru.or_t, Ru.or_f, Ru.not_e, Ru.not_1, Ru.px_e, Ru.px_1, Ru.px_2, Ru.oN_e, Ru.oS_e, Ru.oS_1, Ru.sl_e, Ru.sl_1, Ru.sl_2, Ru.sl_3, Ru.sl3_e, Ru.tl_1, Ru.tl_2, Ru.tl_3, Ru.tl_4, Ru.call_e, Ru.call_1, Ru.call_2, Ru.callP_e, Ru.callP_1, Ru.callP_2, Ru.chain_e, Ru.ch_1, Ru.ch_2, Ru.ch_t, Ru.ch_f, Ru.iL_e, Ru.iL_d, Ru.iL_l, Ru.iT_e, Ru.iT_d, Ru.iR1_e, Ru.iR1_1, Ru.lR_e, Ru.lR_1, Ru.tN_e, Ru.tT_2, Ru.yes_e, Ru.lc_e, Ru.lc_1, Ru.lc_2, Ru.seq_e, Ru.seq_nx, Ru.seq_rt, Ru.nop_e, Ru.set_e, Ru.set_d, Ru.set_l, Ru.setL_e, Ru.setL_l, Ru.ret_e, Ru.ret_1, Ru.retV_e, Ru.retV_l, Ru.retV_d, Ru.frz_e, Ru.frz_l, Ru.sIte_e, Ru.sIte_t, Ru.sIte_f, Ru.for_e, Ru.for_1, Ru.for_nil, Ru.for_cons, Ru.fK_1, Ru.fK_nx, Ru.fK_rt, Ru.append_e, Ru.append_1, Ru.append_d, Ru.append_l, Ru.extend_e, Ru.extend_1, Ru.extend_l, Ru.pop_e, Ru.pop_1, Ru.setIx_e, Ru.setIx_d, Ru.setP_e, Ru.setP_d, Ru.setP_1, Ru.par_e, Ru.par_1, Ru.stup_e, Ru.stup_d, Ru.wK_t, Ru.wK_f, Ru.wK_nx, Ru.wK_rt, Ru.runB_f, Ru.runB_t, Ru.rb_f, Ru.rb_t, Ru.rb_n, Ru.lt_i, Ru.le_i, Ru.gt_i, Ru.ge_i, Ru.sub_i, Ru.add_i, Ru.add_s, Ru.add_t, Ru.add_l, Ru.mul_i, Ru.div_i, Ru.mod_i, Ru.neg_i, Ru.is_n, Ru.isNot_n, Ru.non_n, Ru.non_i, Ru.non_b, Ru.non_s, Ru.non_l, Ru.non_t, Ru.len_l, Ru.len_t, Ru.len_s, Ru.list_l, Ru.list_t, Ru.tuple_l, Ru.tuple_t, Ru.int_i, Ru.gsl_l, Ru.gsl_t, Ru.gsl_s, Ru.eq_s, Ru.eq_i, Ru.eq_b, Ru.ne_b, Ru.ne_s, Ru.ne_i, Ru.in_2, Ru.atI_0, Ru.atI_1, Ru.atI_2, Ru.ix_t, Ru.ix_l, Ru.cut_1, E.wipeS, Ru.bind_some, Option.bind_none, Ru.map_some, Option.map_none, List.getElem?_cons_zero, List.getElem?_cons_succ, List.set_cons_zero, List.set_cons_succ, List.length_cons, List.length_nil, List.map_cons, List.map_nil, List.replicate, List.cons_append, List.nil_append, h1, hT, isTu, hS, vC, innerD, innerN, ns_00, ns_01, ns_02, ns_03, ns_04, ns_05, ns_06, ns_10, ns_11, ns_12, ns_13, ns_14, ns_15, ns_16, ns_20, ns_21, ns_22, ns_23, ns_24, ns_25, ns_26, ns_30, ns_31, ns_32, ns_33, ns_34, ns_35, ns_36, ns_40, ns_41, ns_42, ns_43, ns_44, ns_45, ns_46, ns_50, ns_51, ns_52, ns_53, ns_54, ns_55, ns_56, ns_60, ns_61, ns_62, ns_63, ns_64, ns_65, ns_66, hy]
          · simp [m_law_is_condition, b_law_is_condition, -Option.bind_some, -Option.map_some, Ru.c_e, Ru.v_e, Ru.v_d, Ru.rv_e, Ru.rv_d, Ru.rv_l, Ru.nil_e, Ru.cons_e, Ru.cons_d, Ru.cons_l, Ru.cons_2, Ru.tup_e, Ru.tup_d, Ru.lst_e, Ru.lst_d, Ru.rd_e, Ru.rd_d, Ru.rd_l, Ru.op_e, Ru.op_1, Ru.op_2, Ru.op_3, Ru.un_e, Ru.un_1, Ru.isi_e, Ru.ite_e, Ru.ite_t, Ru.ite_f, Ru.ofB_e, Ru.ofB_1, Ru.toB_e, Ru.toB_1, Ru.and_e, Ru.and_t, Ru.and_f, Ru.or_e, Ru.or_t, Ru.or_f, Ru.not_e, Ru.not_1, Ru.px_e, Ru.px_1, Ru.px_2, Ru.oN_e, Ru.oS_e, Ru.oS_1, Ru.sl_e, Ru.sl_1, Ru.sl_2, Ru.sl_3, Ru.sl3_e, Ru.tl_1, Ru.tl_2, Ru.tl_3, Ru.tl_4, Ru.call_e, Ru.call_1, Ru.call_2, Ru.callP_e, Ru.callP_1, Ru.callP_2, Ru.chain_e, Ru.ch_1, Ru.ch_2, Ru.ch_t, Ru.ch_f, Ru.iL_e, Ru.iL_d, Ru.iL_l, Ru.iT_e, Ru.iT_d, Ru.iR1_e, Ru.iR1_1, Ru.lR_e, Ru.lR_1, Ru.tN_e, Ru.tT_2, Ru.yes_e, Ru.lc_e, Ru.lc_1, Ru.lc_2, Ru.seq_e, Ru.seq_nx, Ru.seq_rt, Ru.nop_e, Ru.set_e, Ru.set_d, Ru.set_l, Ru.setL_e, Ru.setL_l, Ru.ret_e, Ru.ret_1, Ru.retV_e, Ru.retV_l, Ru.retV_d, Ru.frz_e, Ru.frz_l, Ru.sIte_e, Ru.sIte_t, Ru.sIte_f, Ru.for_e, Ru.for_1, Ru.for_nil, Ru.for_cons, Ru.fK_1, Ru.fK_nx, Ru.fK_rt, Ru.append_e, Ru.append_1, Ru.append_d, Ru.append_l, Ru.extend_e, Ru.extend_1, Ru.extend_l, Ru.pop_e, Ru.pop_1, Ru.setIx_e, Ru.setIx_d, Ru.setP_e, Ru.setP_d, Ru.setP_1, Ru.par_e, Ru.par_1, Ru.stup_e, Ru.stup_d, Ru.wK_t, Ru.wK_f, Ru.wK_nx, Ru.wK_rt, Ru.runB_f, Ru.runB_t, Ru.rb_f, Ru.rb_t, Ru.rb_n, Ru.lt_i, Ru.le_i, Ru.gt_i, Ru.ge_i, Ru.sub_i, Ru.add_i, Ru.add_s, Ru.add_t, Ru.add_l, Ru.mul_i, Ru.div_i, Ru.mod_i, Ru.neg_i, Ru.is_n, Ru.isNot_n, Ru.non_n, Ru.non_i, Ru.non_b, Ru.non_s, Ru.non_l, Ru.non_t, Ru.len_l, Ru.len_t, Ru.len_s, Ru.list_l, Ru.list_t, Ru.tuple_l, Ru.tuple_t, Ru.int_i, Ru.gsl_l, Ru.gsl_t, Ru.gsl_s, Ru.eq_s, Ru.eq_i, Ru.eq_b, Ru.ne_b, Ru.ne_s, Ru.ne_i, Ru.in_2, Ru.atI_0, Ru.atI_1, Ru.atI_2, Ru.ix_t, Ru.ix_l, Ru.cut_1, E.wipeS, Ru.bind_some, Option.bind_none, Ru.map_some, Option.map_none, List.getElem?_cons_zero, List.getElem?_cons_succ, List.set_cons_zero, List.set_cons_succ, List.length_cons, List.length_nil, List.map_cons, List.map_nil, List.replicate, List.cons_append, List.nil_append, h1, hT, isTu, hS, vC, innerD, innerN, ns_00, ns_01, ns_02, ns_03, ns_04, ns_05, ns_06, ns_10, ns_11, ns_12, ns_13, ns_14, ns_15, ns_16, ns_20, ns_21, ns_22, ns_23, ns_24, ns_25, ns_26, ns_30, ns_31, ns_32, ns_33, ns_34, ns_35, ns_36, ns_40, ns_41, ns_42, ns_43, ns_44, ns_45, ns_46, ns_50, ns_51, ns_52, ns_53, ns_54, ns_55, ns_56, ns_60, ns_61, ns_62, ns_63, ns_64, ns_65, ns_66]
          · simp [m_law_is_condition, b_law_is_condition, -Option.bind_some, -Option.map_some, Ru.c_e, Ru.v_e, Ru.v_d, Ru.rv_e, Ru.rv_d, Ru.rv_l, Ru.nil_e, Ru.cons_e, Ru.cons_d, Ru.cons_l, Ru.cons_2, Ru.tup_e, Ru.tup_d, Ru.lst_e, Ru.lst_d, Ru.rd_e, Ru.rd_d, Ru.rd_l, Ru.op_e, Ru.op_1, Ru.op_2, Ru.op_3, Ru.un_e, Ru.un_1, Ru.isi_e, Ru.ite_e, Ru.ite_t, Ru.ite_f, Ru.ofB_e, Ru.ofB_1, Ru.toB_e, Ru.toB_1, Ru.and_e, Ru.and_t, Ru.and_f, Ru.or_e, Ru.or_t, Ru.or_f, Ru.not_e, Ru.not_1, Ru.px_e, Ru.px_1, Ru.px_2, Ru.oN_e, Ru.oS_e, Ru.oS_1, Ru.sl_e, Ru.sl_1, Ru.sl_2, Ru.sl_3, Ru.sl3_e, Ru.tl_1, Ru.tl_2, Ru.tl_3, Ru.tl_4, Ru.call_e, Ru.call_1, Ru.call_2, Ru.callP_e, Ru.callP_1, Ru.callP_2, Ru.chain_e, Ru.ch_1, Ru.ch_2, Ru.ch_t, Ru.ch_f, Ru.iL_e, Ru.iL_d, Ru.iL_l, Ru.iT_e, Ru.iT_d, Ru.iR1_e, Ru.iR1_1, Ru.lR_e, Ru.lR_1, Ru.tN_e, Ru.tT_2, Ru.yes_e, Ru.lc_e, Ru.lc_1, Ru.lc_2, Ru.seq_e, Ru.seq_nx, Ru.seq_rt, Ru.nop_e, Ru.set_e, Ru.set_d, Ru.set_l, Ru.setL_e, Ru.setL_l, Ru.ret_e, Ru.ret_1, Ru.retV_e, Ru.retV_l, Ru.retV_d, Ru.frz_e, Ru.frz_l, Ru.sIte_e, Ru.sIte_t, Ru.sIte_f, Ru.for_e, Ru.for_1, Ru.for_nil, Ru.for_cons, Ru.fK_1, Ru.fK_nx, Ru.fK_rt, Ru.append_e, Ru.append_1, Ru.append_d, Ru.append_l, Ru.extend_e, Ru.extend_1, Ru.extend_l, Ru.pop_e, Ru.pop_1, Ru.setIx_e, Ru.setIx_d, Ru.setP_e, Ru.setP_d, Ru.setP_1, Ru.par_e, Ru.par_1, Ru.stup_e, Ru.stup_d, Ru.wK_t, Ru.wK_f, Ru.wK_nx, Ru.wK_rt, Ru.runB_f, Ru.runB_t, Ru.rb_f, Ru.rb_t, Ru.rb_n, Ru.lt_i, Ru.le_i, Ru.gt_i, Ru.ge_i, Ru.sub_i, Ru.add_i, Ru.add_s, Ru.add_t, Ru.add_l, Ru.mul_i, Ru.div_i, Ru.mod_i, Ru.neg_i, Ru.is_n, Ru.isNot_n, Ru.non_n, Ru.non_i, Ru.non_b, Ru.non_s, Ru.non_l, Ru.non_t, Ru.len_l, Ru.len_t, Ru.len_s, Ru.list_l, Ru.list_t, Ru.tuple_l, Ru.tuple_t, Ru.int_i, Ru.gsl_l, Ru.gsl_t, Ru.gsl_s, Ru.eq_s, Ru.eq_i, Ru.eq_b, Ru.ne_b, Ru.ne_s, Ru.ne_i, Ru.in_2, Ru.atI_0, Ru.atI_1, Ru.atI_2, Ru.ix_t, Ru.ix_l, Ru.cut_1, E.wipeS, Ru.bind_some, Option.bind_none, Ru.map_some, Option.map_none, List.getElem?_cons_zero, List.getElem?_cons_succ, List.set_cons_zero, List.set_cons_succ, List.length_cons, List.length_nil, List.map_cons, List.map_nil, List.replicate, List.cons_append, List.nil_append, h1, hT, isTu, hS, vC, innerD, innerN, ns_00, ns_01, ns_02, ns_03, ns_04, ns_05, ns_06, ns_10, ns_11, ns_12, ns_13, ns_14, ns_15, ns_16, ns_20, ns_21, ns_22, ns_23, ns_24, ns_25, ns_26, ns_30, ns_31, ns_32, ns_33, ns_34, ns_35, ns_36, ns_40, ns_41, ns_42, ns_43, ns_44, ns_45, ns_46, ns_50, ns_51, ns_52, ns_53, ns_54, ns_55, ns_56, ns_60, ns_61, ns_62, ns_63, ns_64, ns_65, ns_66]
          · simp [m_law_is_condition, b_law_is_condition, -Option.bind_some, -Option.map_some, Ru.c_e, Ru.v_e, Ru.v_d, Ru.rv_e, Ru.rv_d, Ru.rv_l, Ru.nil_e, Ru.cons_e, Ru.cons_d, Ru.cons_l, Ru.cons_2, Ru.tup_e, Ru.tup_d, Ru.lst_e, Ru.lst_d, Ru.rd_e, Ru.rd_d, Ru.rd_l, Ru.op_e, Ru.op_1, Ru.op_2, Ru.op_3, Ru.un_e, Ru.un_1, Ru.isi_e, Ru.ite_e, Ru.ite_t, Ru.ite_f, Ru.ofB_e, Ru.ofB_1, Ru.toB_e, Ru.toB_1, Ru.and_e, Ru.and_t, Ru.and_f, Ru.or_e, Ru.or_t, Ru.or_f, Ru.not_e, Ru.not_1, Ru.px_e, Ru.px_1, Ru.px_2, Ru.oN_e, Ru.oS_e, Ru.oS_1, Ru.sl_e, Ru.sl_1, Ru.sl_2, Ru.sl_3, Ru.sl3_e, Ru.tl_1, Ru.tl_2, Ru.tl_3, Ru.tl_4, Ru.call_e, Ru.call_1, Ru.call_2, Ru.callP_e, Ru.callP_1, Ru.callP_2, Ru.chain_e, Ru.ch_1, Ru.ch_2, Ru.ch_t, Ru.ch_f, Ru.iL_e, Ru.iL_d, Ru.iL_l, Ru.iT_e, Ru.iT_d, Ru.iR1_e, Ru.iR1_1, Ru.lR_e, Ru.lR_1, Ru.tN_e, Ru.tT_2, Ru.yes_e, Ru.lc_e, Ru.lc_1, Ru.lc_2, Ru.seq_e, Ru.seq_nx, Ru.seq_rt, Ru.nop_e, Ru.set_e, Ru.set_d, Ru.set_l, Ru.setL_e, Ru.setL_l, Ru.ret_e, Ru.ret_1, Ru.retV_e, Ru.retV_l, Ru.retV_d, Ru.frz_e, Ru.frz_l, Ru.sIte_e, Ru.sIte_t, Ru.sIte_f, Ru.for_e, Ru.for_1, Ru.for_nil, Ru.for_cons, Ru.fK_1, Ru.fK_nx, Ru.fK_rt, Ru.append_e, Ru.append_1, Ru.append_d, Ru.append_l, Ru.extend_e, Ru.extend_1, Ru.extend_l, Ru.pop_e, Ru.pop_1, Ru.setIx_e, Ru.setIx_d, Ru.setP_e, Ru.setP_d, Ru.setP_1, Ru.par_e, Ru.par_1, Ru.stup_e, Ru.stup_d, Ru.wK_t, Ru.wK_f, Ru.wK_nx, Ru.wK_rt, Ru.runB_f, Ru.runB_t, Ru.rb_f, Ru.rb_t, Ru.rb_n, Ru.lt_i, Ru.le_i, Ru.gt_i, Ru.ge_i, Ru.sub_i, Ru.add_i, Ru.add_s, Ru.add_t, Ru.add_l, Ru.mul_i, Ru.div_i, Ru.mod_i, Ru.neg_i, Ru.is_n, Ru.isNot_n, Ru.non_n, Ru.non_i, Ru.non_b, Ru.non_s, Ru.non_l, Ru.non_t, Ru.len_l, Ru.len_t, Ru.len_s, Ru.list_l, Ru.list_t, Ru.tuple_l, Ru.tuple_t, Ru.int_i, Ru.gsl_l, Ru.gsl_t, Ru.gsl_s, Ru.eq_s, Ru.eq_i, Ru.eq_b, Ru.ne_b, Ru.ne_s, Ru.ne_i, Ru.in_2, Ru.atI_0, Ru.atI_1, Ru.atI_2, Ru.ix_t, Ru.ix_l, Ru.cut_1, E.wipeS, Ru.bind_some, Option.bind_none, Ru.map_some, Option.map_none, List.getElem?_cons_zero, List.getElem?_cons_succ, List.set_cons_zero, List.set_cons_succ, List.length_cons, List.length_nil, List.map_cons, List.map_nil, List.replicate, List.cons_append, List.nil_append, h1, hT, isTu, hS, vC, innerD, innerN, ns_00, ns_01, ns_02, ns_03, ns_04, ns_05, ns_06, ns_10, ns_11, ns_12, ns_13, ns_14, ns_15, ns_16, ns_20, ns_21, ns_22, ns_23, ns_24, ns_25, ns_26, ns_30, ns_31, ns_32, ns_33, ns_34, ns_35, ns_36, ns_40, ns_41, ns_42, ns_43, ns_44, ns_45, ns_46, ns_50, ns_51, ns_52, ns_53, ns_54, ns_55, ns_56, ns_60, ns_61, ns_62, ns_63, ns_64, ns_65, ns_66, *]
        | [y, z], _, ih' =>
          have hy := ih' y (by simp)
          have hz := ih' z (by simp)
          rcases nameCases s with rfl | rfl | rfl | rfl | rfl | rfl | ⟨a1, a2, a3, a4, a5, a6, a7, a8, a9, a10⟩
          · simp [m_law_is_condition, b_law_is_condition, -Option.bind_some, -Option.map_some, Ru.c_e, Ru.v_e, Ru.v_d, Ru.rv_e, Ru.rv_d, Ru.rv_l, Ru.nil_e, Ru.cons_e, Ru.cons_d, Ru.cons_l, Ru.cons_2, Ru.tup_e, Ru.tup_d, Ru.lst_e, Ru.lst_d, Ru.rd_e, Ru.rd_d, Ru.rd_l, Ru.op_e, Ru.op_1, Ru.op_2, Ru.op_3, Ru.un_e, Ru.un_1, Ru.isi_e, Ru.ite_e, Ru.ite_t, Ru.ite_f, Ru.ofB_e, Ru.ofB_1, Ru.toB_e, Ru.toB_1, Ru.and_e, Ru.and_t, Ru.and_f, Ru.or_e, Ru.or_t, Ru.or_f, Ru.not_e, Ru.not_1, Ru.px_e, Ru.px_1, Ru.px_2, Ru.oN_e, Ru.oS_e, Ru.oS_1, Ru.sl_e, Ru.sl_1, Ru.sl_2, Ru.sl_3, Ru.sl3_e, Ru.tl_1, Ru.tl_2, Ru.tl_3, Ru.tl_4, Ru.call_e, Ru.call_1, Ru.call_2, Ru.callP_e, Ru.callP_1, Ru.callP_2, Ru.chain_e, Ru.ch_1, Ru.ch_2, Ru.ch_t, Ru.ch_f, Ru.iL_e, Ru.iL_d, Ru.iL_l, Ru.iT_e, Ru.iT_d, Ru.iR1_e, Ru.iR1_1, Ru.lR_e, Ru.lR_1, Ru.tN_e, Ru.tT_2, Ru.yes_e, Ru.lc_e, Ru.lc_1, Ru.lc_2, Ru.seq_e, Ru.seq_nx, Ru.seq_rt, Ru.nop_e, Ru.set_e, Ru.set_d, Ru.set_l, Ru.setL_e, Ru.setL_l, Ru.ret_e, Ru.ret_1, Ru.retV_e, Ru.retV_l, Ru.retV_d, Ru.frz_e, Ru.frz_l, Ru.sIte_e, Ru.sIte_t, Ru.sIte_f, Ru.for_e, Ru.for_1, Ru.for_nil, Ru.for_cons, Ru.fK_1, Ru.fK_nx, Ru.fK_rt, Ru.append_e, Ru.append_1, Ru.append_d, Ru.append_l, Ru.extend_e, Ru.extend_1, Ru.extend_l, Ru.pop_e, Ru.pop_1, Ru.setIx_e, Ru.setIx_d, Ru.setP_e, Ru.setP_d, Ru.setP_1, Ru.par_e, Ru.par_1, Ru.stup_e, Ru.stup_d, Ru.wK_t, Ru.wK_f, Ru.wK_nx, Ru.wK_rt, Ru.runB_f, Ru.runB_t, Ru.rb_f, Ru.rb_t, Ru.rb_n, Ru.lt_i, Ru.le_i, Ru.gt_i, Ru.ge_i, Ru.sub_i, Ru.add_i, Ru.add_s, Ru.add_t, Ru.add_l, Ru.mul_i, Ru.div_i, Ru.mod_i, Ru.neg_i, Ru.is_n, Ru.isNot_n, Ru.non_n, Ru.non_i, Ru.non_b, Ru.non_s, Ru.non_l, Ru.non_t, Ru.len_l, Ru.len_t, Ru.len_s, Ru.list_l, Ru.list_t, Ru.tuple_l, Ru.tuple_t, Ru.int_i, Ru.gsl_l, Ru.gsl_t, Ru.gsl_s, Ru.eq_s, Ru.eq_i, Ru.eq_b, Ru.ne_b, Ru.ne_s, Ru.ne_i, Ru.in_2, Ru.atI_0, Ru.atI_1, Ru.atI_2, Ru.ix_t, Ru.ix_l, Ru.cut_1, E.wipeS, Ru.bind_some, Option.bind_none, Ru.map_some, Option.map_none, List.getElem?_cons_zero, List.getElem?_cons_succ, List.set_cons_zero, List.set_cons_succ, List.length_cons, List.length_nil, List.map_cons, List.map_nil, List.replicate, List.cons_append, List.nil_append, h1, hT, isTu, hS, vC, innerD, innerN, ns_00, ns_01, ns_02, ns_03, ns_04, ns_05, ns_06, ns_10, ns_11, ns_12, ns_13, ns_14, ns_15, ns_16, ns_20, ns_21, ns_22, ns_23, ns_24, ns_25, ns_26, ns_30, ns_31, ns_32, ns_33, ns_34, ns_35, ns_36, ns_40, ns_41, ns_42, ns_43, ns_44, ns_45, ns_46, ns_50, ns_51, ns_52, ns_53, ns_54, ns_55, ns_56, ns_60, ns_61, ns_62, ns_63, ns_64, ns_65, ns_66]
          · simp [m_law_is_condition, b_law_is_condition, -Option.bind_some, -Option.map_some, Ru.c_e, Ru.v_e, Ru.v_d, Ru.rv_e, Ru.rv_d, Ru.rv_l, Ru.nil_e, Ru.cons_e, Ru.cons_d, Ru.cons_l, Ru.cons_2, Ru.tup_e, Ru.tup_d, Ru.lst_e, Ru.lst_d, Ru.rd_e, Ru.rd_d, Ru.rd_l, Ru.op_e, Ru.op_1, Ru.op_2, Ru.op_3, Ru.un_e, Ru.un_1, Ru.isi_e, Ru.ite_e, Ru.ite_t, Ru.ite_f, Ru.ofB_e, Ru.ofB_1, Ru.toB_e, Ru.toB_1, Ru.and_e, Ru.and_t, Ru.and_f, Ru.or_e, Ru.or_t, Ru.or_f, Ru.not_e, Ru.not_1, Ru.px_e, Ru.px_1, Ru.px_2, Ru.oN_e, Ru.oS_e, Ru.oS_1, Ru.sl_e, Ru.sl_1, Ru.sl_2, Ru.sl_3, Ru.sl3_e, Ru.tl_1, Ru.tl_2, Ru.tl_3, Ru.tl_4, Ru.call_e, Ru.call_1, Ru.call_2, Ru.callP_e, Ru.callP_1, Ru.callP_2, Ru.chain_e, Ru.ch_1, Ru.ch_2, Ru.ch_t, Ru.ch_f, Ru.iL_e, Ru.iL_d, Ru.iL_l, Ru.iT_e, Ru.iT_d, Ru.iR1_e, Ru.iR1_1, Ru.lR_e, Ru.lR_1, Ru.tN_e, Ru.tT_2, Ru.yes_e, Ru.lc_e, Ru.lc_1, Ru.lc_2, Ru.seq_e, Ru.seq_nx, Ru.seq_rt, Ru.nop_e, Ru.set_e, Ru.set_d, Ru.set_l, Ru.setL_e, Ru.setL_l, Ru.ret_e, Ru.ret_1, Ru.retV_e, Ru.retV_l, Ru.retV_d, Ru.frz_e, Ru.frz_l, Ru.sIte_e, Ru.sIte_t, Ru.sIte_f, Ru.for_e, Ru.for_1, Ru.for_nil, Ru.for_cons, Ru.fK_1, Ru.fK_nx, Ru.fK_rt, Ru.append_e, Ru.append_1, Ru.append_d, Ru.append_l, Ru.extend_e, Ru.extend_1, Ru.extend_l, Ru.pop_e, Ru.pop_1, Ru.setIx_e, Ru.setIx_d, Ru.setP_e, Ru.setP_d, Ru.setP_1, Ru.par_e, Ru.par_1, Ru.stup_e, Ru.stup_d, Ru.wK_t, Ru.wK_f, Ru.wK_nx, Ru.wK_rt, Ru.runB_f, Ru.runB_t, Ru.rb_f, Ru.rb_t, Ru.rb_n, Ru.lt_i, Ru.le_i, Ru.gt_i, Ru.ge_i, Ru.sub_i, Ru.add_i, Ru.add_s, Ru.add_t, Ru.add_l, Ru.mul_i, Ru.div_i, Ru.mod_i, Ru.neg_i, Ru.is_n, Ru.isNot_n, Ru.non_n, Ru.non_i, Ru.non_b, Ru.non_s, Ru.non_l, Ru.non_t, Ru.len_l, Ru.len_t, Ru.len_s, Ru.list_l, Ru.list_t, Ru.tuple_l, Ru.tuple_t, Ru.int_i, Ru.gsl_l, Ru.gsl_t, Ru.gsl_s, Ru.eq_s, Ru.eq_i, Ru.eq_b, Ru.ne_b, Ru.ne_s, Ru.ne_i, Ru.in_2, Ru.atI_0, Ru.atI_1, Ru.atI_2, Ru.ix_t, Ru.ix_l, Ru.cut_1, E.wipeS, Ru.bind_some, Option.bind_none, Ru.map_some, Option.map_none, List.getElem?_cons_zero, List.getElem?_cons_succ, List.set_cons_zero, List.set_cons_succ, List.length_cons, List.length_nil, List.map_cons, List.map_nil, List.replicate, List.cons_append, List.nil_append, h1, hT, isTu, hS, vC, innerD, innerN, ns_00, ns_01, ns_02, ns_03, ns_04, ns_05, ns_06, ns_10, ns_11, ns_12, ns_13, ns_14, ns_15, ns_16, ns_20, ns_21, ns_22, ns_23, ns_24, ns_25, ns_26, ns_30, ns_31, ns_32, ns_33, ns_34, ns_35, ns_36, ns_40, ns_41, ns_42, ns_43, ns_44, ns_45, ns_46, ns_50, ns_51, ns_52, ns_53, ns_54, ns_55, ns_56, ns_60, ns_61, ns_62, ns_63, ns_64, ns_65, ns_66]
          · simp [m_law_is_condition, b_law_is_condition, -Option.bind_some, -Option.map_some, Ru.c_e, Ru.v_e, Ru.v_d, Ru.rv_e, Ru.rv_d, Ru.rv_l, Ru.nil_e, Ru.cons_e, Ru.cons_d, Ru.cons_l, Ru.cons_2, Ru.tup_e, Ru.tup_d, Ru.lst_e, Ru.lst_d, Ru.rd_e, Ru.rd_d, Ru.rd_l, Ru.op_e, Ru.op_1, Ru.op_2, Ru.op_3, Ru.un_e, Ru.un_1, Ru.isi_e, Ru.ite_e, Ru.ite_t, Ru.ite_f, Ru.ofB_e, Ru.ofB_1, Ru.toB_e, Ru.toB_1, Ru.and_e, Ru.and_t, Ru.and_f, Ru.or_e, Ru.or_t, Ru.or_f, Ru.not_e, Ru.not_1, Ru.px_e, Ru.px_1, Ru.px_2, Ru.oN_e, Ru.oS_e, Ru.oS_1, Ru.sl_e, Ru.sl_1, Ru.sl_2, Ru.sl_3, Ru.sl3_e, Ru.tl_1, Ru.tl_2, Ru.tl_3, Ru.tl_4, Ru.call_e, Ru.call_1, Ru.call_2, Ru.callP_e, Ru.callP_1, Ru.callP_2, Ru.chain_e, Ru.ch_1, Ru.ch_2, Ru.ch_t, Ru.ch_f, Ru.iL_e, Ru.iL_d, Ru.iL_l, Ru.iT_e, Ru.iT_d, Ru.iR1_e, Ru.iR1_1, Ru.lR_e, Ru.lR_1, Ru.tN_e, Ru.tT_2, Ru.yes_e, Ru.lc_e, Ru.lc_1, Ru.lc_2, Ru.seq_e, Ru.seq_nx, Ru.seq_rt, Ru.nop_e, Ru.set_e, Ru.set_d, Ru.set_l, Ru.setL_e, Ru.setL_l, Ru.ret_e, Ru.ret_1, Ru.retV_e, Ru.retV_l, Ru.retV_d, Ru.frz_e, Ru.frz_l, Ru.sIte_e, Ru.sIte_t, Ru.sIte_f, Ru.for_e, Ru.for_1, Ru.for_nil, Ru.for_cons, Ru.fK_1, Ru.fK_nx, Ru.fK_rt, Ru.append_e, Ru.append_1, Ru.append_d, Ru.append_l, Ru.extend_e, Ru.extend_1, Ru.extend_l, Ru.pop_e, Ru.pop_1, Ru.setIx_e, Ru.setIx_d, Ru.setP_e, Ru.setP_d, Ru.setP_1, Ru.par_e, Ru.par_1, Ru.stup_e, Ru.stup_d, Ru.wK_t, Ru.wK_f, Ru.wK_nx, Ru.wK_rt, Ru.runB_f, Ru.runB_t, Ru.rb_f, Ru.rb_t, Ru.rb_n, Ru.lt_i, Ru.le_i, Ru.gt_i, Ru.ge_i, Ru.sub_i, Ru.add_i, Ru.add_s, Ru.add_t, Ru.add_l, Ru.mul_i, Ru.div_i, Ru.mod_i, Ru.neg_i, Ru.is_n, Ru.isNot_n, Ru.non_n, Ru.non_i, Ru.non_b, Ru.non_s, Ru.non_l, Ru.non_t, Ru.len_l, Ru.len_t, Ru.len_s, Ru.list_l, Ru.list_t, Ru.tuple_l, Ru.tuple_t, Ru.int_i, Ru.gsl_l, Ru.gsl_t, Ru.gsl_s, Ru.eq_s, Ru.eq_i, Ru.eq_b, Ru.ne_b, Ru.ne_s, Ru.ne_i, Ru.in_2, Ru.atI_0, Ru.atI_1, Ru.atI_2, Ru.ix_t, Ru.ix_l, Ru.cut_1, E.wipeS, Ru.bind_some, Option.bind_none, Ru.map_some, Option.map_none, List.getElem?_cons_zero, List.getElem?_cons_succ, List.set_cons_zero, List.set_cons_succ, List.length_cons, List.length_nil, List.map_cons, List.map_nil, List.replicate, List.cons_append, List.nil_append, h1, hT, isTu, hS, vC, innerD, innerN, ns_00, ns_01, ns_02, ns_03, ns_04, ns_05, ns_06, ns_10, ns_11, ns_12, ns_13, ns_14, ns_15, ns_16, ns_20, ns_21, ns_22, ns_23, ns_24, ns_25, ns_26, ns_30, ns_31, ns_32, ns_33, ns_34, ns_35, ns_36, ns_40, ns_41, ns_42, ns_43, ns_44, ns_45, ns_46, ns_50, ns_51, ns_52, ns_53, ns_54, ns_55, ns_56, ns_60, ns_61, ns_62, ns_63, ns_64, ns_65, ns_66]
          · simp [m_law_is_condition, b_law_is_condition, -Option.bind_some, -Option.map_some, Ru.c_e, Ru.v_e, Ru.v_d, Ru.rv_e, Ru.rv_d, Ru.rv_l, Ru.nil_e, Ru.cons_e, Ru.cons_d, Ru.cons_l, Ru.cons_2, Ru.tup_e, Ru.tup_d, Ru.lst_e, Ru.lst_d, Ru.rd_e, Ru.rd_d, Ru.rd_l, Ru.op_e, Ru.op_1, Ru.op_2, Ru.op_3, Ru.un_e, Ru.un_1, Ru.isi_e, Ru.ite_e, Ru.ite_t, Ru.ite_f, Ru.ofB_e, Ru.ofB_1, Ru.toB_e, Ru.toB_1, Ru.and_e, Ru.and_t, Ru.and_f, Ru.or_e, Ru.or_t, Ru.or_f, Ru.not_e, Ru.not_1, Ru.px_e, Ru.px_1, Ru.px_2, Ru.oN_e, Ru.oS_e, Ru.oS_1, Ru.sl_e, Ru.sl_1, Ru.sl_2, Ru.sl_3, Ru.sl3_e, Ru.tl_1, Ru.tl_2, Ru.tl_3, Ru.tl_4, Ru.call_e, Ru.call_1, Ru.call_2, Ru.callP_e, Ru.callP_1, Ru.callP_2, Ru.chain_e, Ru.ch_1, Ru.ch_2, Ru.ch_t, Ru.ch_f, Ru.iL_e, Ru.iL_d, Ru.iL_l, Ru.iT_e, Ru.iT_d, Ru.iR1_e, Ru.iR1_1, Ru.lR_e, Ru.lR_1, Ru.tN_e, Ru.tT_2, Ru.yes_e, Ru.lc_e, Ru.lc_1, Ru.lc_2, Ru.seq_e, Ru.seq_nx, Ru.seq_rt, Ru.nop_e, Ru.set_e, Ru.set_d, Ru.set_l, Ru.setL_e, Ru.setL_l, Ru.ret_e, Ru.ret_1, Ru.retV_e, Ru.retV_l, Ru.retV_d, Ru.frz_e, Ru.frz_l, Ru.sIte_e, Ru.sIte_t, Ru.sIte_f, Ru.for_e, Ru.for_1, Ru.for_nil, Ru.for_cons, Ru.fK_1, Ru.fK_nx, Ru.fK_rt, Ru.append_e, Ru.append_1, Ru.append_d, Ru.append_l, Ru.extend_e, Ru.extend_1, Ru.extend_l, Ru.pop_e, Ru.pop_1, Ru.setIx_e, Ru.setIx_d, Ru.setP_e, Ru.setP_d, Ru.setP_1, Ru.par_e, Ru.par_1, Ru.stup_e, Ru.stup_d, Ru.wK_t, Ru.wK_f, Ru.wK_nx, Ru.wK_rt, Ru.runB_f, Ru.runB_t, Ru.rb_f, Ru.rb_t, Ru.rb_n, Ru.lt_i, Ru.le_i, Ru.gt_i, Ru.ge_i, Ru.sub_i, Ru.add_i, Ru.add_s, Ru.add_t, Ru.add_l, Ru.mul_i, Ru.div_i, Ru.mod_i, Ru.neg_i, Ru.is_n, Ru.isNot_n, Ru.non_n, Ru.non_i, Ru.non_b, Ru.non_s, Ru.non_l, Ru.non_t, Ru.len_l, Ru.len_t, Ru.len_s, Ru.list_l, Ru.list_t, Ru.tuple_l, Ru.tuple_t, Ru.int_i, Ru.gsl_l, Ru.gsl_t, Ru.gsl_s, Ru.eq_s, Ru.eq_i, Ru.eq_b, Ru.ne_b, Ru.ne_s, Ru.ne_i, Ru.in_2, Ru.atI_0, Ru.atI_1, Ru.atI_2, Ru.ix_t, Ru.ix_l, Ru.cut_1, E.wipeS, Ru.bind_some, Option.bind_none, Ru.map_some, Option.map_none, List.getElem?_cons_zero, List.getElem?_cons_succ, List.set_cons_zero, List.set_cons_succ, List.length_cons, List.length_nil, List.map_cons, List.map_nil, List.replicate, List.cons_append, List.nil_append, h1, hT, isTu, hS, vC, innerD, innerN, ns_00, ns_01, ns_02, ns_03, ns_04, ns_05, ns_06, ns_10, ns_11, ns_12, ns_13, ns_14, ns_15, ns_16, ns_20, ns_21, ns_22, ns_23, ns_24, ns_25, ns_26, ns_30, ns_31, ns_32, ns_33, ns_34, ns_35, ns_36, ns_40, ns_41, ns_42, ns_43, ns_44, ns_45, ns_46, ns_50, ns_51, ns_52, ns_53, ns_54, ns_55, ns_56, ns_60, ns_61, ns_62, ns_63, ns_64, ns_65, ns_66]
          · cases v1 : vC d (40 - k) y <;> rw [v1] at hy <;> simp [m_law_is_condition, b_law_is_condition, -Option.bind_some, -Option.map_some, Ru.c_e, Ru.v_e, Ru.v_d, Ru.rv_e, Ru.rv_d, Ru.rv_l, Ru.nil_e, Ru.cons_e, Ru.cons_d, Ru.cons_l, Ru.cons_2, Ru.tup_e, Ru.tup_d, Ru.lst_e, Ru.lst_d, Ru.rd_e, Ru.rd_d, Ru.rd_l, Ru.op_e, Ru.op_1, Ru.op_2, Ru.op_3, Ru.un_e, Ru.un_1, Ru.isi_e, Ru.ite_e, Ru.ite_t, Ru.ite_f, Ru.ofB_e, Ru.ofB_1, Ru.toB_e, Ru.toB_1, Ru.and_e, Ru.and_t, Ru.and_f, Ru.or_e, Ru.or_t, Ru.or_f, Ru.not_e, Ru.not_1, Ru.px_e, Ru.px_1, Ru.px_2, Ru.oN_e, Ru.oS_e, Ru.oS_1, Ru.sl_e, Ru.sl_1, Ru.sl_2, Ru.sl_3, Ru.sl3_e, Ru.tl_1, Ru.tl_2, Ru.tl_3, Ru.tl_4, Ru.call_e, Ru.call_1, Ru.call_2, Ru.callP_e, Ru.callP_1, Ru.callP_2, Ru.chain_e, Ru.ch_1, Ru.ch_2, Ru.ch_t, Ru.ch_f, Ru.iL_e, Ru.iL_d, Ru.iL_l, Ru.iT_e, Ru.iT_d, Ru.iR1_e, Ru.iR1_1, Ru.lR_e, Ru.lR_1, Ru.tN_e, Ru.tT_2, Ru.yes_e, Ru.lc_e, Ru.lc_1, Ru.lc_2, Ru.seq_e, Ru.seq_nx, Ru.seq_rt, Ru.nop_e, Ru.set_e, Ru.set_d, Ru.set_l, Ru.setL_e, Ru.setL_l, Ru.ret_e, Ru.ret_1, Ru.retV_e, Ru.retV_l, Ru.retV_d, Ru.frz_e, Ru.frz_l, Ru.sIte_e, Ru.sIte_t, Ru.sIte_f, Ru.for_e, Ru.for_1, Ru.for_nil, Ru.for_cons, Ru.fK_1, Ru.fK_nx, Ru.fK_rt, Ru.append_e, Ru.append_1, Ru.append_d, Ru.append_l, Ru.extend_e, Ru.extend_1, Ru.extend_l, Ru.pop_e, Ru.pop_1, Ru.setIx_e, Ru.setIx_d, Ru.setP_e, Ru.setP_d, Ru.setP_1, Ru.par_e, Ru.par_1, Ru.stup_e, Ru.stup_d, Ru.wK_t, Ru.wK_f, Ru.wK_nx, Ru.wK_rt, Ru.runB_f, Ru.runB_t, Ru.rb_f, Ru.rb_t, Ru.rb_n, Ru.lt_i, Ru.le_i, Ru.gt_i, Ru.ge_i, Ru.sub_i, Ru.add_i, Ru.add_s, Ru.add_t, Ru.add_l, Ru.mul_i, Ru.div_i, Ru.mod_i, Ru.neg_i, Ru.is_n, Ru.isNot_n, Ru.non_n, Ru.non_i, Ru.non_b, Ru.non_s, Ru.non_l, Ru.non_t, Ru.len_l, Ru.len_t, Ru.len_s, Ru.list_l, Ru.list_t, Ru.tuple_l, Ru.tuple_t, Ru.int_i, Ru.gsl_l, Ru.gsl_t, Ru.gsl_s, Ru.eq_s, Ru.eq_i, Ru.eq_b, Ru.ne_b, Ru.ne_s, Ru.ne_i, Ru.in_2, Ru.atI_0, Ru.atI_1, Ru.atI_2, Ru.ix_t, Ru.ix_l, Ru.cut_1, E.wipeS, Ru.bind_some, Option.bind_none, Ru.map_some, Option.map_none, List.getElem?_cons_zero, List.getElem?_cons_succ, List.set_cons_zero, List.set_cons_succ, List.length_cons, List.length_nil, List.map_cons, List.map_nil, List.replicate, List.cons_append, List.nil_append, h1, hT, isTu, hS, vC, innerD, innerN, ns_00, ns_01, ns_02, ns_03, ns_04, ns_05, ns_06, ns_10, ns_11, ns_12, ns_13, ns_14, ns_15, ns_16, ns_20, ns_21, ns_22, ns_23, ns_24, ns_25, ns_26, ns_30, ns_31, ns_32, ns_33, ns_34, ns_35, ns_36, ns_40, ns_41, ns_42, ns_43, ns_44, ns_45, ns_46, ns_50, ns_51, ns_52, ns_53, ns_54, ns_55, ns_56, ns_60, ns_61, ns_62, ns_63, ns_64, ns_65, ns_66, hy, hz, v1]
          · cases v1 : vC d (40 - k) y <;> rw [v1] at hy <;> simp [m_law_is_condition, b_law_is_condition, -Option.bind_some, -Option.map_some, Ru.c_e, Ru.v_e, Ru.v_d, Ru.rv_e, Ru.rv_d, Ru.rv_l, Ru.nil_e, Ru.cons_e, Ru.cons_d, Ru.cons_l, Ru.cons_2, Ru.tup_e, Ru.tup_d, Ru.lst_e, Ru.lst_d, Ru.rd_e, Ru.rd_d, Ru.rd_l, Ru.op_e, Ru.op_1, Ru.op_2, Ru.op_3, Ru.un_e, Ru.un_1, Ru.isi_e, Ru.ite_e, Ru.ite_t, Ru.ite_f, Ru.ofB_e, Ru.ofB_1, Ru.toB_e, Ru.toB_1, Ru.and_e, Ru.and_t, Ru.and_f, Ru.or_e, Ru.or_t, Ru.or_f, Ru.not_e, Ru.not_1, Ru.px_e, Ru.px_1, Ru.px_2, Ru.oN_e, Ru.oS_e, Ru.oS_1, Ru.sl_e, Ru.sl_1, Ru.sl_2, Ru.sl_3, Ru.sl3_e, Ru.tl_1, Ru.tl_2, Ru.tl_3, Ru.tl_4, Ru.call_e, Ru.call_1, Ru.call_2, Ru.callP_e, Ru.callP_1, Ru.callP_2, Ru.chain_e, Ru.ch_1, Ru.ch_2, Ru.ch_t, Ru.ch_f, Ru.iL_e, Ru.iL_d, Ru.iL_l, Ru.iT_e, Ru.iT_d, Ru.iR1_e, Ru.iR1_1, Ru.lR_e, Ru.lR_1, Ru.tN_e, Ru.tT_2, Ru.yes_e, Ru.lc_e, Ru.lc_1, Ru.lc_2, Ru.seq_e, Ru.seq_nx, Ru.seq_rt, Ru.nop_e, Ru.set_e, Ru.set_d, Ru.set_l, Ru.setL_e, Ru.setL_l, Ru.ret_e, Ru.ret_1, Ru.retV_e, Ru.retV_l, Ru.retV_d, Ru.frz_e, Ru.frz_l, Ru.sIte_e, Ru.sIte_t, Ru.sIte_f, Ru.for_e, Ru.for_1, Ru.for_nil, Ru.for_cons, Ru.fK_1, Ru.fK_nx, Ru.fK_rt, Ru.append_e, Ru.append_1, Ru.append_d, Ru.append_l, Ru.extend_e, Ru.extend_1, Ru.extend_l, Ru.pop_e, Ru.pop_1, Ru.setIx_e, Ru.setIx_d, Ru.setP_e, Ru.setP_d, Ru.setP_1, Ru.par_e, Ru.par_1, Ru.stup_e, Ru.stup_d, Ru.wK_t, Ru.wK_f, Ru.wK_nx, Ru.wK_rt, Ru.runB_f, Ru.runB_t, Ru.rb_f, Ru.rb_t, Ru.rb_n, Ru.lt_i, Ru.le_i, Ru.gt_i, Ru.ge_i, Ru.sub_i, Ru.add_i, Ru.add_s, Ru.add_t, Ru.add_l, Ru.mul_i, Ru.div_i, Ru.mod_i, Ru.neg_i, Ru.is_n, Ru.isNot_n, Ru.non_n, Ru.non_i, Ru.non_b, Ru.non_s, Ru.non_l, Ru.non_t, Ru.len_l, Ru.len_t, Ru.len_s, Ru.list_l, Ru.list_t, Ru.tuple_l, Ru.tuple_t, Ru.int_i, Ru.gsl_l, Ru.gsl_t, Ru.gsl_s, Ru.eq_s, Ru.eq_i, Ru.eq_b, Ru.ne_b, Ru.ne_s, Ru.ne_i, Ru.in_2, Ru.atI_0, Ru.atI_1, Ru.atI_2, Ru.ix_t, Ru.ix_l, Ru.cut_1, E.wipeS, Ru.bind_some, Option.bind_none, Ru.map_some, Option.map_none, List.getElem?_cons_zero, List.getElem?_cons_succ, List.set_cons_zero, List.set_cons_succ, List.length_cons, List.length_nil, List.map_cons, List.map_nil, List.replicate, List.cons_append, List.nil_append, h1, hT, isTu, hS, vC, innerD, innerN, ns_00, ns_01, ns_02, ns_03, ns_04, ns_05, ns_06, ns_10, ns_11, ns_12, ns_13, ns_14, ns_15, ns_16, ns_20, ns_21, ns_22, ns_23, ns_24, ns_25, ns_26, ns_30, ns_31, ns_32, ns_33, ns_34, ns_35, ns_36, ns_40, ns_41, ns_42, ns_43, ns_44, ns_45, ns_46, ns_50, ns_51, ns_52, ns_53, ns_54, ns_55, ns_56, ns_60, ns_61, ns_62, ns_63, ns_64, ns_65, ns_66, hy, hz, v1]
          · simp [m_law_is_condition, b_law_is_condition, -Option.bind_some, -Option.map_some, Ru.c_e, Ru.v_e, Ru.v_d, Ru.rv_e, Ru.rv_d, Ru.rv_l, Ru.nil_e, Ru.cons_e, Ru.cons_d, Ru.cons_l, Ru.cons_2, Ru.tup_e, Ru.tup_d, Ru.lst_e, Ru.lst_d, Ru.rd_e, Ru.rd_d, Ru.rd_l, Ru.op_e, Ru.op_1, Ru.op_2, Ru.op_3, Ru.un_e, Ru.un_1, Ru.isi_e, Ru.ite_e, Ru.ite_t, Ru.ite_f, Ru.ofB_e, Ru.ofB_1, Ru.toB_e, Ru.toB_1, Ru.and_e, Ru.and_t, Ru.and_f, Ru.or_e, Ru.or_t, Ru.or_f, Ru.not_e, Ru.not_1, Ru.px_e, Ru.px_1, Ru.px_2, Ru.oN_e, Ru.oS_e, Ru.oS_1, Ru.sl_e, Ru.sl_1, Ru.sl_2, Ru.sl_3, Ru.sl3_e, Ru.tl_1, Ru.tl_2, Ru.tl_3, Ru.tl_4, Ru.call_e, Ru.call_1, Ru.call_2, Ru.callP_e, Ru.callP_1, Ru.callP_2, Ru.chain_e, Ru.ch_1, Ru.ch_2, Ru.ch_t, Ru.ch_f, Ru.iL_e, Ru.iL_d, Ru.iL_l, Ru.iT_e, Ru.iT_d, Ru.iR1_e, Ru.iR1_1, Ru.lR_e, Ru.lR_1, Ru.tN_e, Ru.tT_2, Ru.yes_e, Ru.lc_e, Ru.lc_1, Ru.lc_2, Ru.seq_e, Ru.seq_nx, Ru.seq_rt, Ru.nop_e, Ru.set_e, Ru.set_d, Ru.set_l, Ru.setL_e, Ru.setL_l, Ru.ret_e, Ru.ret_1, Ru.retV_e, Ru.retV_l, Ru.retV_d, Ru.frz_e, Ru.frz_l, Ru.sIte_e, Ru.sIte_t, Ru.sIte_f, Ru.for_e, Ru.for_1, Ru.for_nil, Ru.for_cons, Ru.fK_1, Ru.fK_nx, Ru.fK_rt, Ru.append_e, Ru.append_1, Ru.append_d, Ru.append_l, Ru.extend_e, Ru.extend_1, Ru.extend_l, Ru.pop_e, Ru.pop_1, Ru.setIx_e, Ru.setIx_d, Ru.setP_e, Ru.setP_d, Ru.setP_1, Ru.par_e, Ru.par_1, Ru.stup_e, Ru.stup_d, Ru.wK_t, Ru.wK_f, Ru.wK_nx, Ru.wK_rt, Ru.runB_f, Ru.runB_t, Ru.rb_f, Ru.rb_t, Ru.rb_n, Ru.lt_i, Ru.le_i, Ru.gt_i, Ru.ge_i, Ru.sub_i, Ru.add_i, Ru.add_s, Ru.add_t, Ru.add_l, Ru.mul_i, Ru.div_i, Ru.mod_i, Ru.neg_i, Ru.is_n, Ru.isNot_n, Ru.non_n, Ru.non_i, Ru.non_b, Ru.non_s, Ru.non_l, Ru.non_t, Ru.len_l, Ru.len_t, Ru.len_s, Ru.list_l, Ru.list_t, Ru.tuple_l, Ru.tuple_t, Ru.int_i, Ru.gsl_l, Ru.gsl_t, Ru.gsl_s, Ru.eq_s, Ru.eq_i, Ru.eq_b, Ru.ne_b, Ru.ne_s, Ru.ne_i, Ru.in_2, Ru.atI_0, Ru.atI_1, Ru.atI_2, Ru.ix_t, Ru.ix_l, Ru.cut_1, E.wipeS, Ru.bind_some, Option.bind_none, Ru.map_some, Option.map_none, List.getElem?_cons_zero, List.getElem?_cons_succ, List.set_cons_zero, List.set_cons_succ, List.length_cons, List.length_nil, List.map_cons, List.map_nil, List.replicate, List.cons_append, List.nil_append, h1, hT, isTu, hS, vC, innerD, innerN, ns_00, ns_01, ns_02, ns_03, ns_04, ns_05, ns_06, ns_10, ns_11, ns_12, ns_13, ns_14, ns_15, ns_16, ns_20, ns_21, ns_22, ns_23, ns_24, ns_25, ns_26, ns_30, ns_31, ns_32, ns_33, ns_34, ns_35, ns_36, ns_40, ns_41, ns_42, ns_43, ns_44, ns_45, ns_46, ns_50, ns_51, ns_52, ns_53, ns_54, ns_55, ns_56, ns_60, ns_61, ns_62, ns_63, ns_64, ns_65, ns_66, *]
        | y :: z :: u :: r, _, _ =>
          have l1 : ((r.length : Int) + 1 + 1 + 1 + 1 == 1) = false := beq_false_of_ne (by omega)
          have l2 : ((r.length : Int) + 1 + 1 + 1 + 1 == 2) = false := beq_false_of_ne (by omega)
          have l3 : ((r.length : Int) + 1 + 1 + 1 + 1 == 3) = false := beq_false_of_ne (by omega)
          have l0 : ((r.length : Int) + 1 + 1 + 1 + 1 == 0) = false := beq_false_of_ne (by omega)
          rcases nameCases s with rfl | rfl | rfl | rfl | rfl | rfl | ⟨a1, a2, a3, a4, a5, a6, a7, a8, a9, a10⟩ <;>
            simp [m_law_is_condition, b_law_is_condition, -Option.bind_some, -Option.map_some, Ru.c_e, Ru.v_e, Ru.v_d, Ru.rv_e, Ru.rv_d, Ru.rv_l, Ru.nil_e, Ru.cons_e, Ru.cons_d, Ru.cons_l, Ru.cons_2, Ru.tup_e, Ru.tup_d, Ru.lst_e, Ru.lst_d, Ru.rd_e, Ru.rd_d, Ru.rd_l, Ru.op_e, Ru.op_1, Ru.op_2, Ru.op_3, Ru.un_e, Ru.un_1, Ru.isi_e, Ru.ite_e, Ru.ite_t, Ru.ite_f, Ru.ofB_e, Ru.ofB_1, Ru.toB_e, Ru.toB_1, Ru.and_e, Ru.and_t, Ru.and_f, Ru.or_e, Ru.or_t, Ru.or_f, Ru.not_e, Ru.not_1, Ru.px_e, Ru.px_1, Ru.px_2, Ru.oN_e, Ru.oS_e, Ru.oS_1, Ru.sl_e, Ru.sl_1, Ru.sl_2, Ru.sl_3, Ru.sl3_e, Ru.tl_1, Ru.tl_2, Ru.tl_3, Ru.tl_4, Ru.call_e, Ru.call_1, Ru.call_2, Ru.callP_e, Ru.callP_1, Ru.callP_2, Ru.chain_e, Ru.ch_1, Ru.ch_2, Ru.ch_t, Ru.ch_f, Ru.iL_e, Ru.iL_d, Ru.iL_l, Ru.iT_e, Ru.iT_d, Ru.iR1_e, Ru.iR1_1, Ru.lR_e, Ru.lR_1, Ru.tN_e, Ru.tT_2, Ru.yes_e, Ru.lc_e, Ru.lc_1, Ru.lc_2, Ru.seq_e, Ru.seq_nx, Ru.seq_rt, Ru.nop_e, Ru.set_e, Ru.set_d, Ru.set_l, Ru.setL_e, Ru.setL_l, Ru.ret_e, Ru.ret_1, Ru.retV_e, Ru.retV_l, Ru.retV_d, Ru.frz_e, Ru.frz_l, Ru.sIte_e, Ru.sIte_t, Ru.sIte_f, Ru.for_e, Ru.for_1, Ru.for_nil, Ru.for_cons, Ru.fK_1, Ru.fK_nx, Ru.fK_rt, Ru.append_e, Ru.append_1, Ru.append_d, Ru.append_l, Ru.extend_e, Ru.extend_1, Ru.extend_l, Ru.pop_e, Ru.pop_1, Ru.setIx_e, Ru.setIx_d, Ru.setP_e, Ru.setP_d, Ru.setP_1, Ru.par_e, Ru.par_1, Ru.stup_e, Ru.stup_d, Ru.wK_t, Ru.wK_f, Ru.wK_nx, Ru.wK_rt, Ru.runB_f, Ru.runB_t, Ru.rb_f, Ru.rb_t, Ru.rb_n, Ru.lt_i, Ru.le_i, Ru.gt_i, Ru.ge_i, Ru.sub_i, Ru.add_i, Ru.add_s, Ru.add_t, Ru.add_l, Ru.mul_i, Ru.div_i, Ru.mod_i, Ru.neg_i, Ru.is_n, Ru.isNot_n, Ru.non_n, Ru.non_i, Ru.non_b, Ru.non_s, Ru.non_l, Ru.non_t, Ru.len_l, Ru.len_t, Ru.len_s, Ru.list_l, Ru.list_t, Ru.tuple_l, Ru.tuple_t, Ru.int_i, Ru.gsl_l, Ru.gsl_t, Ru.gsl_s, Ru.eq_s, Ru.eq_i, Ru.eq_b, Ru.ne_b, Ru.ne_s, Ru.ne_i, Ru.in_2, Ru.atI_0, Ru.atI_1, Ru.atI_2, Ru.ix_t, Ru.ix_l, Ru.cut_1, E.wipeS, Ru.bind_some, Option.bind_none, Ru.map_some, Option.map_none, List.getElem?_cons_zero, List.getElem?_cons_succ, List.set_cons_zero, List.set_cons_succ, List.length_cons, List.length_nil, List.map_cons, List.map_nil, List.replicate, List.cons_append, List.nil_append, h1, hT, isTu, hS, vC, innerD, innerN, ns_00, ns_01, ns_02, ns_03, ns_04, ns_05, ns_06, ns_10, ns_11, ns_12, ns_13, ns_14, ns_15, ns_16, ns_20, ns_21, ns_22, ns_23, ns_24, ns_25, ns_26, ns_30, ns_31, ns_32, ns_33, ns_34, ns_35, ns_36, ns_40, ns_41, ns_42, ns_43, ns_44, ns_45, ns_46, ns_50, ns_51, ns_52, ns_53, ns_54, ns_55, ns_56, ns_60, ns_61, ns_62, ns_63, ns_64, ns_65, ns_66, *]
      · have hD : innerD d x = none := by
          unfold innerD
          split
          · exact absurd ⟨_, _, rfl⟩ hs
          · rfl
        rw [e41]
        cases x with
        | tuple xs =>
          cases xs with
          | nil => simp [m_law_is_condition, b_law_is_condition, -Option.bind_some, -Option.map_some, Ru.c_e, Ru.v_e, Ru.v_d, Ru.rv_e, Ru.rv_d, Ru.rv_l, Ru.nil_e, Ru.cons_e, Ru.cons_d, Ru.cons_l, Ru.cons_2, Ru.tup_e, Ru.tup_d, Ru.lst_e, Ru.lst_d, Ru.rd_e, Ru.rd_d, Ru.rd_l, Ru.op_e, Ru.op_1, Ru.op_2, Ru.op_3, Ru.un_e, Ru.un_1, Ru.isi_e, Ru.ite_e, Ru.ite_t, Ru.ite_f, Ru.ofB_e, Ru.ofB_1, Ru.toB_e, Ru.toB_1, Ru.and_e, Ru.and_t, Ru.and_f, Ru.or_e, Ru.or_t, Ru.or_f, Ru.not_e, Ru.not_1, Ru.px_e, Ru.px_1, Ru.px_2, Ru.oN_e, Ru.oS_e, Ru.oS_1, Ru.sl_e, Ru.sl_1, Ru.sl_2, Ru.sl_3, Ru.sl3_e, Ru.tl_1, Ru.tl_2, Ru.tl_3, Ru.tl_4, Ru.call_e, Ru.call_1, Ru.call_2, Ru.callP_e, Ru.callP_1, Ru.callP_2, Ru.chain_e, Ru.ch_1, Ru.ch_2, Ru.ch_t, Ru.ch_f, Ru.iL_e, Ru.iL_d, Ru.iL_l, Ru.iT_e, Ru.iT_d, Ru.iR1_e, Ru.iR1_1, Ru.lR_e, Ru.lR_1, Ru.tN_e, Ru.tT_2, Ru.yes_e, Ru.lc_e, Ru.lc_1, Ru.lc_2, Ru.seq_e, Ru.seq_nx, Ru.seq_rt, Ru.nop_e, Ru.set_e, Ru.set_d, Ru.set_l, Ru.setL_e, Ru.setL_l, Ru.ret_e, Ru.ret_1, Ru.retV_e, Ru.retV_l, Ru.retV_d, Ru.frz_e, Ru.frz_l, Ru.sIte_e, Ru.sIte_t, Ru.sIte_f, Ru.for_e, Ru.for_1, Ru.for_nil, Ru.for_cons, Ru.fK_1, Ru.fK_nx, Ru.fK_rt, Ru.append_e, Ru.append_1, Ru.append_d, Ru.append_l, Ru.extend_e, Ru.extend_1, Ru.extend_l, Ru.pop_e, Ru.pop_1, Ru.setIx_e, Ru.setIx_d, Ru.setP_e, Ru.setP_d, Ru.setP_1, Ru.par_e, Ru.par_1, Ru.stup_e, Ru.stup_d, Ru.wK_t, Ru.wK_f, Ru.wK_nx, Ru.wK_rt, Ru.runB_f, Ru.runB_t, Ru.rb_f, Ru.rb_t, Ru.rb_n, Ru.lt_i, Ru.le_i, Ru.gt_i, Ru.ge_i, Ru.sub_i, Ru.add_i, Ru.add_s, Ru.add_t, Ru.add_l, Ru.mul_i, Ru.div_i, Ru.mod_i, Ru.neg_i, Ru.is_n, Ru.isNot_n, Ru.non_n, Ru.non_i, Ru.non_b, Ru.non_s, Ru.non_l, Ru.non_t, Ru.len_l, Ru.len_t, Ru.len_s, Ru.list_l, Ru.list_t, Ru.tuple_l, Ru.tuple_t, Ru.int_i, Ru.gsl_l, Ru.gsl_t, Ru.gsl_s, Ru.eq_s, Ru.eq_i, Ru.eq_b, Ru.ne_b, Ru.ne_s, Ru.ne_i, Ru.in_2, Ru.atI_0, Ru.atI_1, Ru.atI_2, Ru.ix_t, Ru.ix_l, Ru.cut_1, E.wipeS, Ru.bind_some, Option.bind_none, Ru.map_some, Option.map_none, List.getElem?_cons_zero, List.getElem?_cons_succ, List.set_cons_zero, List.set_cons_succ, List.length_cons, List.length_nil, List.map_cons, List.map_nil, List.replicate, List.cons_append, List.nil_append, h1, hT, isTu, vC, hD]
          | cons y ys =>
            have hy : y.plain = true := by
              simp only [PyData.plain, PyData.plainAll, Bool.and_eq_true] at hp
              exact hp.1
            have hS := isT_str hy
            have l0 : ((ys.length : Int) + 1 == 0) = false := beq_false_of_ne (by omega)
            cases y with
            | str s => exact absurd ⟨_, _, rfl⟩ hs
            | _ => simp [m_law_is_condition, b_law_is_condition, -Option.bind_some, -Option.map_some, Ru.c_e, Ru.v_e, Ru.v_d, Ru.rv_e, Ru.rv_d, Ru.rv_l, Ru.nil_e, Ru.cons_e, Ru.cons_d, Ru.cons_l, Ru.cons_2, Ru.tup_e, Ru.tup_d, Ru.lst_e, Ru.lst_d, Ru.rd_e, Ru.rd_d, Ru.rd_l, Ru.op_e, Ru.op_1, Ru.op_2, Ru.op_3, Ru.un_e, Ru.un_1, Ru.isi_e, Ru.ite_e, Ru.ite_t, Ru.ite_f, Ru.ofB_e, Ru.ofB_1, Ru.toB_e, Ru.toB_1, Ru.and_e, Ru.and_t, Ru.and_f, Ru.or_e, Ru.or_t, Ru.or_f, Ru.not_e, Ru.not_1, Ru.px_e, Ru.px_1, Ru.px_2, Ru.oN_e, Ru.oS_e, Ru.oS_1, Ru.sl_e, Ru.sl_1, Ru.sl_2, Ru.sl_3, Ru.sl3_e, Ru.tl_1, Ru.tl_2, Ru.tl_3, Ru.tl_4, Ru.call_e, Ru.call_1, Ru.call_2, Ru.callP_e, Ru.callP_1, Ru.callP_2, Ru.chain_e, Ru.ch_1, Ru.ch_2, Ru.ch_t, Ru.ch_f, Ru.iL_e, Ru.iL_d, Ru.iL_l, Ru.iT_e, Ru.iT_d, Ru.iR1_e, Ru.iR1_1, Ru.lR_e, Ru.lR_1, Ru.tN_e, Ru.tT_2, Ru.yes_e, Ru.lc_e, Ru.lc_1, Ru.lc_2, Ru.seq_e, Ru.seq_nx, Ru.seq_rt, Ru.nop_e, Ru.set_e, Ru.set_d, Ru.set_l, Ru.setL_e, Ru.setL_l, Ru.ret_e, Ru.ret_1, Ru.retV_e, Ru.retV_l, Ru.retV_d, Ru.frz_e, Ru.frz_l, Ru.sIte_e, Ru.sIte_t, Ru.sIte_f, Ru.for_e, Ru.for_1, Ru.for_nil, Ru.for_cons, Ru.fK_1, Ru.fK_nx, Ru.fK_rt, Ru.append_e, Ru.append_1, Ru.append_d, Ru.append_l, Ru.extend_e, Ru.extend_1, Ru.extend_l, Ru.pop_e, Ru.pop_1, Ru.setIx_e, Ru.setIx_d, Ru.setP_e, Ru.setP_d, Ru.setP_1, Ru.par_e, Ru.par_1, Ru.stup_e, Ru.stup_d, Ru.wK_t, Ru.wK_f, Ru.wK_nx, Ru.wK_rt, Ru.runB_f, Ru.runB_t, Ru.rb_f, Ru.rb_t, Ru.rb_n, Ru.lt_i, Ru.le_i, Ru.gt_i, Ru.ge_i, Ru.sub_i, Ru.add_i, Ru.add_s, Ru.add_t, Ru.add_l, Ru.mul_i, Ru.div_i, Ru.mod_i, Ru.neg_i, Ru.is_n, Ru.isNot_n, Ru.non_n, Ru.non_i, Ru.non_b, Ru.non_s, Ru.non_l, Ru.non_t, Ru.len_l, Ru.len_t, Ru.len_s, Ru.list_l, Ru.list_t, Ru.tuple_l, Ru.tuple_t, Ru.int_i, Ru.gsl_l, Ru.gsl_t, Ru.gsl_s, Ru.eq_s, Ru.eq_i, Ru.eq_b, Ru.ne_b, Ru.ne_s, Ru.ne_i, Ru.in_2, Ru.atI_0, Ru.atI_1, Ru.atI_2, Ru.ix_t, Ru.ix_l, Ru.cut_1, E.wipeS, Ru.bind_some, Option.bind_none, Ru.map_some, Option.map_none, List.getElem?_cons_zero, List.getElem?_cons_succ, List.set_cons_zero, List.set_cons_succ, List.length_cons, List.length_nil, List.map_cons, List.map_nil, List.replicate, List.cons_append, List.nil_append, h1, hT, isTu, vC, hD, hS, isS, l0]
        | _ => simp [m_law_is_condition, b_law_is_condition, -Option.bind_some, -Option.map_some, Ru.c_e, Ru.v_e, Ru.v_d, Ru.rv_e, Ru.rv_d, Ru.rv_l, Ru.nil_e, Ru.cons_e, Ru.cons_d, Ru.cons_l, Ru.cons_2, Ru.tup_e, Ru.tup_d, Ru.lst_e, Ru.lst_d, Ru.rd_e, Ru.rd_d, Ru.rd_l, Ru.op_e, Ru.op_1, Ru.op_2, Ru.op_3, Ru.un_e, Ru.un_1, Ru.isi_e, Ru.ite_e, Ru.ite_t, Ru.ite_f, Ru.ofB_e, Ru.ofB_1, Ru.toB_e, Ru.toB_1, Ru.and_e, Ru.and_t, Ru.and_f, Ru.or_e, Ru.or_t, Ru.or_f, Ru.not_e, Ru.not_1, Ru.px_e, Ru.px_1, Ru.px_2, Ru.oN_e, Ru.oS_e, Ru.oS_1, Ru.sl_e, Ru.sl_1, Ru.sl_2, Ru.sl_3, Ru.sl3_e, Ru.tl_1, Ru.tl_2, Ru.tl_3, Ru.tl_4, Ru.call_e, Ru.call_1, Ru.call_2, Ru.callP_e, Ru.callP_1, Ru.callP_2, Ru.chain_e, Ru.ch_1, Ru.ch_2, Ru.ch_t, Ru.ch_f, Ru.iL_e, Ru.iL_d, Ru.iL_l, Ru.iT_e, Ru.iT_d, Ru.iR1_e, Ru.iR1_1, Ru.lR_e, Ru.lR_1, Ru.tN_e, Ru.tT_2, Ru.yes_e, Ru.lc_e, Ru.lc_1, Ru.lc_2, Ru.seq_e, Ru.seq_nx, Ru.seq_rt, Ru.nop_e, Ru.set_e, Ru.set_d, Ru.set_l, Ru.setL_e, Ru.setL_l, Ru.ret_e, Ru.ret_1, Ru.retV_e, Ru.retV_l, Ru.retV_d, Ru.frz_e, Ru.frz_l, Ru.sIte_e, Ru.sIte_t, Ru.sIte_f, Ru.for_e, Ru.for_1, Ru.for_nil, Ru.for_cons, Ru.fK_1, Ru.fK_nx, Ru.fK_rt, Ru.append_e, Ru.append_1, Ru.append_d, Ru.append_l, Ru.extend_e, Ru.extend_1, Ru.extend_l, Ru.pop_e, Ru.pop_1, Ru.setIx_e, Ru.setIx_d, Ru.setP_e, Ru.setP_d, Ru.setP_1, Ru.par_e, Ru.par_1, Ru.stup_e, Ru.stup_d, Ru.wK_t, Ru.wK_f, Ru.wK_nx, Ru.wK_rt, Ru.runB_f, Ru.runB_t, Ru.rb_f, Ru.rb_t, Ru.rb_n, Ru.lt_i, Ru.le_i, Ru.gt_i, Ru.ge_i, Ru.sub_i, Ru.add_i, Ru.add_s, Ru.add_t, Ru.add_l, Ru.mul_i, Ru.div_i, Ru.mod_i, Ru.neg_i, Ru.is_n, Ru.isNot_n, Ru.non_n, Ru.non_i, Ru.non_b, Ru.non_s, Ru.non_l, Ru.non_t, Ru.len_l, Ru.len_t, Ru.len_s, Ru.list_l, Ru.list_t, Ru.tuple_l, Ru.tuple_t, Ru.int_i, Ru.gsl_l, Ru.gsl_t, Ru.gsl_s, Ru.eq_s, Ru.eq_i, Ru.eq_b, Ru.ne_b, Ru.ne_s, Ru.ne_i, Ru.in_2, Ru.atI_0, Ru.atI_1, Ru.atI_2, Ru.ix_t, Ru.ix_l, Ru.cut_1, E.wipeS, Ru.bind_some, Option.bind_none, Ru.map_some, Option.map_none, List.getElem?_cons_zero, List.getElem?_cons_succ, List.set_cons_zero, List.set_cons_succ, List.length_cons, List.length_nil, List.map_cons, List.map_nil, List.replicate, List.cons_append, List.nil_append, h1, hT, isTu, vC, hD]
    · have h1 : 40 < (k : Int) := by omega
      have e41 : 41 - k = 0 := by omega
      simp [m_law_is_condition, b_law_is_condition, -Option.bind_some, -Option.map_some, Ru.c_e, Ru.v_e, Ru.v_d, Ru.rv_e, Ru.rv_d, Ru.rv_l, Ru.nil_e, Ru.cons_e, Ru.cons_d, Ru.cons_l, Ru.cons_2, Ru.tup_e, Ru.tup_d, Ru.lst_e, Ru.lst_d, Ru.rd_e, Ru.rd_d, Ru.rd_l, Ru.op_e, Ru.op_1, Ru.op_2, Ru.op_3, Ru.un_e, Ru.un_1, Ru.isi_e, Ru.ite_e, Ru.ite_t, Ru.ite_f, Ru.ofB_e, Ru.ofB_1, Ru.toB_e, Ru.toB_1, Ru.and_e, Ru.and_t, Ru.and_f, Ru.or_e, Ru.or_t, Ru.or_f, Ru.not_e, Ru.not_1, Ru.px_e, Ru.px_1, Ru.px_2, Ru.oN_e, Ru.oS_e, Ru.oS_1, Ru.sl_e, Ru.sl_1, Ru.sl_2, Ru.sl_3, Ru.sl3_e, Ru.tl_1, Ru.tl_2, Ru.tl_3, Ru.tl_4, Ru.call_e, Ru.call_1, Ru.call_2, Ru.callP_e, Ru.callP_1, Ru.callP_2, Ru.chain_e, Ru.ch_1, Ru.ch_2, Ru.ch_t, Ru.ch_f, Ru.iL_e, Ru.iL_d, Ru.iL_l, Ru.iT_e, Ru.iT_d, Ru.iR1_e, Ru.iR1_1, Ru.lR_e, Ru.lR_1, Ru.tN_e, Ru.tT_2, Ru.yes_e, Ru.lc_e, Ru.lc_1, Ru.lc_2, Ru.seq_e, Ru.seq_nx, Ru.seq_rt, Ru.nop_e, Ru.set_e, Ru.set_d, Ru.set_l, Ru.setL_e, Ru.setL_l, Ru.ret_e, Ru.ret_1, Ru.retV_e, Ru.retV_l, Ru.retV_d, Ru.frz_e, Ru.frz_l, Ru.sIte_e, Ru.sIte_t, Ru.sIte_f, Ru.for_e, Ru.for_1, Ru.for_nil, Ru.for_cons, Ru.fK_1, Ru.fK_nx, Ru.fK_rt, Ru.append_e, Ru.append_1, Ru.append_d, Ru.append_l, Ru.extend_e, Ru.extend_1, Ru.extend_l, Ru.pop_e, Ru.pop_1, Ru.setIx_e, Ru.setIx_d, Ru.setP_e, Ru.setP_d, Ru.setP_1, Ru.par_e, Ru.par_1, Ru.stup_e, Ru.stup_d, Ru.wK_t, Ru.wK_f, Ru.wK_nx, Ru.wK_rt, Ru.runB_f, Ru.runB_t, Ru.rb_f, Ru.rb_t, Ru.rb_n, Ru.lt_i, Ru.le_i, Ru.gt_i, Ru.ge_i, Ru.sub_i, Ru.add_i, Ru.add_s, Ru.add_t, Ru.add_l, Ru.mul_i, Ru.div_i, Ru.mod_i, Ru.neg_i, Ru.is_n, Ru.isNot_n, Ru.non_n, Ru.non_i, Ru.non_b, Ru.non_s, Ru.non_l, Ru.non_t, Ru.len_l, Ru.len_t, Ru.len_s, Ru.list_l, Ru.list_t, Ru.tuple_l, Ru.tuple_t, Ru.int_i, Ru.gsl_l, Ru.gsl_t, Ru.gsl_s, Ru.eq_s, Ru.eq_i, Ru.eq_b, Ru.ne_b, Ru.ne_s, Ru.ne_i, Ru.in_2, Ru.atI_0, Ru.atI_1, Ru.atI_2, Ru.ix_t, Ru.ix_l, Ru.cut_1, E.wipeS, Ru.bind_some, Option.bind_none, Ru.map_some, Option.map_none, List.getElem?_cons_zero, List.getElem?_cons_succ, List.set_cons_zero, List.set_cons_succ, List.length_cons, List.length_nil, List.map_cons, List.map_nil, List.replicate, List.cons_append, List.nil_append, h1, e41, vC]
end K1

/-! deedsagain k01: truth of conditions. -/
namespace K1
open PySem PySem.Spec L2 Dg
open Dg.Ru (isI isB isS isTu isLi isT_int isT_bool isT_str isT_list isT_tuple)
set_option maxHeartbeats 0
inductive C where
  | no | yes | test (i : Nat) | neg (c : C) | and (a b : C) | or (a b : C)
def C.enc : C → D
  | .no => .tuple [.str "no"]
  | .yes => .tuple [.str "yes"]
  | .test i => .tuple [.str "test", .int i]
  | .neg c => .tuple [.str "not", c.enc]
  | .and a b => .tuple [.str "and", a.enc, b.enc]
  | .or a b => .tuple [.str "or", a.enc, b.enc]
def C.ok (d : Nat) : C → Bool
  | .no | .yes => true
  | .test i => decide (i < d)
  | .neg c => c.ok d
  | .and a b | .or a b => a.ok d && b.ok d
def C.dep : C → Nat
  | .no | .yes | .test _ => 1
  | .neg c => c.dep + 1
  | .and a b | .or a b => max a.dep b.dep + 1
def bit (i a : Nat) : Bool := a / [1, 2, 4].getD i 8 % 2 == 1
def C.ev (a : Nat) : C → Bool
  | .no => false
  | .yes => true
  | .test i => bit i a
  | .neg c => !c.ev a
  | .and x y => x.ev a && y.ev a
  | .or x y => x.ev a || y.ev a
theorem enc_plain : ∀ c : C, c.enc.plain = true
  | .no => rfl
  | .yes => rfl
  | .test _ => rfl
  | .neg c => by simp [C.enc, PyData.plain, PyData.plainAll, enc_plain c]
  | .and a b => by simp [C.enc, PyData.plain, PyData.plainAll, enc_plain a, enc_plain b]
  | .or a b => by simp [C.enc, PyData.plain, PyData.plainAll, enc_plain a, enc_plain b]
theorem vC_enc {d : Nat} : ∀ (c : C) (n : Nat), c.ok d = true → c.dep ≤ n → vC d n c.enc = true
  | .no, n + 1, _, _ => by simp [vC, C.enc, innerD, innerN, ns_00, ns_01, ns_02, ns_03, ns_04, ns_05, ns_06, ns_10, ns_11, ns_12, ns_13, ns_14, ns_15, ns_16, ns_20, ns_21, ns_22, ns_23, ns_24, ns_25, ns_26, ns_30, ns_31, ns_32, ns_33, ns_34, ns_35, ns_36, ns_40, ns_41, ns_42, ns_43, ns_44, ns_45, ns_46, ns_50, ns_51, ns_52, ns_53, ns_54, ns_55, ns_56, ns_60, ns_61, ns_62, ns_63, ns_64, ns_65, ns_66]
  | .yes, n + 1, _, _ => by simp [vC, C.enc, innerD, innerN, ns_00, ns_01, ns_02, ns_03, ns_04, ns_05, ns_06, ns_10, ns_11, ns_12, ns_13, ns_14, ns_15, ns_16, ns_20, ns_21, ns_22, ns_23, ns_24, ns_25, ns_26, ns_30, ns_31, ns_32, ns_33, ns_34, ns_35, ns_36, ns_40, ns_41, ns_42, ns_43, ns_44, ns_45, ns_46, ns_50, ns_51, ns_52, ns_53, ns_54, ns_55, ns_56, ns_60, ns_61, ns_62, ns_63, ns_64, ns_65, ns_66]
  | .test i, n + 1, h, _ => by
    have h' : (i : Int) < d := by simp [C.ok] at h; omega
    have h0 : (0 : Int) ≤ i := by omega
    simp [vC, C.enc, innerD, innerN, ns_00, ns_01, ns_02, ns_03, ns_04, ns_05, ns_06, ns_10, ns_11, ns_12, ns_13, ns_14, ns_15, ns_16, ns_20, ns_21, ns_22, ns_23, ns_24, ns_25, ns_26, ns_30, ns_31, ns_32, ns_33, ns_34, ns_35, ns_36, ns_40, ns_41, ns_42, ns_43, ns_44, ns_45, ns_46, ns_50, ns_51, ns_52, ns_53, ns_54, ns_55, ns_56, ns_60, ns_61, ns_62, ns_63, ns_64, ns_65, ns_66, h', h0]
  | .neg c, n + 1, h, hn => by
    have ih := vC_enc c n h (by simp [C.dep] at hn; omega)
    simp [vC, C.enc, innerD, innerN, ns_00, ns_01, ns_02, ns_03, ns_04, ns_05, ns_06, ns_10, ns_11, ns_12, ns_13, ns_14, ns_15, ns_16, ns_20, ns_21, ns_22, ns_23, ns_24, ns_25, ns_26, ns_30, ns_31, ns_32, ns_33, ns_34, ns_35, ns_36, ns_40, ns_41, ns_42, ns_43, ns_44, ns_45, ns_46, ns_50, ns_51, ns_52, ns_53, ns_54, ns_55, ns_56, ns_60, ns_61, ns_62, ns_63, ns_64, ns_65, ns_66, ih]
  | .and a b, n + 1, h, hn => by
    simp [C.ok] at h
    simp [C.dep] at hn
    have i1 := vC_enc a n h.1 (by omega)
    have i2 := vC_enc b n h.2 (by omega)
    simp [vC, C.enc, innerD, innerN, ns_00, ns_01, ns_02, ns_03, ns_04, ns_05, ns_06, ns_10, ns_11, ns_12, ns_13, ns_14, ns_15, ns_16, ns_20, ns_21, ns_22, ns_23, ns_24, ns_25, ns_26, ns_30, ns_31, ns_32, ns_33, ns_34, ns_35, ns_36, ns_40, ns_41, ns_42, ns_43, ns_44, ns_45, ns_46, ns_50, ns_51, ns_52, ns_53, ns_54, ns_55, ns_56, ns_60, ns_61, ns_62, ns_63, ns_64, ns_65, ns_66, i1, i2]
  | .or a b, n + 1, h, hn => by
    simp [C.ok] at h
    simp [C.dep] at hn
    have i1 := vC_enc a n h.1 (by omega)
    have i2 := vC_enc b n h.2 (by omega)
    simp [vC, C.enc, innerD, innerN, ns_00, ns_01, ns_02, ns_03, ns_04, ns_05, ns_06, ns_10, ns_11, ns_12, ns_13, ns_14, ns_15, ns_16, ns_20, ns_21, ns_22, ns_23, ns_24, ns_25, ns_26, ns_30, ns_31, ns_32, ns_33, ns_34, ns_35, ns_36, ns_40, ns_41, ns_42, ns_43, ns_44, ns_45, ns_46, ns_50, ns_51, ns_52, ns_53, ns_54, ns_55, ns_56, ns_60, ns_61, ns_62, ns_63, ns_64, ns_65, ns_66, i1, i2]
  | .no, 0, _, h => by simp [C.dep] at h
  | .yes, 0, _, h => by simp [C.dep] at h
  | .test i, 0, _, h => by simp [C.dep] at h
  | .neg c, 0, _, h => by simp [C.dep] at h
  | .and _ _, 0, _, h => by simp [C.dep] at h
  | .or _ _, 0, _, h => by simp [C.dep] at h
/-! ### holds -/
def m_holds : Nat → MF
  | 0 => fun _ _ => none
  | n + 1 => runB 3 false 2 (b_holds (m_holds n))
def m_law_holds : Nat → MF
  | 0 => fun _ _ => none
  | n + 1 => runB 3 false 2 (b_law_holds (m_law_holds n))
theorem bit_int {i a : Nat} (hi : i < 3) : ∃ k : Int, atI [PyData.int 1, PyData.int 2, PyData.int 4] (i : Int) = some (.int k) ∧ 0 < k ∧ k < 1073741824 ∧ ((a : Int) / k % 2 == 1) = bit i a := by
  have key : ∀ k : Nat, 0 < k → ((a : Int) / (k : Int) % 2 == 1) = (a / k % 2 == 1) := fun k hk => by
    have e : (a : Int) / (k : Int) % 2 = ((a / k % 2 : Nat) : Int) := by
      rw [Int.natCast_emod, Int.natCast_ediv]
      rfl
    rw [e, Bool.eq_iff_iff, beq_iff_eq, beq_iff_eq]
    generalize a / k % 2 = m
    omega
  match i, hi with
  | 0, _ => exact ⟨1, rfl, by decide, by decide, by simpa [bit] using key 1 (by decide)⟩
  | 1, _ => exact ⟨2, rfl, by decide, by decide, by simpa [bit] using key 2 (by decide)⟩
  | 2, _ => exact ⟨4, rfl, by decide, by decide, by simpa [bit] using key 4 (by decide)⟩
theorem e_holds {a : Nat} : ∀ (n : Nat) (c : C), c.ok 3 = true → c.dep ≤ n → m_holds n [c.enc, .int a] none = some (.d (.bool (c.ev a)), none) := by
  intro n
  induction n with
  | zero => intro c _ h; cases c <;> simp [C.dep] at h
  | succ n ih =>
    intro c ho hd
    cases c with
    | no => simp [m_holds, b_holds, -Option.bind_some, -Option.map_some, Ru.c_e, Ru.v_e, Ru.v_d, Ru.rv_e, Ru.rv_d, Ru.rv_l, Ru.nil_e, Ru.cons_e, Ru.cons_d, Ru.cons_l, Ru.cons_2, Ru.tup_e, Ru.tup_d, Ru.lst_e, Ru.lst_d, Ru.rd_e, Ru.rd_d, Ru.rd_l, Ru.op_e, Ru.op_1, Ru.op_2, Ru.op_3, Ru.un_e, Ru.un_1, Ru.isi_e, Ru.ite_e, Ru.ite_t, Ru.ite_f, Ru.ofB_e, Ru.ofB_1, Ru.toB_e, Ru.toB_1, Ru.and_e, Ru.and_t, Ru.and_f, Ru.or_e, Ru.or_t, Ru.or_f, Ru.not_e, Ru.not_1, Ru.px_e, Ru.px_1, Ru.px_2, Ru.oN_e, Ru.oS_e, Ru.oS_1, Ru.sl_e, Ru.sl_1, Ru.sl_2, Ru.sl_3, Ru.sl3_e, Ru.tl_1, Ru.tl_2, Ru.tl_3, Ru.tl_4, Ru.call_e, Ru.call_1, Ru.call_2, Ru.callP_e, Ru.callP_1, Ru.callP_2, Ru.chain_e, Ru.ch_1, Ru.ch_2, Ru.ch_t, Ru.ch_f, Ru.iL_e, Ru.iL_d, Ru.iL_l, Ru.iT_e, Ru.iT_d, Ru.iR1_e, Ru.iR1_1, Ru.lR_e, Ru.lR_1, Ru.tN_e, Ru.tT_2, Ru.yes_e, Ru.lc_e, Ru.lc_1, Ru.lc_2, Ru.seq_e, Ru.seq_nx, Ru.seq_rt, Ru.nop_e, Ru.set_e, Ru.set_d, Ru.set_l, Ru.setL_e, Ru.setL_l, Ru.ret_e, Ru.ret_1, Ru.retV_e, Ru.retV_l, Ru.retV_d, Ru.frz_e, Ru.frz_l, Ru.sIte_e, Ru.sIte_t, Ru.sIte_f, Ru.for_e, Ru.for_1, Ru.for_nil, Ru.for_cons, Ru.fK_1, Ru.fK_nx, Ru.fK_rt, Ru.append_e, Ru.append_1, Ru.append_d, Ru.append_l, Ru.extend_e, Ru.extend_1, Ru.extend_l, Ru.pop_e, Ru.pop_1, Ru.setIx_e, Ru.setIx_d, Ru.setP_e, Ru.setP_d, Ru.setP_1, Ru.par_e, Ru.par_1, Ru.stup_e, Ru.stup_d, Ru.wK_t, Ru.wK_f, Ru.wK_nx, Ru.wK_rt, Ru.runB_f, Ru.runB_t, Ru.rb_f, Ru.rb_t, Ru.rb_n, Ru.lt_i, Ru.le_i, Ru.gt_i, Ru.ge_i, Ru.sub_i, Ru.add_i, Ru.add_s, Ru.add_t, Ru.add_l, Ru.mul_i, Ru.div_i, Ru.mod_i, Ru.neg_i, Ru.is_n, Ru.isNot_n, Ru.non_n, Ru.non_i, Ru.non_b, Ru.non_s, Ru.non_l, Ru.non_t, Ru.len_l, Ru.len_t, Ru.len_s, Ru.list_l, Ru.list_t, Ru.tuple_l, Ru.tuple_t, Ru.int_i, Ru.gsl_l, Ru.gsl_t, Ru.gsl_s, Ru.eq_s, Ru.eq_i, Ru.eq_b, Ru.ne_b, Ru.ne_s, Ru.ne_i, Ru.in_2, Ru.atI_0, Ru.atI_1, Ru.atI_2, Ru.ix_t, Ru.ix_l, Ru.cut_1, E.wipeS, Ru.bind_some, Option.bind_none, Ru.map_some, Option.map_none, List.getElem?_cons_zero, List.getElem?_cons_succ, List.set_cons_zero, List.set_cons_succ, List.length_cons, List.length_nil, List.map_cons, List.map_nil, List.replicate, List.cons_append, List.nil_append, C.enc, C.ev, ns_00, ns_01, ns_02, ns_03, ns_04, ns_05, ns_06, ns_10, ns_11, ns_12, ns_13, ns_14, ns_15, ns_16, ns_20, ns_21, ns_22, ns_23, ns_24, ns_25, ns_26, ns_30, ns_31, ns_32, ns_33, ns_34, ns_35, ns_36, ns_40, ns_41, ns_42, ns_43, ns_44, ns_45, ns_46, ns_50, ns_51, ns_52, ns_53, ns_54, ns_55, ns_56, ns_60, ns_61, ns_62, ns_63, ns_64, ns_65, ns_66]
    | yes => simp [m_holds, b_holds, -Option.bind_some, -Option.map_some, Ru.c_e, Ru.v_e, Ru.v_d, Ru.rv_e, Ru.rv_d, Ru.rv_l, Ru.nil_e, Ru.cons_e, Ru.cons_d, Ru.cons_l, Ru.cons_2, Ru.tup_e, Ru.tup_d, Ru.lst_e, Ru.lst_d, Ru.rd_e, Ru.rd_d, Ru.rd_l, Ru.op_e, Ru.op_1, Ru.op_2, Ru.op_3, Ru.un_e, Ru.un_1, Ru.isi_e, Ru.ite_e, Ru.ite_t, Ru.ite_f, Ru.ofB_e, Ru.ofB_1, Ru.toB_e, Ru.toB_1, Ru.and_e, Ru.and_t, Ru.and_f, Ru.or_e, Ru.or_t, Ru.or_f, Ru.not_e, Ru.not_1, Ru.px_e, Ru.px_1, Ru.px_2, Ru.oN_e, Ru.oS_e, Ru.oS_1, Ru.sl_e, Ru.sl_1, Ru.sl_2, Ru.sl_3, Ru.sl3_e, Ru.tl_1, Ru.tl_2, Ru.tl_3, Ru.tl_4, Ru.call_e, Ru.call_1, Ru.call_2, Ru.callP_e, Ru.callP_1, Ru.callP_2, Ru.chain_e, Ru.ch_1, Ru.ch_2, Ru.ch_t, Ru.ch_f, Ru.iL_e, Ru.iL_d, Ru.iL_l, Ru.iT_e, Ru.iT_d, Ru.iR1_e, Ru.iR1_1, Ru.lR_e, Ru.lR_1, Ru.tN_e, Ru.tT_2, Ru.yes_e, Ru.lc_e, Ru.lc_1, Ru.lc_2, Ru.seq_e, Ru.seq_nx, Ru.seq_rt, Ru.nop_e, Ru.set_e, Ru.set_d, Ru.set_l, Ru.setL_e, Ru.setL_l, Ru.ret_e, Ru.ret_1, Ru.retV_e, Ru.retV_l, Ru.retV_d, Ru.frz_e, Ru.frz_l, Ru.sIte_e, Ru.sIte_t, Ru.sIte_f, Ru.for_e, Ru.for_1, Ru.for_nil, Ru.for_cons, Ru.fK_1, Ru.fK_nx, Ru.fK_rt, Ru.append_e, Ru.append_1, Ru.append_d, Ru.append_l, Ru.extend_e, Ru.extend_1, Ru.extend_l, Ru.pop_e, Ru.pop_1, Ru.setIx_e, Ru.setIx_d, Ru.setP_e, Ru.setP_d, Ru.setP_1, Ru.par_e, Ru.par_1, Ru.stup_e, Ru.stup_d, Ru.wK_t, Ru.wK_f, Ru.wK_nx, Ru.wK_rt, Ru.runB_f, Ru.runB_t, Ru.rb_f, Ru.rb_t, Ru.rb_n, Ru.lt_i, Ru.le_i, Ru.gt_i, Ru.ge_i, Ru.sub_i, Ru.add_i, Ru.add_s, Ru.add_t, Ru.add_l, Ru.mul_i, Ru.div_i, Ru.mod_i, Ru.neg_i, Ru.is_n, Ru.isNot_n, Ru.non_n, Ru.non_i, Ru.non_b, Ru.non_s, Ru.non_l, Ru.non_t, Ru.len_l, Ru.len_t, Ru.len_s, Ru.list_l, Ru.list_t, Ru.tuple_l, Ru.tuple_t, Ru.int_i, Ru.gsl_l, Ru.gsl_t, Ru.gsl_s, Ru.eq_s, Ru.eq_i, Ru.eq_b, Ru.ne_b, Ru.ne_s, Ru.ne_i, Ru.in_2, Ru.atI_0, Ru.atI_1, Ru.atI_2, Ru.ix_t, Ru.ix_l, Ru.cut_1, E.wipeS, Ru.bind_some, Option.bind_none, Ru.map_some, Option.map_none, List.getElem?_cons_zero, List.getElem?_cons_succ, List.set_cons_zero, List.set_cons_succ, List.length_cons, List.length_nil, List.map_cons, List.map_nil, List.replicate, List.cons_append, List.nil_append, C.enc, C.ev, ns_00, ns_01, ns_02, ns_03, ns_04, ns_05, ns_06, ns_10, ns_11, ns_12, ns_13, ns_14, ns_15, ns_16, ns_20, ns_21, ns_22, ns_23, ns_24, ns_25, ns_26, ns_30, ns_31, ns_32, ns_33, ns_34, ns_35, ns_36, ns_40, ns_41, ns_42, ns_43, ns_44, ns_45, ns_46, ns_50, ns_51, ns_52, ns_53, ns_54, ns_55, ns_56, ns_60, ns_61, ns_62, ns_63, ns_64, ns_65, ns_66]
    | test i =>
      simp [C.ok] at ho
      obtain ⟨k, h1, h2, h3, h4⟩ := bit_int (a := a) ho
      simp [m_holds, b_holds, -Option.bind_some, -Option.map_some, Ru.c_e, Ru.v_e, Ru.v_d, Ru.rv_e, Ru.rv_d, Ru.rv_l, Ru.nil_e, Ru.cons_e, Ru.cons_d, Ru.cons_l, Ru.cons_2, Ru.tup_e, Ru.tup_d, Ru.lst_e, Ru.lst_d, Ru.rd_e, Ru.rd_d, Ru.rd_l, Ru.op_e, Ru.op_1, Ru.op_2, Ru.op_3, Ru.un_e, Ru.un_1, Ru.isi_e, Ru.ite_e, Ru.ite_t, Ru.ite_f, Ru.ofB_e, Ru.ofB_1, Ru.toB_e, Ru.toB_1, Ru.and_e, Ru.and_t, Ru.and_f, Ru.or_e, Ru.or_t, Ru.or_f, Ru.not_e, Ru.not_1, Ru.px_e, Ru.px_1, Ru.px_2, Ru.oN_e, Ru.oS_e, Ru.oS_1, Ru.sl_e, Ru.sl_1, Ru.sl_2, Ru.sl_3, Ru.sl3_e, Ru.tl_1, Ru.tl_2, Ru.tl_3, Ru.tl_4, Ru.call_e, Ru.call_1, Ru.call_2, Ru.callP_e, Ru.callP_1, Ru.callP_2, Ru.chain_e, Ru.ch_1, Ru.ch_2, Ru.ch_t, Ru.ch_f, Ru.iL_e, Ru.iL_d, Ru.iL_l, Ru.iT_e, Ru.iT_d, Ru.iR1_e, Ru.iR1_1, Ru.lR_e, Ru.lR_1, Ru.tN_e, Ru.tT_2, Ru.yes_e, Ru.lc_e, Ru.lc_1, Ru.lc_2, Ru.seq_e, Ru.seq_nx, Ru.seq_rt, Ru.nop_e, Ru.set_e, Ru.set_d, Ru.set_l, Ru.setL_e, Ru.setL_l, Ru.ret_e, Ru.ret_1, Ru.retV_e, Ru.retV_l, Ru.retV_d, Ru.frz_e, Ru.frz_l, Ru.sIte_e, Ru.sIte_t, Ru.sIte_f, Ru.for_e, Ru.for_1, Ru.for_nil, Ru.for_cons, Ru.fK_1, Ru.fK_nx, Ru.fK_rt, Ru.append_e, Ru.append_1, Ru.append_d, Ru.append_l, Ru.extend_e, Ru.extend_1, Ru.extend_l, Ru.pop_e, Ru.pop_1, Ru.setIx_e, Ru.setIx_d, Ru.setP_e, Ru.setP_d, Ru.setP_1, Ru.par_e, Ru.par_1, Ru.stup_e, Ru.stup_d, Ru.wK_t, Ru.wK_f, Ru.wK_nx, Ru.wK_rt, Ru.runB_f, Ru.runB_t, Ru.rb_f, Ru.rb_t, Ru.rb_n, Ru.lt_i, Ru.le_i, Ru.gt_i, Ru.ge_i, Ru.sub_i, Ru.add_i, Ru.add_s, Ru.add_t, Ru.add_l, Ru.mul_i, Ru.div_i, Ru.mod_i, Ru.neg_i, Ru.is_n, Ru.isNot_n, Ru.non_n, Ru.non_i, Ru.non_b, Ru.non_s, Ru.non_l, Ru.non_t, Ru.len_l, Ru.len_t, Ru.len_s, Ru.list_l, Ru.list_t, Ru.tuple_l, Ru.tuple_t, Ru.int_i, Ru.gsl_l, Ru.gsl_t, Ru.gsl_s, Ru.eq_s, Ru.eq_i, Ru.eq_b, Ru.ne_b, Ru.ne_s, Ru.ne_i, Ru.in_2, Ru.atI_0, Ru.atI_1, Ru.atI_2, Ru.ix_t, Ru.ix_l, Ru.cut_1, E.wipeS, Ru.bind_some, Option.bind_none, Ru.map_some, Option.map_none, List.getElem?_cons_zero, List.getElem?_cons_succ, List.set_cons_zero, List.set_cons_succ, List.length_cons, List.length_nil, List.map_cons, List.map_nil, List.replicate, List.cons_append, List.nil_append, C.enc, C.ev, ns_00, ns_01, ns_02, ns_03, ns_04, ns_05, ns_06, ns_10, ns_11, ns_12, ns_13, ns_14, ns_15, ns_16, ns_20, ns_21, ns_22, ns_23, ns_24, ns_25, ns_26, ns_30, ns_31, ns_32, ns_33, ns_34, ns_35, ns_36, ns_40, ns_41, ns_42, ns_43, ns_44, ns_45, ns_46, ns_50, ns_51, ns_52, ns_53, ns_54, ns_55, ns_56, ns_60, ns_61, ns_62, ns_63, ns_64, ns_65, ns_66, h1, h2, h3, h4]
    | neg c =>
      have z := ih c ho (by simp [C.dep] at hd; omega)
      simp [m_holds, b_holds, -Option.bind_some, -Option.map_some, Ru.c_e, Ru.v_e, Ru.v_d, Ru.rv_e, Ru.rv_d, Ru.rv_l, Ru.nil_e, Ru.cons_e, Ru.cons_d, Ru.cons_l, Ru.cons_2, Ru.tup_e, Ru.tup_d, Ru.lst_e, Ru.lst_d, Ru.rd_e, Ru.rd_d, Ru.rd_l, Ru.op_e, Ru.op_1, Ru.op_2, Ru.op_3, Ru.un_e, Ru.un_1, Ru.isi_e, Ru.ite_e, Ru.ite_t, Ru.ite_f, Ru.ofB_e, Ru.ofB_1, Ru.toB_e, Ru.toB_1, Ru.and_e, Ru.and_t, Ru.and_f, Ru.or_e, Ru.or_t, Ru.or_f, Ru.not_e, Ru.not_1, Ru.px_e, Ru.px_1, Ru.px_2, Ru.oN_e, Ru.oS_e, Ru.oS_1, Ru.sl_e, Ru.sl_1, Ru.sl_2, Ru.sl_3, Ru.sl3_e, Ru.tl_1, Ru.tl_2, Ru.tl_3, Ru.tl_4, Ru.call_e, Ru.call_1, Ru.call_2, Ru.callP_e, Ru.callP_1, Ru.callP_2, Ru.chain_e, Ru.ch_1, Ru.ch_2, Ru.ch_t, Ru.ch_f, Ru.iL_e, Ru.iL_d, Ru.iL_l, Ru.iT_e, Ru.iT_d, Ru.iR1_e, Ru.iR1_1, Ru.lR_e, Ru.lR_1, Ru.tN_e, Ru.tT_2, Ru.yes_e, Ru.lc_e, Ru.lc_1, Ru.lc_2, Ru.seq_e, Ru.seq_nx, Ru.seq_rt, Ru.nop_e, Ru.set_e, Ru.set_d, Ru.set_l, Ru.setL_e, Ru.setL_l, Ru.ret_e, Ru.ret_1, Ru.retV_e, Ru.retV_l, Ru.retV_d, Ru.frz_e, Ru.frz_l, Ru.sIte_e, Ru.sIte_t, Ru.sIte_f, Ru.for_e, Ru.for_1, Ru.for_nil, Ru.for_cons, Ru.fK_1, Ru.fK_nx, Ru.fK_rt, Ru.append_e, Ru.append_1, Ru.append_d, Ru.append_l, Ru.extend_e, Ru.extend_1, Ru.extend_l, Ru.pop_e, Ru.pop_1, Ru.setIx_e, Ru.setIx_d, Ru.setP_e, Ru.setP_d, Ru.setP_1, Ru.par_e, Ru.par_1, Ru.stup_e, Ru.stup_d, Ru.wK_t, Ru.wK_f, Ru.wK_nx, Ru.wK_rt, Ru.runB_f, Ru.runB_t, Ru.rb_f, Ru.rb_t, Ru.rb_n, Ru.lt_i, Ru.le_i, Ru.gt_i, Ru.ge_i, Ru.sub_i, Ru.add_i, Ru.add_s, Ru.add_t, Ru.add_l, Ru.mul_i, Ru.div_i, Ru.mod_i, Ru.neg_i, Ru.is_n, Ru.isNot_n, Ru.non_n, Ru.non_i, Ru.non_b, Ru.non_s, Ru.non_l, Ru.non_t, Ru.len_l, Ru.len_t, Ru.len_s, Ru.list_l, Ru.list_t, Ru.tuple_l, Ru.tuple_t, Ru.int_i, Ru.gsl_l, Ru.gsl_t, Ru.gsl_s, Ru.eq_s, Ru.eq_i, Ru.eq_b, Ru.ne_b, Ru.ne_s, Ru.ne_i, Ru.in_2, Ru.atI_0, Ru.atI_1, Ru.atI_2, Ru.ix_t, Ru.ix_l, Ru.cut_1, E.wipeS, Ru.bind_some, Option.bind_none, Ru.map_some, Option.map_none, List.getElem?_cons_zero, List.getElem?_cons_succ, List.set_cons_zero, List.set_cons_succ, List.length_cons, List.length_nil, List.map_cons, List.map_nil, List.replicate, List.cons_append, List.nil_append, C.enc, C.ev, ns_00, ns_01, ns_02, ns_03, ns_04, ns_05, ns_06, ns_10, ns_11, ns_12, ns_13, ns_14, ns_15, ns_16, ns_20, ns_21, ns_22, ns_23, ns_24, ns_25, ns_26, ns_30, ns_31, ns_32, ns_33, ns_34, ns_35, ns_36, ns_40, ns_41, ns_42, ns_43, ns_44, ns_45, ns_46, ns_50, ns_51, ns_52, ns_53, ns_54, ns_55, ns_56, ns_60, ns_61, ns_62, ns_63, ns_64, ns_65, ns_66, z]
    | and x y =>
      simp [C.ok] at ho
      simp [C.dep] at hd
      have z1 := ih x ho.1 (by omega)
      have z2 := ih y ho.2 (by omega)
      cases v1 : x.ev a <;> rw [v1] at z1 <;> simp [m_holds, b_holds, -Option.bind_some, -Option.map_some, Ru.c_e, Ru.v_e, Ru.v_d, Ru.rv_e, Ru.rv_d, Ru.rv_l, Ru.nil_e, Ru.cons_e, Ru.cons_d, Ru.cons_l, Ru.cons_2, Ru.tup_e, Ru.tup_d, Ru.lst_e, Ru.lst_d, Ru.rd_e, Ru.rd_d, Ru.rd_l, Ru.op_e, Ru.op_1, Ru.op_2, Ru.op_3, Ru.un_e, Ru.un_1, Ru.isi_e, Ru.ite_e, Ru.ite_t, Ru.ite_f, Ru.ofB_e, Ru.ofB_1, Ru.toB_e, Ru.toB_1, Ru.and_e, Ru.and_t, Ru.and_f, Ru.or_e, Ru.or_t, Ru.or_f, Ru.not_e, Ru.not_1, Ru.px_e, Ru.px_1, Ru.px_2, Ru.oN_e, Ru.oS_e, Ru.oS_1, Ru.sl_e, Ru.sl_1, Ru.sl_2, Ru.sl_3, Ru.sl3_e, Ru.tl_1, Ru.tl_2, Ru.tl_3, Ru.tl_4, Ru.call_e, Ru.call_1, Ru.call_2, Ru.callP_e, Ru.callP_1, Ru.callP_2, Ru.chain_e, Ru.ch_1, Ru.ch_2, Ru.ch_t, Ru.ch_f, Ru.iL_e, Ru.iL_d, Ru.iL_l, Ru.iT_e, Ru.iT_d, Ru.iR1_e, Ru.iR1_1, Ru.lR_e, Ru.lR_1, Ru.tN_e, Ru.tT_2, Ru.yes_e, Ru.lc_e, Ru.lc_1, Ru.lc_2, Ru.seq_e, Ru.seq_nx, Ru.seq_rt, Ru.nop_e, Ru.set_e, Ru.set_d, Ru.set_l, Ru.setL_e, Ru.setL_l, Ru.ret_e, Ru.ret_1, Ru.retV_e, Ru.retV_l, Ru.retV_d, Ru.frz_e, Ru.frz_l, Ru.sIte_e, Ru.sIte_t, Ru.sIte_f, Ru.for_e, Ru.for_1, Ru.for_nil, Ru.for_cons, Ru.fK_1, Ru.fK_nx, Ru.fK_rt, Ru.append_e, Ru.append_1, Ru.append_d, Ru.append_l, Ru.extend_e, Ru.extend_1, Ru.extend_l, Ru.pop_e, Ru.pop_1, Ru.setIx_e, Ru.setIx_d, Ru.setP_e, Ru.setP_d, Ru.setP_1, Ru.par_e, Ru.par_1, Ru.stup_e, Ru.stup_d, Ru.wK_t, Ru.wK_f, Ru.wK_nx, Ru.wK_rt, Ru.runB_f, Ru.runB_t, Ru.rb_f, Ru.rb_t, Ru.rb_n, Ru.lt_i, Ru.le_i, Ru.gt_i, Ru.ge_i, Ru.sub_i, Ru.add_i, Ru.add_s, Ru.add_t, Ru.add_l, Ru.mul_i, Ru.div_i, Ru.mod_i, Ru.neg_i, Ru.is_n, Ru.isNot_n, Ru.non_n, Ru.non_i, Ru.non_b, Ru.non_s, Ru.non_l, Ru.non_t, Ru.len_l, Ru.len_t, Ru.len_s, Ru.list_l, Ru.list_t, Ru.tuple_l, Ru.tuple_t, Ru.int_i, Ru.gsl_l, Ru.gsl_t, Ru.gsl_s, Ru.eq_s, Ru.eq_i, Ru.eq_b, Ru.ne_b, Ru.ne_s, Ru.ne_i, Ru.in_2, Ru.atI_0, Ru.atI_1, Ru.atI_2, Ru.ix_t, Ru.ix_l, Ru.cut_1, E.wipeS, Ru.bind_some, Option.bind_none, Ru.map_some, Option.map_none, List.getElem?_cons_zero, List.getElem?_cons_succ, List.set_cons_zero, List.set_cons_succ, List.length_cons, List.length_nil, List.map_cons, List.map_nil, List.replicate, List.cons_append, List.nil_append, C.enc, C.ev, ns_00, ns_01, ns_02, ns_03, ns_04, ns_05, ns_06, ns_10, ns_11, ns_12, ns_13, ns_14, ns_15, ns_16, ns_20, ns_21, ns_22, ns_23, ns_24, ns_25, ns_26, ns_30, ns_31, ns_32, ns_33, ns_34, ns_35, ns_36, ns_40, ns_41, ns_42, ns_43, ns_44, ns_45, ns_46, ns_50, ns_51, ns_52, ns_53, ns_54, ns_55, ns_56, ns_60, ns_61, ns_62, ns_63, ns_64, ns_65, ns_66, z1, z2, v1]
    | or x y =>
      simp [C.ok] at ho
      simp [C.dep] at hd
      have z1 := ih x ho.1 (by omega)
      have z2 := ih y ho.2 (by omega)
      cases v1 : x.ev a <;> rw [v1] at z1 <;> simp [m_holds, b_holds, -Option.bind_some, -Option.map_some, Ru.c_e, Ru.v_e, Ru.v_d, Ru.rv_e, Ru.rv_d, Ru.rv_l, Ru.nil_e, Ru.cons_e, Ru.cons_d, Ru.cons_l, Ru.cons_2, Ru.tup_e, Ru.tup_d, Ru.lst_e, Ru.lst_d, Ru.rd_e, Ru.rd_d, Ru.rd_l, Ru.op_e, Ru.op_1, Ru.op_2, Ru.op_3, Ru.un_e, Ru.un_1, Ru.isi_e, Ru.ite_e, Ru.ite_t, Ru.ite_f, Ru.ofB_e, Ru.ofB_1, Ru.toB_e, Ru.toB_1, Ru.and_e, Ru.and_t, Ru.and_f, Ru.or_e, Ru.or_t, Ru.or_f, Ru.not_e, Ru.not_1, Ru.px_e, Ru.px_1, Ru.px_2, Ru.oN_e, Ru.oS_e, Ru.oS_1, Ru.sl_e, Ru.sl_1, Ru.sl_2, Ru.sl_3, Ru.sl3_e, Ru.tl_1, Ru.tl_2, Ru.tl_3, Ru.tl_4, Ru.call_e, Ru.call_1, Ru.call_2, Ru.callP_e, Ru.callP_1, Ru.callP_2, Ru.chain_e, Ru.ch_1, Ru.ch_2, Ru.ch_t, Ru.ch_f, Ru.iL_e, Ru.iL_d, Ru.iL_l, Ru.iT_e, Ru.iT_d, Ru.iR1_e, Ru.iR1_1, Ru.lR_e, Ru.lR_1, Ru.tN_e, Ru.tT_2, Ru.yes_e, Ru.lc_e, Ru.lc_1, Ru.lc_2, Ru.seq_e, Ru.seq_nx, Ru.seq_rt, Ru.nop_e, Ru.set_e, Ru.set_d, Ru.set_l, Ru.setL_e, Ru.setL_l, Ru.ret_e, Ru.ret_1, Ru.retV_e, Ru.retV_l, Ru.retV_d, Ru.frz_e, Ru.frz_l, Ru.sIte_e, Ru.sIte_t, Ru.sIte_f, Ru.for_e, Ru.for_1, Ru.for_nil, Ru.for_cons, Ru.fK_1, Ru.fK_nx, Ru.fK_rt, Ru.append_e, Ru.append_1, Ru.append_d, Ru.append_l, Ru.extend_e, Ru.extend_1, Ru.extend_l, Ru.pop_e, Ru.pop_1, Ru.setIx_e, Ru.setIx_d, Ru.setP_e, Ru.setP_d, Ru.setP_1, Ru.par_e, Ru.par_1, Ru.stup_e, Ru.stup_d, Ru.wK_t, Ru.wK_f, Ru.wK_nx, Ru.wK_rt, Ru.runB_f, Ru.runB_t, Ru.rb_f, Ru.rb_t, Ru.rb_n, Ru.lt_i, Ru.le_i, Ru.gt_i, Ru.ge_i, Ru.sub_i, Ru.add_i, Ru.add_s, Ru.add_t, Ru.add_l, Ru.mul_i, Ru.div_i, Ru.mod_i, Ru.neg_i, Ru.is_n, Ru.isNot_n, Ru.non_n, Ru.non_i, Ru.non_b, Ru.non_s, Ru.non_l, Ru.non_t, Ru.len_l, Ru.len_t, Ru.len_s, Ru.list_l, Ru.list_t, Ru.tuple_l, Ru.tuple_t, Ru.int_i, Ru.gsl_l, Ru.gsl_t, Ru.gsl_s, Ru.eq_s, Ru.eq_i, Ru.eq_b, Ru.ne_b, Ru.ne_s, Ru.ne_i, Ru.in_2, Ru.atI_0, Ru.atI_1, Ru.atI_2, Ru.ix_t, Ru.ix_l, Ru.cut_1, E.wipeS, Ru.bind_some, Option.bind_none, Ru.map_some, Option.map_none, List.getElem?_cons_zero, List.getElem?_cons_succ, List.set_cons_zero, List.set_cons_succ, List.length_cons, List.length_nil, List.map_cons, List.map_nil, List.replicate, List.cons_append, List.nil_append, C.enc, C.ev, ns_00, ns_01, ns_02, ns_03, ns_04, ns_05, ns_06, ns_10, ns_11, ns_12, ns_13, ns_14, ns_15, ns_16, ns_20, ns_21, ns_22, ns_23, ns_24, ns_25, ns_26, ns_30, ns_31, ns_32, ns_33, ns_34, ns_35, ns_36, ns_40, ns_41, ns_42, ns_43, ns_44, ns_45, ns_46, ns_50, ns_51, ns_52, ns_53, ns_54, ns_55, ns_56, ns_60, ns_61, ns_62, ns_63, ns_64, ns_65, ns_66, z1, z2, v1]
theorem e_law_holds {a : Nat} : ∀ (n : Nat) (c : C), c.ok 3 = true → c.dep ≤ n → m_law_holds n [c.enc, .int a] none = some (.d (.bool (c.ev a)), none) := by
  intro n
  induction n with
  | zero => intro c _ h; cases c <;> simp [C.dep] at h
  | succ n ih =>
    intro c ho hd
    cases c with
    | no => simp [m_law_holds, b_law_holds, -Option.bind_some, -Option.map_some, Ru.c_e, Ru.v_e, Ru.v_d, Ru.rv_e, Ru.rv_d, Ru.rv_l, Ru.nil_e, Ru.cons_e, Ru.cons_d, Ru.cons_l, Ru.cons_2, Ru.tup_e, Ru.tup_d, Ru.lst_e, Ru.lst_d, Ru.rd_e, Ru.rd_d, Ru.rd_l, Ru.op_e, Ru.op_1, Ru.op_2, Ru.op_3, Ru.un_e, Ru.un_1, Ru.isi_e, Ru.ite_e, Ru.ite_t, Ru.ite_f, Ru.ofB_e, Ru.ofB_1, Ru.toB_e, Ru.toB_1, Ru.and_e, Ru.and_t, Ru.and_f, Ru.or_e, Ru.or_t, Ru.or_f, Ru.not_e, Ru.not_1, Ru.px_e, Ru.px_1, Ru.px_2, Ru.oN_e, Ru.oS_e, Ru.oS_1, Ru.sl_e, Ru.sl_1, Ru.sl_2, Ru.sl_3, Ru.sl3_e, Ru.tl_1, Ru.tl_2, Ru.tl_3, Ru.tl_4, Ru.call_e, Ru.call_1, Ru.call_2, Ru.callP_e, Ru.callP_1, Ru.callP_2, Ru.chain_e, Ru.ch_1, Ru.ch_2, Ru.ch_t, Ru.ch_f, Ru.iL_e, Ru.iL_d, Ru.iL_l, Ru.iT_e, Ru.iT_d, Ru.iR1_e, Ru.iR1_1, Ru.lR_e, Ru.lR_1, Ru.tN_e, Ru.tT_2, Ru.yes_e, Ru.lc_e, Ru.lc_1, Ru.lc_2, Ru.seq_e, Ru.seq_nx, Ru.seq_rt, Ru.nop_e, Ru.set_e, Ru.set_d, Ru.set_l, Ru.setL_e, Ru.setL_l, Ru.ret_e, Ru.ret_1, Ru.retV_e, Ru.retV_l, Ru.retV_d, Ru.frz_e, Ru.frz_l, Ru.sIte_e, Ru.sIte_t, Ru.sIte_f, Ru.for_e, Ru.for_1, Ru.for_nil, Ru.for_cons, Ru.fK_1, Ru.fK_nx, Ru.fK_rt, Ru.append_e, Ru.append_1, Ru.append_d, Ru.append_l, Ru.extend_e, Ru.extend_1, Ru.extend_l, Ru.pop_e, Ru.pop_1, Ru.setIx_e, Ru.setIx_d, Ru.setP_e, Ru.setP_d, Ru.setP_1, Ru.par_e, Ru.par_1, Ru.stup_e, Ru.stup_d, Ru.wK_t, Ru.wK_f, Ru.wK_nx, Ru.wK_rt, Ru.runB_f, Ru.runB_t, Ru.rb_f, Ru.rb_t, Ru.rb_n, Ru.lt_i, Ru.le_i, Ru.gt_i, Ru.ge_i, Ru.sub_i, Ru.add_i, Ru.add_s, Ru.add_t, Ru.add_l, Ru.mul_i, Ru.div_i, Ru.mod_i, Ru.neg_i, Ru.is_n, Ru.isNot_n, Ru.non_n, Ru.non_i, Ru.non_b, Ru.non_s, Ru.non_l, Ru.non_t, Ru.len_l, Ru.len_t, Ru.len_s, Ru.list_l, Ru.list_t, Ru.tuple_l, Ru.tuple_t, Ru.int_i, Ru.gsl_l, Ru.gsl_t, Ru.gsl_s, Ru.eq_s, Ru.eq_i, Ru.eq_b, Ru.ne_b, Ru.ne_s, Ru.ne_i, Ru.in_2, Ru.atI_0, Ru.atI_1, Ru.atI_2, Ru.ix_t, Ru.ix_l, Ru.cut_1, E.wipeS, Ru.bind_some, Option.bind_none, Ru.map_some, Option.map_none, List.getElem?_cons_zero, List.getElem?_cons_succ, List.set_cons_zero, List.set_cons_succ, List.length_cons, List.length_nil, List.map_cons, List.map_nil, List.replicate, List.cons_append, List.nil_append, C.enc, C.ev, ns_00, ns_01, ns_02, ns_03, ns_04, ns_05, ns_06, ns_10, ns_11, ns_12, ns_13, ns_14, ns_15, ns_16, ns_20, ns_21, ns_22, ns_23, ns_24, ns_25, ns_26, ns_30, ns_31, ns_32, ns_33, ns_34, ns_35, ns_36, ns_40, ns_41, ns_42, ns_43, ns_44, ns_45, ns_46, ns_50, ns_51, ns_52, ns_53, ns_54, ns_55, ns_56, ns_60, ns_61, ns_62, ns_63, ns_64, ns_65, ns_66]
    | yes => simp [m_law_holds, b_law_holds, -Option.bind_some, -Option.map_some, Ru.c_e, Ru.v_e, Ru.v_d, Ru.rv_e, Ru.rv_d, Ru.rv_l, Ru.nil_e, Ru.cons_e, Ru.cons_d, Ru.cons_l, Ru.cons_2, Ru.tup_e, Ru.tup_d, Ru.lst_e, Ru.lst_d, Ru.rd_e, Ru.rd_d, Ru.rd_l, Ru.op_e, Ru.op_1, Ru.op_2, Ru.op_3, Ru.un_e, Ru.un_1, Ru.isi_e, Ru.ite_e, Ru.ite_t, Ru.ite_f, Ru.ofB_e, Ru.ofB_1, Ru.toB_e, Ru.toB_1, Ru.and_e, Ru.and_t, Ru.and_f, Ru.or_e, Ru.or_t, Ru.or_f, Ru.not_e, Ru.not_1, Ru.px_e, Ru.px_1, Ru.px_2, Ru.oN_e, Ru.oS_e, Ru.oS_1, Ru.sl_e, Ru.sl_1, Ru.sl_2, Ru.sl_3, Ru.sl3_e, Ru.tl_1, Ru.tl_2, Ru.tl_3, Ru.tl_4, Ru.call_e, Ru.call_1, Ru.call_2, Ru.callP_e, Ru.callP_1, Ru.callP_2, Ru.chain_e, Ru.ch_1, Ru.ch_2, Ru.ch_t, Ru.ch_f, Ru.iL_e, Ru.iL_d, Ru.iL_l, Ru.iT_e, Ru.iT_d, Ru.iR1_e, Ru.iR1_1, Ru.lR_e, Ru.lR_1, Ru.tN_e, Ru.tT_2, Ru.yes_e, Ru.lc_e, Ru.lc_1, Ru.lc_2, Ru.seq_e, Ru.seq_nx, Ru.seq_rt, Ru.nop_e, Ru.set_e, Ru.set_d, Ru.set_l, Ru.setL_e, Ru.setL_l, Ru.ret_e, Ru.ret_1, Ru.retV_e, Ru.retV_l, Ru.retV_d, Ru.frz_e, Ru.frz_l, Ru.sIte_e, Ru.sIte_t, Ru.sIte_f, Ru.for_e, Ru.for_1, Ru.for_nil, Ru.for_cons, Ru.fK_1, Ru.fK_nx, Ru.fK_rt, Ru.append_e, Ru.append_1, Ru.append_d, Ru.append_l, Ru.extend_e, Ru.extend_1, Ru.extend_l, Ru.pop_e, Ru.pop_1, Ru.setIx_e, Ru.setIx_d, Ru.setP_e, Ru.setP_d, Ru.setP_1, Ru.par_e, Ru.par_1, Ru.stup_e, Ru.stup_d, Ru.wK_t, Ru.wK_f, Ru.wK_nx, Ru.wK_rt, Ru.runB_f, Ru.runB_t, Ru.rb_f, Ru.rb_t, Ru.rb_n, Ru.lt_i, Ru.le_i, Ru.gt_i, Ru.ge_i, Ru.sub_i, Ru.add_i, Ru.add_s, Ru.add_t, Ru.add_l, Ru.mul_i, Ru.div_i, Ru.mod_i, Ru.neg_i, Ru.is_n, Ru.isNot_n, Ru.non_n, Ru.non_i, Ru.non_b, Ru.non_s, Ru.non_l, Ru.non_t, Ru.len_l, Ru.len_t, Ru.len_s, Ru.list_l, Ru.list_t, Ru.tuple_l, Ru.tuple_t, Ru.int_i, Ru.gsl_l, Ru.gsl_t, Ru.gsl_s, Ru.eq_s, Ru.eq_i, Ru.eq_b, Ru.ne_b, Ru.ne_s, Ru.ne_i, Ru.in_2, Ru.atI_0, Ru.atI_1, Ru.atI_2, Ru.ix_t, Ru.ix_l, Ru.cut_1, E.wipeS, Ru.bind_some, Option.bind_none, Ru.map_some, Option.map_none, List.getElem?_cons_zero, List.getElem?_cons_succ, List.set_cons_zero, List.set_cons_succ, List.length_cons, List.length_nil, List.map_cons, List.map_nil, List.replicate, List.cons_append, List.nil_append, C.enc, C.ev, ns_00, ns_01, ns_02, ns_03, ns_04, ns_05, ns_06, ns_10, ns_11, ns_12, ns_13, ns_14, ns_15, ns_16, ns_20, ns_21, ns_22, ns_23, ns_24, ns_25, ns_26, ns_30, ns_31, ns_32, ns_33, ns_34, ns_35, ns_36, ns_40, ns_41, ns_42, ns_43, ns_44, ns_45, ns_46, ns_50, ns_51, ns_52, ns_53, ns_54, ns_55, ns_56, ns_60, ns_61, ns_62, ns_63, ns_64, ns_65, ns_66]
    | test i =>
      simp [C.ok] at ho
      obtain ⟨k, h1, h2, h3, h4⟩ := bit_int (a := a) ho
      simp [m_law_holds, b_law_holds, -Option.bind_some, -Option.map_some, Ru.c_e, Ru.v_e, Ru.v_d, Ru.rv_e, Ru.rv_d, Ru.rv_l, Ru.nil_e, Ru.cons_e, Ru.cons_d, Ru.cons_l, Ru.cons_2, Ru.tup_e, Ru.tup_d, Ru.lst_e, Ru.lst_d, Ru.rd_e, Ru.rd_d, Ru.rd_l, Ru.op_e, Ru.op_1, Ru.op_2, Ru.op_3, Ru.un_e, Ru.un_1, Ru.isi_e, Ru.ite_e, Ru.ite_t, Ru.ite_f, Ru.ofB_e, Ru.ofB_1, Ru.toB_e, Ru.toB_1, Ru.and_e, Ru.and_t, Ru.and_f, Ru.or_e, Ru.or_t, Ru.or_f, Ru.not_e, Ru.not_1, Ru.px_e, Ru.px_1, Ru.px_2, Ru.oN_e, Ru.oS_e, Ru.oS_1, Ru.sl_e, Ru.sl_1, Ru.sl_2, Ru.sl_3, Ru.sl3_e, Ru.tl_1, Ru.tl_2, Ru.tl_3, Ru.tl_4, Ru.call_e, Ru.call_1, Ru.call_2, Ru.callP_e, Ru.callP_1, Ru.callP_2, Ru.chain_e, Ru.ch_1, Ru.ch_2, Ru.ch_t, Ru.ch_f, Ru.iL_e, Ru.iL_d, Ru.iL_l, Ru.iT_e, Ru.iT_d, Ru.iR1_e, Ru.iR1_1, Ru.lR_e, Ru.lR_1, Ru.tN_e, Ru.tT_2, Ru.yes_e, Ru.lc_e, Ru.lc_1, Ru.lc_2, Ru.seq_e, Ru.seq_nx, Ru.seq_rt, Ru.nop_e, Ru.set_e, Ru.set_d, Ru.set_l, Ru.setL_e, Ru.setL_l, Ru.ret_e, Ru.ret_1, Ru.retV_e, Ru.retV_l, Ru.retV_d, Ru.frz_e, Ru.frz_l, Ru.sIte_e, Ru.sIte_t, Ru.sIte_f, Ru.for_e, Ru.for_1, Ru.for_nil, Ru.for_cons, Ru.fK_1, Ru.fK_nx, Ru.fK_rt, Ru.append_e, Ru.append_1, Ru.append_d, Ru.append_l, Ru.extend_e, Ru.extend_1, Ru.extend_l, Ru.pop_e, Ru.pop_1, Ru.setIx_e, Ru.setIx_d, Ru.setP_e, Ru.setP_d, Ru.setP_1, Ru.par_e, Ru.par_1, Ru.stup_e, Ru.stup_d, Ru.wK_t, Ru.wK_f, Ru.wK_nx, Ru.wK_rt, Ru.runB_f, Ru.runB_t, Ru.rb_f, Ru.rb_t, Ru.rb_n, Ru.lt_i, Ru.le_i, Ru.gt_i, Ru.ge_i, Ru.sub_i, Ru.add_i, Ru.add_s, Ru.add_t, Ru.add_l, Ru.mul_i, Ru.div_i, Ru.mod_i, Ru.neg_i, Ru.is_n, Ru.isNot_n, Ru.non_n, Ru.non_i, Ru.non_b, Ru.non_s, Ru.non_l, Ru.non_t, Ru.len_l, Ru.len_t, Ru.len_s, Ru.list_l, Ru.list_t, Ru.tuple_l, Ru.tuple_t, Ru.int_i, Ru.gsl_l, Ru.gsl_t, Ru.gsl_s, Ru.eq_s, Ru.eq_i, Ru.eq_b, Ru.ne_b, Ru.ne_s, Ru.ne_i, Ru.in_2, Ru.atI_0, Ru.atI_1, Ru.atI_2, Ru.ix_t, Ru.ix_l, Ru.cut_1, E.wipeS, Ru.bind_some, Option.bind_none, Ru.map_some, Option.map_none, List.getElem?_cons_zero, List.getElem?_cons_succ, List.set_cons_zero, List.set_cons_succ, List.length_cons, List.length_nil, List.map_cons, List.map_nil, List.replicate, List.cons_append, List.nil_append, C.enc, C.ev, ns_00, ns_01, ns_02, ns_03, ns_04, ns_05, ns_06, ns_10, ns_11, ns_12, ns_13, ns_14, ns_15, ns_16, ns_20, ns_21, ns_22, ns_23, ns_24, ns_25, ns_26, ns_30, ns_31, ns_32, ns_33, ns_34, ns_35, ns_36, ns_40, ns_41, ns_42, ns_43, ns_44, ns_45, ns_46, ns_50, ns_51, ns_52, ns_53, ns_54, ns_55, ns_56, ns_60, ns_61, ns_62, ns_63, ns_64, ns_65, ns_66, h1, h2, h3, h4]
    | neg c =>
      have z := ih c ho (by simp [C.dep] at hd; omega)
      simp [m_law_holds, b_law_holds, -Option.bind_some, -Option.map_some, Ru.c_e, Ru.v_e, Ru.v_d, Ru.rv_e, Ru.rv_d, Ru.rv_l, Ru.nil_e, Ru.cons_e, Ru.cons_d, Ru.cons_l, Ru.cons_2, Ru.tup_e, Ru.tup_d, Ru.lst_e, Ru.lst_d, Ru.rd_e, Ru.rd_d, Ru.rd_l, Ru.op_e, Ru.op_1, Ru.op_2, Ru.op_3, Ru.un_e, Ru.un_1, Ru.isi_e, Ru.ite_e, Ru.ite_t, Ru.ite_f, Ru.ofB_e, Ru.ofB_1, Ru.toB_e, Ru.toB_1, Ru.and_e, Ru.and_t, Ru.and_f, Ru.or_e, Ru.or_t, Ru.or_f, Ru.not_e, Ru.not_1, Ru.px_e, Ru.px_1, Ru.px_2, Ru.oN_e, Ru.oS_e, Ru.oS_1, Ru.sl_e, Ru.sl_1, Ru.sl_2, Ru.sl_3, Ru.sl3_e, Ru.tl_1, Ru.tl_2, Ru.tl_3, Ru.tl_4, Ru.call_e, Ru.call_1, Ru.call_2, Ru.callP_e, Ru.callP_1, Ru.callP_2, Ru.chain_e, Ru.ch_1, Ru.ch_2, Ru.ch_t, Ru.ch_f, Ru.iL_e, Ru.iL_d, Ru.iL_l, Ru.iT_e, Ru.iT_d, Ru.iR1_e, Ru.iR1_1, Ru.lR_e, Ru.lR_1, Ru.tN_e, Ru.tT_2, Ru.yes_e, Ru.lc_e, Ru.lc_1, Ru.lc_2, Ru.seq_e, Ru.seq_nx, Ru.seq_rt, Ru.nop_e, Ru.set_e, Ru.set_d, Ru.set_l, Ru.setL_e, Ru.setL_l, Ru.ret_e, Ru.ret_1, Ru.retV_e, Ru.retV_l, Ru.retV_d, Ru.frz_e, Ru.frz_l, Ru.sIte_e, Ru.sIte_t, Ru.sIte_f, Ru.for_e, Ru.for_1, Ru.for_nil, Ru.for_cons, Ru.fK_1, Ru.fK_nx, Ru.fK_rt, Ru.append_e, Ru.append_1, Ru.append_d, Ru.append_l, Ru.extend_e, Ru.extend_1, Ru.extend_l, Ru.pop_e, Ru.pop_1, Ru.setIx_e, Ru.setIx_d, Ru.setP_e, Ru.setP_d, Ru.setP_1, Ru.par_e, Ru.par_1, Ru.stup_e, Ru.stup_d, Ru.wK_t, Ru.wK_f, Ru.wK_nx, Ru.wK_rt, Ru.runB_f, Ru.runB_t, Ru.rb_f, Ru.rb_t, Ru.rb_n, Ru.lt_i, Ru.le_i, Ru.gt_i, Ru.ge_i, Ru.sub_i, Ru.add_i, Ru.add_s, Ru.add_t, Ru.add_l, Ru.mul_i, Ru.div_i, Ru.mod_i, Ru.neg_i, Ru.is_n, Ru.isNot_n, Ru.non_n, Ru.non_i, Ru.non_b, Ru.non_s, Ru.non_l, Ru.non_t, Ru.len_l, Ru.len_t, Ru.len_s, Ru.list_l, Ru.list_t, Ru.tuple_l, Ru.tuple_t, Ru.int_i, Ru.gsl_l, Ru.gsl_t, Ru.gsl_s, Ru.eq_s, Ru.eq_i, Ru.eq_b, Ru.ne_b, Ru.ne_s, Ru.ne_i, Ru.in_2, Ru.atI_0, Ru.atI_1, Ru.atI_2, Ru.ix_t, Ru.ix_l, Ru.cut_1, E.wipeS, Ru.bind_some, Option.bind_none, Ru.map_some, Option.map_none, List.getElem?_cons_zero, List.getElem?_cons_succ, List.set_cons_zero, List.set_cons_succ, List.length_cons, List.length_nil, List.map_cons, List.map_nil, List.replicate, List.cons_append, List.nil_append, C.enc, C.ev, ns_00, ns_01, ns_02, ns_03, ns_04, ns_05, ns_06, ns_10, ns_11, ns_12, ns_13, ns_14, ns_15, ns_16, ns_20, ns_21, ns_22, ns_23, ns_24, ns_25, ns_26, ns_30, ns_31, ns_32, ns_33, ns_34, ns_35, ns_36, ns_40, ns_41, ns_42, ns_43, ns_44, ns_45, ns_46, ns_50, ns_51, ns_52, ns_53, ns_54, ns_55, ns_56, ns_60, ns_61, ns_62, ns_63, ns_64, ns_65, ns_66, z]
    | and x y =>
      simp [C.ok] at ho
      simp [C.dep] at hd
      have z1 := ih x ho.1 (by omega)
      have z2 := ih y ho.2 (by omega)
      cases v1 : x.ev a <;> rw [v1] at z1 <;> simp [m_law_holds, b_law_holds, -Option.bind_some, -Option.map_some, Ru.c_e, Ru.v_e, Ru.v_d, Ru.rv_e, Ru.rv_d, Ru.rv_l, Ru.nil_e, Ru.cons_e, Ru.cons_d, Ru.cons_l, Ru.cons_2, Ru.tup_e, Ru.tup_d, Ru.lst_e, Ru.lst_d, Ru.rd_e, Ru.rd_d, Ru.rd_l, Ru.op_e, Ru.op_1, Ru.op_2, Ru.op_3, Ru.un_e, Ru.un_1, Ru.isi_e, Ru.ite_e, Ru.ite_t, Ru.ite_f, Ru.ofB_e, Ru.ofB_1, Ru.toB_e, Ru.toB_1, Ru.and_e, Ru.and_t, Ru.and_f, Ru.or_e, Ru.or_t, Ru.or_f, Ru.not_e, Ru.not_1, Ru.px_e, Ru.px_1, Ru.px_2, Ru.oN_e, Ru.oS_e, Ru.oS_1, Ru.sl_e, Ru.sl_1, Ru.sl_2, Ru.sl_3, Ru.sl3_e, Ru.tl_1, Ru.tl_2, Ru.tl_3, Ru.tl_4, Ru.call_e, Ru.call_1, Ru.call_2, Ru.callP_e, Ru.callP_1, Ru.callP_2, Ru.chain_e, Ru.ch_1, Ru.ch_2, Ru.ch_t, Ru.ch_f, Ru.iL_e, Ru.iL_d, Ru.iL_l, Ru.iT_e, Ru.iT_d, Ru.iR1_e, Ru.iR1_1, Ru.lR_e, Ru.lR_1, Ru.tN_e, Ru.tT_2, Ru.yes_e, Ru.lc_e, Ru.lc_1, Ru.lc_2, Ru.seq_e, Ru.seq_nx, Ru.seq_rt, Ru.nop_e, Ru.set_e, Ru.set_d, Ru.set_l, Ru.setL_e, Ru.setL_l, Ru.ret_e, Ru.ret_1, Ru.retV_e, Ru.retV_l, Ru.retV_d, Ru.frz_e, Ru.frz_l, Ru.sIte_e, Ru.sIte_t, Ru.sIte_f, Ru.for_e, Ru.for_1, Ru.for_nil, Ru.for_cons, Ru.fK_1, Ru.fK_nx, Ru.fK_rt, Ru.append_e, Ru.append_1, Ru.append_d, Ru.append_l, Ru.extend_e, Ru.extend_1, Ru.extend_l, Ru.pop_e, Ru.pop_1, Ru.setIx_e, Ru.setIx_d, Ru.setP_e, Ru.setP_d, Ru.setP_1, Ru.par_e, Ru.par_1, Ru.stup_e, Ru.stup_d, Ru.wK_t, Ru.wK_f, Ru.wK_nx, Ru.wK_rt, Ru.runB_f, Ru.runB_t, Ru.rb_f, Ru.rb_t, Ru.rb_n, Ru.lt_i, Ru.le_i, Ru.gt_i, Ru.ge_i, Ru.sub_i, Ru.add_i, Ru.add_s, Ru.add_t, Ru.add_l, Ru.mul_i, Ru.div_i, Ru.mod_i, Ru.neg_i, Ru.is_n, Ru.isNot_n, Ru.non_n, Ru.non_i, Ru.non_b, Ru.non_s, Ru.non_l, Ru.non_t, Ru.len_l, Ru.len_t, Ru.len_s, Ru.list_l, Ru.list_t, Ru.tuple_l, Ru.tuple_t, Ru.int_i, Ru.gsl_l, Ru.gsl_t, Ru.gsl_s, Ru.eq_s, Ru.eq_i, Ru.eq_b, Ru.ne_b, Ru.ne_s, Ru.ne_i, Ru.in_2, Ru.atI_0, Ru.atI_1, Ru.atI_2, Ru.ix_t, Ru.ix_l, Ru.cut_1, E.wipeS, Ru.bind_some, Option.bind_none, Ru.map_some, Option.map_none, List.getElem?_cons_zero, List.getElem?_cons_succ, List.set_cons_zero, List.set_cons_succ, List.length_cons, List.length_nil, List.map_cons, List.map_nil, List.replicate, List.cons_append, List.nil_append, C.enc, C.ev, ns_00, ns_01, ns_02, ns_03, ns_04, ns_05, ns_06, ns_10, ns_11, ns_12, ns_13, ns_14, ns_15, ns_16, ns_20, ns_21, ns_22, ns_23, ns_24, ns_25, ns_26, ns_30, ns_31, ns_32, ns_33, ns_34, ns_35, ns_36, ns_40, ns_41, ns_42, ns_43, ns_44, ns_45, ns_46, ns_50, ns_51, ns_52, ns_53, ns_54, ns_55, ns_56, ns_60, ns_61, ns_62, ns_63, ns_64, ns_65, ns_66, z1, z2, v1]
    | or x y =>
      simp [C.ok] at ho
      simp [C.dep] at hd
      have z1 := ih x ho.1 (by omega)
      have z2 := ih y ho.2 (by omega)
      cases v1 : x.ev a <;> rw [v1] at z1 <;> simp [m_law_holds, b_law_holds, -Option.bind_some, -Option.map_some, Ru.c_e, Ru.v_e, Ru.v_d, Ru.rv_e, Ru.rv_d, Ru.rv_l, Ru.nil_e, Ru.cons_e, Ru.cons_d, Ru.cons_l, Ru.cons_2, Ru.tup_e, Ru.tup_d, Ru.lst_e, Ru.lst_d, Ru.rd_e, Ru.rd_d, Ru.rd_l, Ru.op_e, Ru.op_1, Ru.op_2, Ru.op_3, Ru.un_e, Ru.un_1, Ru.isi_e, Ru.ite_e, Ru.ite_t, Ru.ite_f, Ru.ofB_e, Ru.ofB_1, Ru.toB_e, Ru.toB_1, Ru.and_e, Ru.and_t, Ru.and_f, Ru.or_e, Ru.or_t, Ru.or_f, Ru.not_e, Ru.not_1, Ru.px_e, Ru.px_1, Ru.px_2, Ru.oN_e, Ru.oS_e, Ru.oS_1, Ru.sl_e, Ru.sl_1, Ru.sl_2, Ru.sl_3, Ru.sl3_e, Ru.tl_1, Ru.tl_2, Ru.tl_3, Ru.tl_4, Ru.call_e, Ru.call_1, Ru.call_2, Ru.callP_e, Ru.callP_1, Ru.callP_2, Ru.chain_e, Ru.ch_1, Ru.ch_2, Ru.ch_t, Ru.ch_f, Ru.iL_e, Ru.iL_d, Ru.iL_l, Ru.iT_e, Ru.iT_d, Ru.iR1_e, Ru.iR1_1, Ru.lR_e, Ru.lR_1, Ru.tN_e, Ru.tT_2, Ru.yes_e, Ru.lc_e, Ru.lc_1, Ru.lc_2, Ru.seq_e, Ru.seq_nx, Ru.seq_rt, Ru.nop_e, Ru.set_e, Ru.set_d, Ru.set_l, Ru.setL_e, Ru.setL_l, Ru.ret_e, Ru.ret_1, Ru.retV_e, Ru.retV_l, Ru.retV_d, Ru.frz_e, Ru.frz_l, Ru.sIte_e, Ru.sIte_t, Ru.sIte_f, Ru.for_e, Ru.for_1, Ru.for_nil, Ru.for_cons, Ru.fK_1, Ru.fK_nx, Ru.fK_rt, Ru.append_e, Ru.append_1, Ru.append_d, Ru.append_l, Ru.extend_e, Ru.extend_1, Ru.extend_l, Ru.pop_e, Ru.pop_1, Ru.setIx_e, Ru.setIx_d, Ru.setP_e, Ru.setP_d, Ru.setP_1, Ru.par_e, Ru.par_1, Ru.stup_e, Ru.stup_d, Ru.wK_t, Ru.wK_f, Ru.wK_nx, Ru.wK_rt, Ru.runB_f, Ru.runB_t, Ru.rb_f, Ru.rb_t, Ru.rb_n, Ru.lt_i, Ru.le_i, Ru.gt_i, Ru.ge_i, Ru.sub_i, Ru.add_i, Ru.add_s, Ru.add_t, Ru.add_l, Ru.mul_i, Ru.div_i, Ru.mod_i, Ru.neg_i, Ru.is_n, Ru.isNot_n, Ru.non_n, Ru.non_i, Ru.non_b, Ru.non_s, Ru.non_l, Ru.non_t, Ru.len_l, Ru.len_t, Ru.len_s, Ru.list_l, Ru.list_t, Ru.tuple_l, Ru.tuple_t, Ru.int_i, Ru.gsl_l, Ru.gsl_t, Ru.gsl_s, Ru.eq_s, Ru.eq_i, Ru.eq_b, Ru.ne_b, Ru.ne_s, Ru.ne_i, Ru.in_2, Ru.atI_0, Ru.atI_1, Ru.atI_2, Ru.ix_t, Ru.ix_l, Ru.cut_1, E.wipeS, Ru.bind_some, Option.bind_none, Ru.map_some, Option.map_none, List.getElem?_cons_zero, List.getElem?_cons_succ, List.set_cons_zero, List.set_cons_succ, List.length_cons, List.length_nil, List.map_cons, List.map_nil, List.replicate, List.cons_append, List.nil_append, C.enc, C.ev, ns_00, ns_01, ns_02, ns_03, ns_04, ns_05, ns_06, ns_10, ns_11, ns_12, ns_13, ns_14, ns_15, ns_16, ns_20, ns_21, ns_22, ns_23, ns_24, ns_25, ns_26, ns_30, ns_31, ns_32, ns_33, ns_34, ns_35, ns_36, ns_40, ns_41, ns_42, ns_43, ns_44, ns_45, ns_46, ns_50, ns_51, ns_52, ns_53, ns_54, ns_55, ns_56, ns_60, ns_61, ns_62, ns_63, ns_64, ns_65, ns_66, z1, z2, v1]
theorem ok_mono {d e : Nat} (h : d ≤ e) : ∀ c : C, c.ok d = true → c.ok e = true
  | .no, _ => rfl
  | .yes, _ => rfl
  | .test i, z => by simp [C.ok] at z ⊢; omega
  | .neg c, z => ok_mono h c z
  | .and a b, z => by simp [C.ok] at z ⊢; exact ⟨ok_mono h a z.1, ok_mono h b z.2⟩
  | .or a b, z => by simp [C.ok] at z ⊢; exact ⟨ok_mono h a z.1, ok_mono h b z.2⟩
/-! ### atoms -/
def AT (d : Nat) : List Nat := List.range (2 ^ d)
def intsN (l : List Nat) : List D := l.map fun (n : Nat) => .int (n : Int)
theorem upTo_ints (n : Nat) : Ru.upTo n = intsN (List.range n) := rfl
def m_atoms_of : MF := runB 1 false 1 b_atoms_of
def m_law_atoms : MF := runB 1 false 1 b_law_atoms
theorem d123 {d : Nat} (h1 : 1 ≤ d) (h3 : d ≤ 3) : d = 1 ∨ d = 2 ∨ d = 3 := by omega
theorem e_atoms_of {d : Nat} {t : Int} (h1 : 1 ≤ d) (h3 : d ≤ 3) : m_atoms_of [W d t] none = some (.l (intsN (AT d)), none) := by
  rcases d123 h1 h3 with rfl | rfl | rfl <;> simp [m_atoms_of, b_atoms_of, -Option.bind_some, -Option.map_some, Ru.c_e, Ru.v_e, Ru.v_d, Ru.rv_e, Ru.rv_d, Ru.rv_l, Ru.nil_e, Ru.cons_e, Ru.cons_d, Ru.cons_l, Ru.cons_2, Ru.tup_e, Ru.tup_d, Ru.lst_e, Ru.lst_d, Ru.rd_e, Ru.rd_d, Ru.rd_l, Ru.op_e, Ru.op_1, Ru.op_2, Ru.op_3, Ru.un_e, Ru.un_1, Ru.isi_e, Ru.ite_e, Ru.ite_t, Ru.ite_f, Ru.ofB_e, Ru.ofB_1, Ru.toB_e, Ru.toB_1, Ru.and_e, Ru.and_t, Ru.and_f, Ru.or_e, Ru.or_t, Ru.or_f, Ru.not_e, Ru.not_1, Ru.px_e, Ru.px_1, Ru.px_2, Ru.oN_e, Ru.oS_e, Ru.oS_1, Ru.sl_e, Ru.sl_1, Ru.sl_2, Ru.sl_3, Ru.sl3_e, Ru.tl_1, Ru.tl_2, Ru.tl_3, Ru.tl_4, Ru.call_e, Ru.call_1, Ru.call_2, Ru.callP_e, Ru.callP_1, Ru.callP_2, Ru.chain_e, Ru.ch_1, Ru.ch_2, Ru.ch_t, Ru.ch_f, Ru.iL_e, Ru.iL_d, Ru.iL_l, Ru.iT_e, Ru.iT_d, Ru.iR1_e, Ru.iR1_1, Ru.lR_e, Ru.lR_1, Ru.tN_e, Ru.tT_2, Ru.yes_e, Ru.lc_e, Ru.lc_1, Ru.lc_2, Ru.seq_e, Ru.seq_nx, Ru.seq_rt, Ru.nop_e, Ru.set_e, Ru.set_d, Ru.set_l, Ru.setL_e, Ru.setL_l, Ru.ret_e, Ru.ret_1, Ru.retV_e, Ru.retV_l, Ru.retV_d, Ru.frz_e, Ru.frz_l, Ru.sIte_e, Ru.sIte_t, Ru.sIte_f, Ru.for_e, Ru.for_1, Ru.for_nil, Ru.for_cons, Ru.fK_1, Ru.fK_nx, Ru.fK_rt, Ru.append_e, Ru.append_1, Ru.append_d, Ru.append_l, Ru.extend_e, Ru.extend_1, Ru.extend_l, Ru.pop_e, Ru.pop_1, Ru.setIx_e, Ru.setIx_d, Ru.setP_e, Ru.setP_d, Ru.setP_1, Ru.par_e, Ru.par_1, Ru.stup_e, Ru.stup_d, Ru.wK_t, Ru.wK_f, Ru.wK_nx, Ru.wK_rt, Ru.runB_f, Ru.runB_t, Ru.rb_f, Ru.rb_t, Ru.rb_n, Ru.lt_i, Ru.le_i, Ru.gt_i, Ru.ge_i, Ru.sub_i, Ru.add_i, Ru.add_s, Ru.add_t, Ru.add_l, Ru.mul_i, Ru.div_i, Ru.mod_i, Ru.neg_i, Ru.is_n, Ru.isNot_n, Ru.non_n, Ru.non_i, Ru.non_b, Ru.non_s, Ru.non_l, Ru.non_t, Ru.len_l, Ru.len_t, Ru.len_s, Ru.list_l, Ru.list_t, Ru.tuple_l, Ru.tuple_t, Ru.int_i, Ru.gsl_l, Ru.gsl_t, Ru.gsl_s, Ru.eq_s, Ru.eq_i, Ru.eq_b, Ru.ne_b, Ru.ne_s, Ru.ne_i, Ru.in_2, Ru.atI_0, Ru.atI_1, Ru.atI_2, Ru.ix_t, Ru.ix_l, Ru.cut_1, E.wipeS, Ru.bind_some, Option.bind_none, Ru.map_some, Option.map_none, List.getElem?_cons_zero, List.getElem?_cons_succ, List.set_cons_zero, List.set_cons_succ, List.length_cons, List.length_nil, List.map_cons, List.map_nil, List.replicate, List.cons_append, List.nil_append, upTo_ints, AT]
theorem e_law_atoms {d : Nat} {t : Int} (h1 : 1 ≤ d) (h3 : d ≤ 3) : m_law_atoms [W d t] none = some (.l (intsN (AT d)), none) := by
  rcases d123 h1 h3 with rfl | rfl | rfl <;> simp [m_law_atoms, b_law_atoms, -Option.bind_some, -Option.map_some, Ru.c_e, Ru.v_e, Ru.v_d, Ru.rv_e, Ru.rv_d, Ru.rv_l, Ru.nil_e, Ru.cons_e, Ru.cons_d, Ru.cons_l, Ru.cons_2, Ru.tup_e, Ru.tup_d, Ru.lst_e, Ru.lst_d, Ru.rd_e, Ru.rd_d, Ru.rd_l, Ru.op_e, Ru.op_1, Ru.op_2, Ru.op_3, Ru.un_e, Ru.un_1, Ru.isi_e, Ru.ite_e, Ru.ite_t, Ru.ite_f, Ru.ofB_e, Ru.ofB_1, Ru.toB_e, Ru.toB_1, Ru.and_e, Ru.and_t, Ru.and_f, Ru.or_e, Ru.or_t, Ru.or_f, Ru.not_e, Ru.not_1, Ru.px_e, Ru.px_1, Ru.px_2, Ru.oN_e, Ru.oS_e, Ru.oS_1, Ru.sl_e, Ru.sl_1, Ru.sl_2, Ru.sl_3, Ru.sl3_e, Ru.tl_1, Ru.tl_2, Ru.tl_3, Ru.tl_4, Ru.call_e, Ru.call_1, Ru.call_2, Ru.callP_e, Ru.callP_1, Ru.callP_2, Ru.chain_e, Ru.ch_1, Ru.ch_2, Ru.ch_t, Ru.ch_f, Ru.iL_e, Ru.iL_d, Ru.iL_l, Ru.iT_e, Ru.iT_d, Ru.iR1_e, Ru.iR1_1, Ru.lR_e, Ru.lR_1, Ru.tN_e, Ru.tT_2, Ru.yes_e, Ru.lc_e, Ru.lc_1, Ru.lc_2, Ru.seq_e, Ru.seq_nx, Ru.seq_rt, Ru.nop_e, Ru.set_e, Ru.set_d, Ru.set_l, Ru.setL_e, Ru.setL_l, Ru.ret_e, Ru.ret_1, Ru.retV_e, Ru.retV_l, Ru.retV_d, Ru.frz_e, Ru.frz_l, Ru.sIte_e, Ru.sIte_t, Ru.sIte_f, Ru.for_e, Ru.for_1, Ru.for_nil, Ru.for_cons, Ru.fK_1, Ru.fK_nx, Ru.fK_rt, Ru.append_e, Ru.append_1, Ru.append_d, Ru.append_l, Ru.extend_e, Ru.extend_1, Ru.extend_l, Ru.pop_e, Ru.pop_1, Ru.setIx_e, Ru.setIx_d, Ru.setP_e, Ru.setP_d, Ru.setP_1, Ru.par_e, Ru.par_1, Ru.stup_e, Ru.stup_d, Ru.wK_t, Ru.wK_f, Ru.wK_nx, Ru.wK_rt, Ru.runB_f, Ru.runB_t, Ru.rb_f, Ru.rb_t, Ru.rb_n, Ru.lt_i, Ru.le_i, Ru.gt_i, Ru.ge_i, Ru.sub_i, Ru.add_i, Ru.add_s, Ru.add_t, Ru.add_l, Ru.mul_i, Ru.div_i, Ru.mod_i, Ru.neg_i, Ru.is_n, Ru.isNot_n, Ru.non_n, Ru.non_i, Ru.non_b, Ru.non_s, Ru.non_l, Ru.non_t, Ru.len_l, Ru.len_t, Ru.len_s, Ru.list_l, Ru.list_t, Ru.tuple_l, Ru.tuple_t, Ru.int_i, Ru.gsl_l, Ru.gsl_t, Ru.gsl_s, Ru.eq_s, Ru.eq_i, Ru.eq_b, Ru.ne_b, Ru.ne_s, Ru.ne_i, Ru.in_2, Ru.atI_0, Ru.atI_1, Ru.atI_2, Ru.ix_t, Ru.ix_l, Ru.cut_1, E.wipeS, Ru.bind_some, Option.bind_none, Ru.map_some, Option.map_none, List.getElem?_cons_zero, List.getElem?_cons_succ, List.set_cons_zero, List.set_cons_succ, List.length_cons, List.length_nil, List.map_cons, List.map_nil, List.replicate, List.cons_append, List.nil_append, upTo_ints, AT]
theorem AT_len {d : Nat} (h3 : d ≤ 3) : (AT d).length ≤ 8 := by
  unfold AT
  rw [List.length_range]
  exact Nat.pow_le_pow_right (by decide) h3
theorem len_intsN (l : List Nat) : (intsN l).length = l.length := List.length_map _
def m_atoms_where (n : Nat) : MF := runB 3 false 2 (b_atoms_where m_atoms_of (m_holds n))
theorem ints_filter (pr : Nat → Bool) (l : List Nat) (q : D → Bool) (h : ∀ a ∈ l, q (.int (a : Int)) = pr a) : (intsN l).filter q = intsN (l.filter pr) := by
  induction l with
  | nil => rfl
  | cons x xs ih =>
    have i := ih fun a ha => h a (by simp [ha])
    have hx := h x (by simp)
    unfold intsN at i ⊢
    simp only [List.map_cons, List.filter_cons, hx]
    split
    · simp [i]
    · exact i
def natD : D → Nat
  | .int i => i.toNat
  | _ => 0
theorem natD_int (a : Nat) : natD (.int (a : Int)) = a := by simp [natD]
theorem e_atoms_where {d n : Nat} {t : Int} {c : C} (h1 : 1 ≤ d) (h3 : d ≤ 3) (ho : c.ok d = true) (hd : c.dep ≤ n) : m_atoms_where n [W d t, c.enc] none = some (.l (intsN ((AT d).filter fun a => c.ev a)), none) := by
  have ha := e_atoms_of (t := t) h1 h3
  have hl : (intsN (AT d)).length ≤ 16777216 := by rw [len_intsN]; have := AT_len h3; omega
  have hh : ∀ a : Nat, m_holds n [c.enc, .int a] none = some (.d (.bool (c.ev a)), none) := fun a => e_holds n c (ok_mono h3 c ho) hd
  have z := Ru.lc_pure (t := E.tN 2) (c := E.toB (E.call (m_holds n) (E.cons (E.v 1) (E.cons (E.v 2) E.nil)))) (f := E.v 2) (r := [.d (W d t), .d c.enc, .un]) (p := none) (fun x => c.ev (natD x)) id (intsN (AT d)) [] fun x hx => by
    obtain ⟨a, _, rfl⟩ := List.mem_map.mp hx
    refine ⟨_, rfl, ?_, fun _ => ⟨.d (.int a), ?_, rfl⟩⟩
    · simp [-Option.bind_some, -Option.map_some, Ru.c_e, Ru.v_e, Ru.v_d, Ru.rv_e, Ru.rv_d, Ru.rv_l, Ru.nil_e, Ru.cons_e, Ru.cons_d, Ru.cons_l, Ru.cons_2, Ru.tup_e, Ru.tup_d, Ru.lst_e, Ru.lst_d, Ru.rd_e, Ru.rd_d, Ru.rd_l, Ru.op_e, Ru.op_1, Ru.op_2, Ru.op_3, Ru.un_e, Ru.un_1, Ru.isi_e, Ru.ite_e, Ru.ite_t, Ru.ite_f, Ru.ofB_e, Ru.ofB_1, Ru.toB_e, Ru.toB_1, Ru.and_e, Ru.and_t, Ru.and_f, Ru.or_e, Ru.or_t, Ru.or_f, Ru.not_e, Ru.not_1, Ru.px_e, Ru.px_1, Ru.px_2, Ru.oN_e, Ru.oS_e, Ru.oS_1, Ru.sl_e, Ru.sl_1, Ru.sl_2, Ru.sl_3, Ru.sl3_e, Ru.tl_1, Ru.tl_2, Ru.tl_3, Ru.tl_4, Ru.call_e, Ru.call_1, Ru.call_2, Ru.callP_e, Ru.callP_1, Ru.callP_2, Ru.chain_e, Ru.ch_1, Ru.ch_2, Ru.ch_t, Ru.ch_f, Ru.iL_e, Ru.iL_d, Ru.iL_l, Ru.iT_e, Ru.iT_d, Ru.iR1_e, Ru.iR1_1, Ru.lR_e, Ru.lR_1, Ru.tN_e, Ru.tT_2, Ru.yes_e, Ru.lc_e, Ru.lc_1, Ru.lc_2, Ru.seq_e, Ru.seq_nx, Ru.seq_rt, Ru.nop_e, Ru.set_e, Ru.set_d, Ru.set_l, Ru.setL_e, Ru.setL_l, Ru.ret_e, Ru.ret_1, Ru.retV_e, Ru.retV_l, Ru.retV_d, Ru.frz_e, Ru.frz_l, Ru.sIte_e, Ru.sIte_t, Ru.sIte_f, Ru.for_e, Ru.for_1, Ru.for_nil, Ru.for_cons, Ru.fK_1, Ru.fK_nx, Ru.fK_rt, Ru.append_e, Ru.append_1, Ru.append_d, Ru.append_l, Ru.extend_e, Ru.extend_1, Ru.extend_l, Ru.pop_e, Ru.pop_1, Ru.setIx_e, Ru.setIx_d, Ru.setP_e, Ru.setP_d, Ru.setP_1, Ru.par_e, Ru.par_1, Ru.stup_e, Ru.stup_d, Ru.wK_t, Ru.wK_f, Ru.wK_nx, Ru.wK_rt, Ru.runB_f, Ru.runB_t, Ru.rb_f, Ru.rb_t, Ru.rb_n, Ru.lt_i, Ru.le_i, Ru.gt_i, Ru.ge_i, Ru.sub_i, Ru.add_i, Ru.add_s, Ru.add_t, Ru.add_l, Ru.mul_i, Ru.div_i, Ru.mod_i, Ru.neg_i, Ru.is_n, Ru.isNot_n, Ru.non_n, Ru.non_i, Ru.non_b, Ru.non_s, Ru.non_l, Ru.non_t, Ru.len_l, Ru.len_t, Ru.len_s, Ru.list_l, Ru.list_t, Ru.tuple_l, Ru.tuple_t, Ru.int_i, Ru.gsl_l, Ru.gsl_t, Ru.gsl_s, Ru.eq_s, Ru.eq_i, Ru.eq_b, Ru.ne_b, Ru.ne_s, Ru.ne_i, Ru.in_2, Ru.atI_0, Ru.atI_1, Ru.atI_2, Ru.ix_t, Ru.ix_l, Ru.cut_1, E.wipeS, Ru.bind_some, Option.bind_none, Ru.map_some, Option.map_none, List.getElem?_cons_zero, List.getElem?_cons_succ, List.set_cons_zero, List.set_cons_succ, List.length_cons, List.length_nil, List.map_cons, List.map_nil, List.replicate, List.cons_append, List.nil_append, hh, natD_int]
    · simp [-Option.bind_some, -Option.map_some, Ru.c_e, Ru.v_e, Ru.v_d, Ru.rv_e, Ru.rv_d, Ru.rv_l, Ru.nil_e, Ru.cons_e, Ru.cons_d, Ru.cons_l, Ru.cons_2, Ru.tup_e, Ru.tup_d, Ru.lst_e, Ru.lst_d, Ru.rd_e, Ru.rd_d, Ru.rd_l, Ru.op_e, Ru.op_1, Ru.op_2, Ru.op_3, Ru.un_e, Ru.un_1, Ru.isi_e, Ru.ite_e, Ru.ite_t, Ru.ite_f, Ru.ofB_e, Ru.ofB_1, Ru.toB_e, Ru.toB_1, Ru.and_e, Ru.and_t, Ru.and_f, Ru.or_e, Ru.or_t, Ru.or_f, Ru.not_e, Ru.not_1, Ru.px_e, Ru.px_1, Ru.px_2, Ru.oN_e, Ru.oS_e, Ru.oS_1, Ru.sl_e, Ru.sl_1, Ru.sl_2, Ru.sl_3, Ru.sl3_e, Ru.tl_1, Ru.tl_2, Ru.tl_3, Ru.tl_4, Ru.call_e, Ru.call_1, Ru.call_2, Ru.callP_e, Ru.callP_1, Ru.callP_2, Ru.chain_e, Ru.ch_1, Ru.ch_2, Ru.ch_t, Ru.ch_f, Ru.iL_e, Ru.iL_d, Ru.iL_l, Ru.iT_e, Ru.iT_d, Ru.iR1_e, Ru.iR1_1, Ru.lR_e, Ru.lR_1, Ru.tN_e, Ru.tT_2, Ru.yes_e, Ru.lc_e, Ru.lc_1, Ru.lc_2, Ru.seq_e, Ru.seq_nx, Ru.seq_rt, Ru.nop_e, Ru.set_e, Ru.set_d, Ru.set_l, Ru.setL_e, Ru.setL_l, Ru.ret_e, Ru.ret_1, Ru.retV_e, Ru.retV_l, Ru.retV_d, Ru.frz_e, Ru.frz_l, Ru.sIte_e, Ru.sIte_t, Ru.sIte_f, Ru.for_e, Ru.for_1, Ru.for_nil, Ru.for_cons, Ru.fK_1, Ru.fK_nx, Ru.fK_rt, Ru.append_e, Ru.append_1, Ru.append_d, Ru.append_l, Ru.extend_e, Ru.extend_1, Ru.extend_l, Ru.pop_e, Ru.pop_1, Ru.setIx_e, Ru.setIx_d, Ru.setP_e, Ru.setP_d, Ru.setP_1, Ru.par_e, Ru.par_1, Ru.stup_e, Ru.stup_d, Ru.wK_t, Ru.wK_f, Ru.wK_nx, Ru.wK_rt, Ru.runB_f, Ru.runB_t, Ru.rb_f, Ru.rb_t, Ru.rb_n, Ru.lt_i, Ru.le_i, Ru.gt_i, Ru.ge_i, Ru.sub_i, Ru.add_i, Ru.add_s, Ru.add_t, Ru.add_l, Ru.mul_i, Ru.div_i, Ru.mod_i, Ru.neg_i, Ru.is_n, Ru.isNot_n, Ru.non_n, Ru.non_i, Ru.non_b, Ru.non_s, Ru.non_l, Ru.non_t, Ru.len_l, Ru.len_t, Ru.len_s, Ru.list_l, Ru.list_t, Ru.tuple_l, Ru.tuple_t, Ru.int_i, Ru.gsl_l, Ru.gsl_t, Ru.gsl_s, Ru.eq_s, Ru.eq_i, Ru.eq_b, Ru.ne_b, Ru.ne_s, Ru.ne_i, Ru.in_2, Ru.atI_0, Ru.atI_1, Ru.atI_2, Ru.ix_t, Ru.ix_l, Ru.cut_1, E.wipeS, Ru.bind_some, Option.bind_none, Ru.map_some, Option.map_none, List.getElem?_cons_zero, List.getElem?_cons_succ, List.set_cons_zero, List.set_cons_succ, List.length_cons, List.length_nil, List.map_cons, List.map_nil, List.replicate, List.cons_append, List.nil_append]
  rw [List.map_id, List.nil_append, ints_filter (fun a => c.ev a) _ _ (fun a _ => by simp [natD_int])] at z
  simp [m_atoms_where, b_atoms_where, -Option.bind_some, -Option.map_some, Ru.c_e, Ru.v_e, Ru.v_d, Ru.rv_e, Ru.rv_d, Ru.rv_l, Ru.nil_e, Ru.cons_e, Ru.cons_d, Ru.cons_l, Ru.cons_2, Ru.tup_e, Ru.tup_d, Ru.lst_e, Ru.lst_d, Ru.rd_e, Ru.rd_d, Ru.rd_l, Ru.op_e, Ru.op_1, Ru.op_2, Ru.op_3, Ru.un_e, Ru.un_1, Ru.isi_e, Ru.ite_e, Ru.ite_t, Ru.ite_f, Ru.ofB_e, Ru.ofB_1, Ru.toB_e, Ru.toB_1, Ru.and_e, Ru.and_t, Ru.and_f, Ru.or_e, Ru.or_t, Ru.or_f, Ru.not_e, Ru.not_1, Ru.px_e, Ru.px_1, Ru.px_2, Ru.oN_e, Ru.oS_e, Ru.oS_1, Ru.sl_e, Ru.sl_1, Ru.sl_2, Ru.sl_3, Ru.sl3_e, Ru.tl_1, Ru.tl_2, Ru.tl_3, Ru.tl_4, Ru.call_e, Ru.call_1, Ru.call_2, Ru.callP_e, Ru.callP_1, Ru.callP_2, Ru.chain_e, Ru.ch_1, Ru.ch_2, Ru.ch_t, Ru.ch_f, Ru.iL_e, Ru.iL_d, Ru.iL_l, Ru.iT_e, Ru.iT_d, Ru.iR1_e, Ru.iR1_1, Ru.lR_e, Ru.lR_1, Ru.tN_e, Ru.tT_2, Ru.yes_e, Ru.lc_e, Ru.lc_1, Ru.lc_2, Ru.seq_e, Ru.seq_nx, Ru.seq_rt, Ru.nop_e, Ru.set_e, Ru.set_d, Ru.set_l, Ru.setL_e, Ru.setL_l, Ru.ret_e, Ru.ret_1, Ru.retV_e, Ru.retV_l, Ru.retV_d, Ru.frz_e, Ru.frz_l, Ru.sIte_e, Ru.sIte_t, Ru.sIte_f, Ru.for_e, Ru.for_1, Ru.for_nil, Ru.for_cons, Ru.fK_1, Ru.fK_nx, Ru.fK_rt, Ru.append_e, Ru.append_1, Ru.append_d, Ru.append_l, Ru.extend_e, Ru.extend_1, Ru.extend_l, Ru.pop_e, Ru.pop_1, Ru.setIx_e, Ru.setIx_d, Ru.setP_e, Ru.setP_d, Ru.setP_1, Ru.par_e, Ru.par_1, Ru.stup_e, Ru.stup_d, Ru.wK_t, Ru.wK_f, Ru.wK_nx, Ru.wK_rt, Ru.runB_f, Ru.runB_t, Ru.rb_f, Ru.rb_t, Ru.rb_n, Ru.lt_i, Ru.le_i, Ru.gt_i, Ru.ge_i, Ru.sub_i, Ru.add_i, Ru.add_s, Ru.add_t, Ru.add_l, Ru.mul_i, Ru.div_i, Ru.mod_i, Ru.neg_i, Ru.is_n, Ru.isNot_n, Ru.non_n, Ru.non_i, Ru.non_b, Ru.non_s, Ru.non_l, Ru.non_t, Ru.len_l, Ru.len_t, Ru.len_s, Ru.list_l, Ru.list_t, Ru.tuple_l, Ru.tuple_t, Ru.int_i, Ru.gsl_l, Ru.gsl_t, Ru.gsl_s, Ru.eq_s, Ru.eq_i, Ru.eq_b, Ru.ne_b, Ru.ne_s, Ru.ne_i, Ru.in_2, Ru.atI_0, Ru.atI_1, Ru.atI_2, Ru.ix_t, Ru.ix_l, Ru.cut_1, E.wipeS, Ru.bind_some, Option.bind_none, Ru.map_some, Option.map_none, List.getElem?_cons_zero, List.getElem?_cons_succ, List.set_cons_zero, List.set_cons_succ, List.length_cons, List.length_nil, List.map_cons, List.map_nil, List.replicate, List.cons_append, List.nil_append, ha, hl, z]
end K1

/-! deedsagain k01: conditions of atoms. -/
namespace K1
open PySem PySem.Spec L2 Dg
open Dg.Ru (isI isB isS isTu isLi isT_int isT_bool isT_str isT_list isT_tuple)
set_option maxHeartbeats 0
/-! ### joined -/
theorem back_bounds (n : Nat) : sliceBounds (some (-2)) none (some (-1)) (n + 1) = ((n : Int) - 1, -1, -1) := by
  simp only [sliceBounds, Option.getD_some]
  rw [if_neg (by decide), if_pos (by decide)]
  refine Prod.ext ?_ rfl
  show max (-1) (min (-2 + ((n + 1 : Nat) : Int)) (((n + 1 : Nat) : Int) - 1)) = (n : Int) - 1
  omega
theorem all_of {α : Type} (xs ys : List α) : (List.range xs.length).filterMap ((xs ++ ys)[·]?) = xs := by
  induction xs with
  | nil => rfl
  | cons x xs ih =>
    rw [List.length_cons, List.range_succ_eq_map, List.filterMap_cons, List.filterMap_map]
    simp only [List.cons_append, List.getElem?_cons_zero]
    congr 1
theorem pick_back {α : Type} (xs : List α) (z : α) : E.pick3 (xs ++ [z]) (some (-2)) none (some (-1)) = xs.reverse := by
  unfold E.pick3
  rw [List.length_append, List.length_singleton, back_bounds]
  simp only
  rw [PySem.W.krv_sliceRange, PySem.W.krv_range, List.filterMap_reverse, all_of]
theorem atI_last {α : Type} (xs : List α) (z : α) : atI (xs ++ [z]) (-1) = some z := by
  have h : ixN (xs ++ [z]).length (-1) = some xs.length := by
    unfold ixN
    rw [if_neg (by decide), List.length_append, List.length_singleton, if_pos (by omega)]
    congr 1
    omega
  unfold atI
  rw [h]
  simp
def m_joined : MF := runB 4 false 2 b_joined
theorem join_for {nm ls : D} : ∀ (ys : List D) (acc : D) (s3 : Sl), ∃ s3', S.forL (E.tN 3) f1_joined ys ⟨[.d nm, .d ls, .d acc, s3], none⟩ = some (.nx ⟨[.d nm, .d ls, .d (ys.foldl (fun acc item => .tuple [nm, item, acc]) acc), s3'], none⟩)
  | [], acc, s3 => ⟨s3, by simp [-Option.bind_some, -Option.map_some, Ru.c_e, Ru.v_e, Ru.v_d, Ru.rv_e, Ru.rv_d, Ru.rv_l, Ru.nil_e, Ru.cons_e, Ru.cons_d, Ru.cons_l, Ru.cons_2, Ru.tup_e, Ru.tup_d, Ru.lst_e, Ru.lst_d, Ru.rd_e, Ru.rd_d, Ru.rd_l, Ru.op_e, Ru.op_1, Ru.op_2, Ru.op_3, Ru.un_e, Ru.un_1, Ru.isi_e, Ru.ite_e, Ru.ite_t, Ru.ite_f, Ru.ofB_e, Ru.ofB_1, Ru.toB_e, Ru.toB_1, Ru.and_e, Ru.and_t, Ru.and_f, Ru.or_e, Ru.or_t, Ru.or_f, Ru.not_e, Ru.not_1, Ru.px_e, Ru.px_1, Ru.px_2, Ru.oN_e, Ru.oS_e, Ru.oS_1, Ru.sl_e, Ru.sl_1, Ru.sl_2, Ru.sl_3, Ru.sl3_e, Ru.tl_1, Ru.tl_2, Ru.tl_3, Ru.tl_4, Ru.call_e, Ru.call_1, Ru.call_2, Ru.callP_e, Ru.callP_1, Ru.callP_2, Ru.chain_e, Ru.ch_1, Ru.ch_2, Ru.ch_t, Ru.ch_f, Ru.iL_e, Ru.iL_d, Ru.iL_l, Ru.iT_e, Ru.iT_d, Ru.iR1_e, Ru.iR1_1, Ru.lR_e, Ru.lR_1, Ru.tN_e, Ru.tT_2, Ru.yes_e, Ru.lc_e, Ru.lc_1, Ru.lc_2, Ru.seq_e, Ru.seq_nx, Ru.seq_rt, Ru.nop_e, Ru.set_e, Ru.set_d, Ru.set_l, Ru.setL_e, Ru.setL_l, Ru.ret_e, Ru.ret_1, Ru.retV_e, Ru.retV_l, Ru.retV_d, Ru.frz_e, Ru.frz_l, Ru.sIte_e, Ru.sIte_t, Ru.sIte_f, Ru.for_e, Ru.for_1, Ru.for_nil, Ru.for_cons, Ru.fK_1, Ru.fK_nx, Ru.fK_rt, Ru.append_e, Ru.append_1, Ru.append_d, Ru.append_l, Ru.extend_e, Ru.extend_1, Ru.extend_l, Ru.pop_e, Ru.pop_1, Ru.setIx_e, Ru.setIx_d, Ru.setP_e, Ru.setP_d, Ru.setP_1, Ru.par_e, Ru.par_1, Ru.stup_e, Ru.stup_d, Ru.wK_t, Ru.wK_f, Ru.wK_nx, Ru.wK_rt, Ru.runB_f, Ru.runB_t, Ru.rb_f, Ru.rb_t, Ru.rb_n, Ru.lt_i, Ru.le_i, Ru.gt_i, Ru.ge_i, Ru.sub_i, Ru.add_i, Ru.add_s, Ru.add_t, Ru.add_l, Ru.mul_i, Ru.div_i, Ru.mod_i, Ru.neg_i, Ru.is_n, Ru.isNot_n, Ru.non_n, Ru.non_i, Ru.non_b, Ru.non_s, Ru.non_l, Ru.non_t, Ru.len_l, Ru.len_t, Ru.len_s, Ru.list_l, Ru.list_t, Ru.tuple_l, Ru.tuple_t, Ru.int_i, Ru.gsl_l, Ru.gsl_t, Ru.gsl_s, Ru.eq_s, Ru.eq_i, Ru.eq_b, Ru.ne_b, Ru.ne_s, Ru.ne_i, Ru.in_2, Ru.atI_0, Ru.atI_1, Ru.atI_2, Ru.ix_t, Ru.ix_l, Ru.cut_1, E.wipeS, Ru.bind_some, Option.bind_none, Ru.map_some, Option.map_none, List.getElem?_cons_zero, List.getElem?_cons_succ, List.set_cons_zero, List.set_cons_succ, List.length_cons, List.length_nil, List.map_cons, List.map_nil, List.replicate, List.cons_append, List.nil_append]⟩
  | y :: ys, acc, s3 => by
    obtain ⟨s3', ih⟩ := join_for ys (.tuple [nm, y, acc]) (.d y)
    refine ⟨s3', ?_⟩
    simp [-Option.bind_some, -Option.map_some, Ru.c_e, Ru.v_e, Ru.v_d, Ru.rv_e, Ru.rv_d, Ru.rv_l, Ru.nil_e, Ru.cons_e, Ru.cons_d, Ru.cons_l, Ru.cons_2, Ru.tup_e, Ru.tup_d, Ru.lst_e, Ru.lst_d, Ru.rd_e, Ru.rd_d, Ru.rd_l, Ru.op_e, Ru.op_1, Ru.op_2, Ru.op_3, Ru.un_e, Ru.un_1, Ru.isi_e, Ru.ite_e, Ru.ite_t, Ru.ite_f, Ru.ofB_e, Ru.ofB_1, Ru.toB_e, Ru.toB_1, Ru.and_e, Ru.and_t, Ru.and_f, Ru.or_e, Ru.or_t, Ru.or_f, Ru.not_e, Ru.not_1, Ru.px_e, Ru.px_1, Ru.px_2, Ru.oN_e, Ru.oS_e, Ru.oS_1, Ru.sl_e, Ru.sl_1, Ru.sl_2, Ru.sl_3, Ru.sl3_e, Ru.tl_1, Ru.tl_2, Ru.tl_3, Ru.tl_4, Ru.call_e, Ru.call_1, Ru.call_2, Ru.callP_e, Ru.callP_1, Ru.callP_2, Ru.chain_e, Ru.ch_1, Ru.ch_2, Ru.ch_t, Ru.ch_f, Ru.iL_e, Ru.iL_d, Ru.iL_l, Ru.iT_e, Ru.iT_d, Ru.iR1_e, Ru.iR1_1, Ru.lR_e, Ru.lR_1, Ru.tN_e, Ru.tT_2, Ru.yes_e, Ru.lc_e, Ru.lc_1, Ru.lc_2, Ru.seq_e, Ru.seq_nx, Ru.seq_rt, Ru.nop_e, Ru.set_e, Ru.set_d, Ru.set_l, Ru.setL_e, Ru.setL_l, Ru.ret_e, Ru.ret_1, Ru.retV_e, Ru.retV_l, Ru.retV_d, Ru.frz_e, Ru.frz_l, Ru.sIte_e, Ru.sIte_t, Ru.sIte_f, Ru.for_e, Ru.for_1, Ru.for_nil, Ru.for_cons, Ru.fK_1, Ru.fK_nx, Ru.fK_rt, Ru.append_e, Ru.append_1, Ru.append_d, Ru.append_l, Ru.extend_e, Ru.extend_1, Ru.extend_l, Ru.pop_e, Ru.pop_1, Ru.setIx_e, Ru.setIx_d, Ru.setP_e, Ru.setP_d, Ru.setP_1, Ru.par_e, Ru.par_1, Ru.stup_e, Ru.stup_d, Ru.wK_t, Ru.wK_f, Ru.wK_nx, Ru.wK_rt, Ru.runB_f, Ru.runB_t, Ru.rb_f, Ru.rb_t, Ru.rb_n, Ru.lt_i, Ru.le_i, Ru.gt_i, Ru.ge_i, Ru.sub_i, Ru.add_i, Ru.add_s, Ru.add_t, Ru.add_l, Ru.mul_i, Ru.div_i, Ru.mod_i, Ru.neg_i, Ru.is_n, Ru.isNot_n, Ru.non_n, Ru.non_i, Ru.non_b, Ru.non_s, Ru.non_l, Ru.non_t, Ru.len_l, Ru.len_t, Ru.len_s, Ru.list_l, Ru.list_t, Ru.tuple_l, Ru.tuple_t, Ru.int_i, Ru.gsl_l, Ru.gsl_t, Ru.gsl_s, Ru.eq_s, Ru.eq_i, Ru.eq_b, Ru.ne_b, Ru.ne_s, Ru.ne_i, Ru.in_2, Ru.atI_0, Ru.atI_1, Ru.atI_2, Ru.ix_t, Ru.ix_l, Ru.cut_1, E.wipeS, Ru.bind_some, Option.bind_none, Ru.map_some, Option.map_none, List.getElem?_cons_zero, List.getElem?_cons_succ, List.set_cons_zero, List.set_cons_succ, List.length_cons, List.length_nil, List.map_cons, List.map_nil, List.replicate, List.cons_append, List.nil_append, f1_joined] at ih ⊢
    exact ih
theorem e_joined {nm : Str} {xs : List D} {z : D} (hl : xs.length ≤ 1000) : m_joined [.str nm, .list (xs ++ [z])] none = some (.d (xs.foldr (fun item acc => .tuple [.str nm, item, acc]) z), none) := by
  obtain ⟨s3', h⟩ := join_for (nm := .str nm) (ls := .list (xs ++ [z])) xs.reverse z .un
  rw [List.foldl_reverse] at h
  have hg : E.gSl3 (.list (xs ++ [z])) (some (-2)) none (some (-1)) = some (.l xs.reverse) := by
    simp only [E.gSl3]
    rw [pick_back, if_pos ⟨by rw [List.length_reverse, sizeLine_eq]; omega, by simp⟩]
  simp [m_joined, b_joined, -Option.bind_some, -Option.map_some, Ru.c_e, Ru.v_e, Ru.v_d, Ru.rv_e, Ru.rv_d, Ru.rv_l, Ru.nil_e, Ru.cons_e, Ru.cons_d, Ru.cons_l, Ru.cons_2, Ru.tup_e, Ru.tup_d, Ru.lst_e, Ru.lst_d, Ru.rd_e, Ru.rd_d, Ru.rd_l, Ru.op_e, Ru.op_1, Ru.op_2, Ru.op_3, Ru.un_e, Ru.un_1, Ru.isi_e, Ru.ite_e, Ru.ite_t, Ru.ite_f, Ru.ofB_e, Ru.ofB_1, Ru.toB_e, Ru.toB_1, Ru.and_e, Ru.and_t, Ru.and_f, Ru.or_e, Ru.or_t, Ru.or_f, Ru.not_e, Ru.not_1, Ru.px_e, Ru.px_1, Ru.px_2, Ru.oN_e, Ru.oS_e, Ru.oS_1, Ru.sl_e, Ru.sl_1, Ru.sl_2, Ru.sl_3, Ru.sl3_e, Ru.tl_1, Ru.tl_2, Ru.tl_3, Ru.tl_4, Ru.call_e, Ru.call_1, Ru.call_2, Ru.callP_e, Ru.callP_1, Ru.callP_2, Ru.chain_e, Ru.ch_1, Ru.ch_2, Ru.ch_t, Ru.ch_f, Ru.iL_e, Ru.iL_d, Ru.iL_l, Ru.iT_e, Ru.iT_d, Ru.iR1_e, Ru.iR1_1, Ru.lR_e, Ru.lR_1, Ru.tN_e, Ru.tT_2, Ru.yes_e, Ru.lc_e, Ru.lc_1, Ru.lc_2, Ru.seq_e, Ru.seq_nx, Ru.seq_rt, Ru.nop_e, Ru.set_e, Ru.set_d, Ru.set_l, Ru.setL_e, Ru.setL_l, Ru.ret_e, Ru.ret_1, Ru.retV_e, Ru.retV_l, Ru.retV_d, Ru.frz_e, Ru.frz_l, Ru.sIte_e, Ru.sIte_t, Ru.sIte_f, Ru.for_e, Ru.for_1, Ru.for_nil, Ru.for_cons, Ru.fK_1, Ru.fK_nx, Ru.fK_rt, Ru.append_e, Ru.append_1, Ru.append_d, Ru.append_l, Ru.extend_e, Ru.extend_1, Ru.extend_l, Ru.pop_e, Ru.pop_1, Ru.setIx_e, Ru.setIx_d, Ru.setP_e, Ru.setP_d, Ru.setP_1, Ru.par_e, Ru.par_1, Ru.stup_e, Ru.stup_d, Ru.wK_t, Ru.wK_f, Ru.wK_nx, Ru.wK_rt, Ru.runB_f, Ru.runB_t, Ru.rb_f, Ru.rb_t, Ru.rb_n, Ru.lt_i, Ru.le_i, Ru.gt_i, Ru.ge_i, Ru.sub_i, Ru.add_i, Ru.add_s, Ru.add_t, Ru.add_l, Ru.mul_i, Ru.div_i, Ru.mod_i, Ru.neg_i, Ru.is_n, Ru.isNot_n, Ru.non_n, Ru.non_i, Ru.non_b, Ru.non_s, Ru.non_l, Ru.non_t, Ru.len_l, Ru.len_t, Ru.len_s, Ru.list_l, Ru.list_t, Ru.tuple_l, Ru.tuple_t, Ru.int_i, Ru.gsl_l, Ru.gsl_t, Ru.gsl_s, Ru.eq_s, Ru.eq_i, Ru.eq_b, Ru.ne_b, Ru.ne_s, Ru.ne_i, Ru.in_2, Ru.atI_0, Ru.atI_1, Ru.atI_2, Ru.ix_t, Ru.ix_l, Ru.cut_1, E.wipeS, Ru.bind_some, Option.bind_none, Ru.map_some, Option.map_none, List.getElem?_cons_zero, List.getElem?_cons_succ, List.set_cons_zero, List.set_cons_succ, List.length_cons, List.length_nil, List.map_cons, List.map_nil, List.replicate, List.cons_append, List.nil_append, atI_last, hg, h]
/-- cs joined by op, from the left -/
def joinC (op : C → C → C) : List C → C
  | [] => .no
  | [c] => c
  | c :: d :: r => op c (joinC op (d :: r))
theorem joinC_snoc (op : C → C → C) : ∀ (cs : List C) (c : C), joinC op (cs ++ [c]) = cs.foldr op c
  | [], c => rfl
  | [a], c => rfl
  | a :: b :: r, c => by
    have ih := joinC_snoc op (b :: r) c
    show op a (joinC op ((b :: r) ++ [c])) = _
    rw [ih]
    rfl
theorem e_join (nm : Str) (op : C → C → C) (hop : ∀ a b, (op a b).enc = .tuple [.str nm, a.enc, b.enc]) (cs : List C) (h0 : cs ≠ []) (hl : cs.length ≤ 100) : m_joined [.str nm, .list (cs.map C.enc)] none = some (.d (joinC op cs).enc, none) := by
  rcases List.eq_nil_or_concat cs with rfl | ⟨as, c, rfl⟩
  · exact absurd rfl h0
  · rw [List.concat_eq_append] at *
    rw [List.map_append, List.map_cons, List.map_nil, e_joined (by simp at hl ⊢; omega), joinC_snoc]
    congr 3
    clear hl h0
    induction as with
    | nil => rfl
    | cons a as ih => rw [List.map_cons, List.foldr_cons, List.foldr_cons, ih, hop]
theorem join_ok {d : Nat} (op : C → C → C) (hop : ∀ a b, (op a b).ok d = (a.ok d && b.ok d)) : ∀ cs : List C, (∀ c ∈ cs, c.ok d = true) → (joinC op cs).ok d = true
  | [], _ => rfl
  | [c], h => h c (by simp)
  | a :: b :: r, h => by
    have ih := join_ok op hop (b :: r) fun c hc => h c (by simp [hc])
    show (op a (joinC op (b :: r))).ok d = true
    rw [hop, ih, h a (by simp)]
    rfl
theorem join_dep {m : Nat} (op : C → C → C) (hop : ∀ a b, (op a b).dep = max a.dep b.dep + 1) : ∀ cs : List C, (∀ c ∈ cs, c.dep ≤ m) → (joinC op cs).dep ≤ m + cs.length + 1
  | [], _ => by simp [joinC, C.dep]
  | [c], h => by have := h c (by simp); simp [joinC]; omega
  | a :: b :: r, h => by
    have ih := join_dep op hop (b :: r) fun c hc => h c (by simp [hc])
    show (op a (joinC op (b :: r))).dep ≤ _
    rw [hop]
    have := h a (by simp)
    simp only [List.length_cons] at ih ⊢
    omega
theorem and_ev (a : Nat) : ∀ cs : List C, cs ≠ [] → (joinC .and cs).ev a = cs.all fun c => c.ev a
  | [], h => absurd rfl h
  | [c], _ => by simp [joinC]
  | x :: y :: r, _ => by
    have ih := and_ev a (y :: r) (by simp)
    show ((x.ev a && (joinC .and (y :: r)).ev a)) = _
    rw [ih]
    rfl
theorem or_ev (a : Nat) : ∀ cs : List C, cs ≠ [] → (joinC .or cs).ev a = cs.any fun c => c.ev a
  | [], h => absurd rfl h
  | [c], _ => by simp [joinC]
  | x :: y :: r, _ => by
    have ih := or_ev a (y :: r) (by simp)
    show ((x.ev a || (joinC .or (y :: r)).ev a)) = _
    rw [ih]
    rfl
/-! ### atom_condition -/
def litC (i a : Nat) : C := if bit i a then .test i else .neg (.test i)
def atC (d a : Nat) : C := joinC .and ((List.range d).map fun i => litC i a)
def m_atom_condition (n : Nat) : MF := runB 4 false 2 (b_atom_condition m_joined (m_holds n))
theorem atom_body {n a i : Nat} {w : D} {xs : List C} {s3 : Sl} (hn : 2 ≤ n) (hi : i < 3) (hl : xs.length < 100) : f1_atom_condition m_joined (m_holds n) ⟨[.d w, .d (.int a), .l (xs.map C.enc), .d (.int (i : Int))], none⟩ =
    some (.nx ⟨[.d w, .d (.int a), .l ((xs ++ [litC i a]).map C.enc), .d (.int (i : Int))], none⟩) := by
  have h : m_holds n [.tuple [.str "test", .int (i : Int)], .int a] none = some (.d (.bool (bit i a)), none) := e_holds n (.test i) (by simp [C.ok, hi]) (by simp [C.dep]; omega)
  have hl' : (xs.map C.enc).length < 16777216 := by simp; omega
  rw [List.map_append]
  cases hb : bit i a <;> rw [hb] at h <;> simp [f1_atom_condition, -Option.bind_some, -Option.map_some, Ru.c_e, Ru.v_e, Ru.v_d, Ru.rv_e, Ru.rv_d, Ru.rv_l, Ru.nil_e, Ru.cons_e, Ru.cons_d, Ru.cons_l, Ru.cons_2, Ru.tup_e, Ru.tup_d, Ru.lst_e, Ru.lst_d, Ru.rd_e, Ru.rd_d, Ru.rd_l, Ru.op_e, Ru.op_1, Ru.op_2, Ru.op_3, Ru.un_e, Ru.un_1, Ru.isi_e, Ru.ite_e, Ru.ite_t, Ru.ite_f, Ru.ofB_e, Ru.ofB_1, Ru.toB_e, Ru.toB_1, Ru.and_e, Ru.and_t, Ru.and_f, Ru.or_e, Ru.or_t, Ru.or_f, Ru.not_e, Ru.not_1, Ru.px_e, Ru.px_1, Ru.px_2, Ru.oN_e, Ru.oS_e, Ru.oS_1, Ru.sl_e, Ru.sl_1, Ru.sl_2, Ru.sl_3, Ru.sl3_e, Ru.tl_1, Ru.tl_2, Ru.tl_3, Ru.tl_4, Ru.call_e, Ru.call_1, Ru.call_2, Ru.callP_e, Ru.callP_1, Ru.callP_2, Ru.chain_e, Ru.ch_1, Ru.ch_2, Ru.ch_t, Ru.ch_f, Ru.iL_e, Ru.iL_d, Ru.iL_l, Ru.iT_e, Ru.iT_d, Ru.iR1_e, Ru.iR1_1, Ru.lR_e, Ru.lR_1, Ru.tN_e, Ru.tT_2, Ru.yes_e, Ru.lc_e, Ru.lc_1, Ru.lc_2, Ru.seq_e, Ru.seq_nx, Ru.seq_rt, Ru.nop_e, Ru.set_e, Ru.set_d, Ru.set_l, Ru.setL_e, Ru.setL_l, Ru.ret_e, Ru.ret_1, Ru.retV_e, Ru.retV_l, Ru.retV_d, Ru.frz_e, Ru.frz_l, Ru.sIte_e, Ru.sIte_t, Ru.sIte_f, Ru.for_e, Ru.for_1, Ru.for_nil, Ru.for_cons, Ru.fK_1, Ru.fK_nx, Ru.fK_rt, Ru.append_e, Ru.append_1, Ru.append_d, Ru.append_l, Ru.extend_e, Ru.extend_1, Ru.extend_l, Ru.pop_e, Ru.pop_1, Ru.setIx_e, Ru.setIx_d, Ru.setP_e, Ru.setP_d, Ru.setP_1, Ru.par_e, Ru.par_1, Ru.stup_e, Ru.stup_d, Ru.wK_t, Ru.wK_f, Ru.wK_nx, Ru.wK_rt, Ru.runB_f, Ru.runB_t, Ru.rb_f, Ru.rb_t, Ru.rb_n, Ru.lt_i, Ru.le_i, Ru.gt_i, Ru.ge_i, Ru.sub_i, Ru.add_i, Ru.add_s, Ru.add_t, Ru.add_l, Ru.mul_i, Ru.div_i, Ru.mod_i, Ru.neg_i, Ru.is_n, Ru.isNot_n, Ru.non_n, Ru.non_i, Ru.non_b, Ru.non_s, Ru.non_l, Ru.non_t, Ru.len_l, Ru.len_t, Ru.len_s, Ru.list_l, Ru.list_t, Ru.tuple_l, Ru.tuple_t, Ru.int_i, Ru.gsl_l, Ru.gsl_t, Ru.gsl_s, Ru.eq_s, Ru.eq_i, Ru.eq_b, Ru.ne_b, Ru.ne_s, Ru.ne_i, Ru.in_2, Ru.atI_0, Ru.atI_1, Ru.atI_2, Ru.ix_t, Ru.ix_l, Ru.cut_1, E.wipeS, Ru.bind_some, Option.bind_none, Ru.map_some, Option.map_none, List.getElem?_cons_zero, List.getElem?_cons_succ, List.set_cons_zero, List.set_cons_succ, List.length_cons, List.length_nil, List.map_cons, List.map_nil, List.replicate, List.cons_append, List.nil_append, h, litC, hb, Ru.append_d hl', C.enc] <;> exact Ru.append_d hl'
theorem e_atom_condition {d n a : Nat} {t : Int} (h1 : 1 ≤ d) (h3 : d ≤ 3) (hn : 2 ≤ n) : m_atom_condition n [W d t, .int a] none = some (.d (atC d a).enc, none) := by
  have loop : ∀ (js : List Nat) (xs : List C) (s3 : Sl), (∀ j ∈ js, j < 3) → xs.length + js.length ≤ 50 → ∃ s3', S.forL (E.tN 3) (f1_atom_condition m_joined (m_holds n)) (intsN js) ⟨[.d (W d t), .d (.int a), .l (xs.map C.enc), s3], none⟩ =
      some (.nx ⟨[.d (W d t), .d (.int a), .l ((xs ++ js.map fun i => litC i a).map C.enc), s3'], none⟩) := by
    intro js
    induction js with
    | nil => intro xs s3 _ _; exact ⟨s3, by simp [intsN, -Option.bind_some, -Option.map_some, Ru.c_e, Ru.v_e, Ru.v_d, Ru.rv_e, Ru.rv_d, Ru.rv_l, Ru.nil_e, Ru.cons_e, Ru.cons_d, Ru.cons_l, Ru.cons_2, Ru.tup_e, Ru.tup_d, Ru.lst_e, Ru.lst_d, Ru.rd_e, Ru.rd_d, Ru.rd_l, Ru.op_e, Ru.op_1, Ru.op_2, Ru.op_3, Ru.un_e, Ru.un_1, Ru.isi_e, Ru.ite_e, Ru.ite_t, Ru.ite_f, Ru.ofB_e, Ru.ofB_1, Ru.toB_e, Ru.toB_1, Ru.and_e, Ru.and_t, Ru.and_f, Ru.or_e, Ru.or_t, Ru.or_f, Ru.not_e, Ru.not_1, Ru.px_e, Ru.px_1, Ru.px_2, Ru.oN_e, Ru.oS_e, Ru.oS_1, Ru.sl_e, Ru.sl_1, Ru.sl_2, Ru.sl_3, Ru.sl3_e, Ru.tl_1, Ru.tl_2, Ru.tl_3, Ru.tl_4, Ru.call_e, Ru.call_1, Ru.call_2, Ru.callP_e, Ru.callP_1, Ru.callP_2, Ru.chain_e, Ru.ch_1, Ru.ch_2, Ru.ch_t, Ru.ch_f, Ru.iL_e, Ru.iL_d, Ru.iL_l, Ru.iT_e, Ru.iT_d, Ru.iR1_e, Ru.iR1_1, Ru.lR_e, Ru.lR_1, Ru.tN_e, Ru.tT_2, Ru.yes_e, Ru.lc_e, Ru.lc_1, Ru.lc_2, Ru.seq_e, Ru.seq_nx, Ru.seq_rt, Ru.nop_e, Ru.set_e, Ru.set_d, Ru.set_l, Ru.setL_e, Ru.setL_l, Ru.ret_e, Ru.ret_1, Ru.retV_e, Ru.retV_l, Ru.retV_d, Ru.frz_e, Ru.frz_l, Ru.sIte_e, Ru.sIte_t, Ru.sIte_f, Ru.for_e, Ru.for_1, Ru.for_nil, Ru.for_cons, Ru.fK_1, Ru.fK_nx, Ru.fK_rt, Ru.append_e, Ru.append_1, Ru.append_d, Ru.append_l, Ru.extend_e, Ru.extend_1, Ru.extend_l, Ru.pop_e, Ru.pop_1, Ru.setIx_e, Ru.setIx_d, Ru.setP_e, Ru.setP_d, Ru.setP_1, Ru.par_e, Ru.par_1, Ru.stup_e, Ru.stup_d, Ru.wK_t, Ru.wK_f, Ru.wK_nx, Ru.wK_rt, Ru.runB_f, Ru.runB_t, Ru.rb_f, Ru.rb_t, Ru.rb_n, Ru.lt_i, Ru.le_i, Ru.gt_i, Ru.ge_i, Ru.sub_i, Ru.add_i, Ru.add_s, Ru.add_t, Ru.add_l, Ru.mul_i, Ru.div_i, Ru.mod_i, Ru.neg_i, Ru.is_n, Ru.isNot_n, Ru.non_n, Ru.non_i, Ru.non_b, Ru.non_s, Ru.non_l, Ru.non_t, Ru.len_l, Ru.len_t, Ru.len_s, Ru.list_l, Ru.list_t, Ru.tuple_l, Ru.tuple_t, Ru.int_i, Ru.gsl_l, Ru.gsl_t, Ru.gsl_s, Ru.eq_s, Ru.eq_i, Ru.eq_b, Ru.ne_b, Ru.ne_s, Ru.ne_i, Ru.in_2, Ru.atI_0, Ru.atI_1, Ru.atI_2, Ru.ix_t, Ru.ix_l, Ru.cut_1, E.wipeS, Ru.bind_some, Option.bind_none, Ru.map_some, Option.map_none, List.getElem?_cons_zero, List.getElem?_cons_succ, List.set_cons_zero, List.set_cons_succ, List.length_cons, List.length_nil, List.map_cons, List.map_nil, List.replicate, List.cons_append, List.nil_append]⟩
    | cons j js ih =>
      intro xs s3 hj hl
      simp only [List.length_cons] at hl
      obtain ⟨s3', z⟩ := ih (xs ++ [litC j a]) (.d (.int j)) (fun i hi => hj i (by simp [hi])) (by simp; omega)
      refine ⟨s3', ?_⟩
      have hb := atom_body (n := n) (a := a) (i := j) (w := W d t) (xs := xs) (s3 := s3) hn (hj j (by simp)) (by omega)
      show S.forL _ _ (.int (j : Int) :: intsN js) _ = _
      rw [Ru.for_cons]
      simp only [Ru.tN_e, Option.bind_some, Ru.fK_1, List.set_cons_succ, List.set_cons_zero, hb, Ru.fK_nx]
      rw [z]
      simp
  obtain ⟨s3', z⟩ := loop (List.range d) [] .un (fun j hj => by have := List.mem_range.mp hj; omega) (by simp; omega)
  simp only [List.nil_append, List.map_nil] at z
  have hj := e_join "and" .and (fun _ _ => rfl) ((List.range d).map fun i => litC i a) (by
    intro h
    have := congrArg List.length h
    simp at this
    omega) (by simp; omega)
  have hd0 : (0 : Int) ≤ d := by omega
  have hd1 : (d : Int) < 4611686018427387904 := by omega
  have hr : Ru.iR1K ([.int (d : Int)], none) = some (intsN (List.range d), none) := by
    rw [Ru.iR1_1 hd0 hd1, Int.toNat_natCast]
    rfl
  simp [m_atom_condition, b_atom_condition, -Option.bind_some, -Option.map_some, Ru.c_e, Ru.v_e, Ru.v_d, Ru.rv_e, Ru.rv_d, Ru.rv_l, Ru.nil_e, Ru.cons_e, Ru.cons_d, Ru.cons_l, Ru.cons_2, Ru.tup_e, Ru.tup_d, Ru.lst_e, Ru.lst_d, Ru.rd_e, Ru.rd_d, Ru.rd_l, Ru.op_e, Ru.op_1, Ru.op_2, Ru.op_3, Ru.un_e, Ru.un_1, Ru.isi_e, Ru.ite_e, Ru.ite_t, Ru.ite_f, Ru.ofB_e, Ru.ofB_1, Ru.toB_e, Ru.toB_1, Ru.and_e, Ru.and_t, Ru.and_f, Ru.or_e, Ru.or_t, Ru.or_f, Ru.not_e, Ru.not_1, Ru.px_e, Ru.px_1, Ru.px_2, Ru.oN_e, Ru.oS_e, Ru.oS_1, Ru.sl_e, Ru.sl_1, Ru.sl_2, Ru.sl_3, Ru.sl3_e, Ru.tl_1, Ru.tl_2, Ru.tl_3, Ru.tl_4, Ru.call_e, Ru.call_1, Ru.call_2, Ru.callP_e, Ru.callP_1, Ru.callP_2, Ru.chain_e, Ru.ch_1, Ru.ch_2, Ru.ch_t, Ru.ch_f, Ru.iL_e, Ru.iL_d, Ru.iL_l, Ru.iT_e, Ru.iT_d, Ru.iR1_e, Ru.iR1_1, Ru.lR_e, Ru.lR_1, Ru.tN_e, Ru.tT_2, Ru.yes_e, Ru.lc_e, Ru.lc_1, Ru.lc_2, Ru.seq_e, Ru.seq_nx, Ru.seq_rt, Ru.nop_e, Ru.set_e, Ru.set_d, Ru.set_l, Ru.setL_e, Ru.setL_l, Ru.ret_e, Ru.ret_1, Ru.retV_e, Ru.retV_l, Ru.retV_d, Ru.frz_e, Ru.frz_l, Ru.sIte_e, Ru.sIte_t, Ru.sIte_f, Ru.for_e, Ru.for_1, Ru.for_nil, Ru.for_cons, Ru.fK_1, Ru.fK_nx, Ru.fK_rt, Ru.append_e, Ru.append_1, Ru.append_d, Ru.append_l, Ru.extend_e, Ru.extend_1, Ru.extend_l, Ru.pop_e, Ru.pop_1, Ru.setIx_e, Ru.setIx_d, Ru.setP_e, Ru.setP_d, Ru.setP_1, Ru.par_e, Ru.par_1, Ru.stup_e, Ru.stup_d, Ru.wK_t, Ru.wK_f, Ru.wK_nx, Ru.wK_rt, Ru.runB_f, Ru.runB_t, Ru.rb_f, Ru.rb_t, Ru.rb_n, Ru.lt_i, Ru.le_i, Ru.gt_i, Ru.ge_i, Ru.sub_i, Ru.add_i, Ru.add_s, Ru.add_t, Ru.add_l, Ru.mul_i, Ru.div_i, Ru.mod_i, Ru.neg_i, Ru.is_n, Ru.isNot_n, Ru.non_n, Ru.non_i, Ru.non_b, Ru.non_s, Ru.non_l, Ru.non_t, Ru.len_l, Ru.len_t, Ru.len_s, Ru.list_l, Ru.list_t, Ru.tuple_l, Ru.tuple_t, Ru.int_i, Ru.gsl_l, Ru.gsl_t, Ru.gsl_s, Ru.eq_s, Ru.eq_i, Ru.eq_b, Ru.ne_b, Ru.ne_s, Ru.ne_i, Ru.in_2, Ru.atI_0, Ru.atI_1, Ru.atI_2, Ru.ix_t, Ru.ix_l, Ru.cut_1, E.wipeS, Ru.bind_some, Option.bind_none, Ru.map_some, Option.map_none, List.getElem?_cons_zero, List.getElem?_cons_succ, List.set_cons_zero, List.set_cons_succ, List.length_cons, List.length_nil, List.map_cons, List.map_nil, List.replicate, List.cons_append, List.nil_append, hr]
  rw [z]
  simp [-Option.bind_some, -Option.map_some, Ru.c_e, Ru.v_e, Ru.v_d, Ru.rv_e, Ru.rv_d, Ru.rv_l, Ru.nil_e, Ru.cons_e, Ru.cons_d, Ru.cons_l, Ru.cons_2, Ru.tup_e, Ru.tup_d, Ru.lst_e, Ru.lst_d, Ru.rd_e, Ru.rd_d, Ru.rd_l, Ru.op_e, Ru.op_1, Ru.op_2, Ru.op_3, Ru.un_e, Ru.un_1, Ru.isi_e, Ru.ite_e, Ru.ite_t, Ru.ite_f, Ru.ofB_e, Ru.ofB_1, Ru.toB_e, Ru.toB_1, Ru.and_e, Ru.and_t, Ru.and_f, Ru.or_e, Ru.or_t, Ru.or_f, Ru.not_e, Ru.not_1, Ru.px_e, Ru.px_1, Ru.px_2, Ru.oN_e, Ru.oS_e, Ru.oS_1, Ru.sl_e, Ru.sl_1, Ru.sl_2, Ru.sl_3, Ru.sl3_e, Ru.tl_1, Ru.tl_2, Ru.tl_3, Ru.tl_4, Ru.call_e, Ru.call_1, Ru.call_2, Ru.callP_e, Ru.callP_1, Ru.callP_2, Ru.chain_e, Ru.ch_1, Ru.ch_2, Ru.ch_t, Ru.ch_f, Ru.iL_e, Ru.iL_d, Ru.iL_l, Ru.iT_e, Ru.iT_d, Ru.iR1_e, Ru.iR1_1, Ru.lR_e, Ru.lR_1, Ru.tN_e, Ru.tT_2, Ru.yes_e, Ru.lc_e, Ru.lc_1, Ru.lc_2, Ru.seq_e, Ru.seq_nx, Ru.seq_rt, Ru.nop_e, Ru.set_e, Ru.set_d, Ru.set_l, Ru.setL_e, Ru.setL_l, Ru.ret_e, Ru.ret_1, Ru.retV_e, Ru.retV_l, Ru.retV_d, Ru.frz_e, Ru.frz_l, Ru.sIte_e, Ru.sIte_t, Ru.sIte_f, Ru.for_e, Ru.for_1, Ru.for_nil, Ru.for_cons, Ru.fK_1, Ru.fK_nx, Ru.fK_rt, Ru.append_e, Ru.append_1, Ru.append_d, Ru.append_l, Ru.extend_e, Ru.extend_1, Ru.extend_l, Ru.pop_e, Ru.pop_1, Ru.setIx_e, Ru.setIx_d, Ru.setP_e, Ru.setP_d, Ru.setP_1, Ru.par_e, Ru.par_1, Ru.stup_e, Ru.stup_d, Ru.wK_t, Ru.wK_f, Ru.wK_nx, Ru.wK_rt, Ru.runB_f, Ru.runB_t, Ru.rb_f, Ru.rb_t, Ru.rb_n, Ru.lt_i, Ru.le_i, Ru.gt_i, Ru.ge_i, Ru.sub_i, Ru.add_i, Ru.add_s, Ru.add_t, Ru.add_l, Ru.mul_i, Ru.div_i, Ru.mod_i, Ru.neg_i, Ru.is_n, Ru.isNot_n, Ru.non_n, Ru.non_i, Ru.non_b, Ru.non_s, Ru.non_l, Ru.non_t, Ru.len_l, Ru.len_t, Ru.len_s, Ru.list_l, Ru.list_t, Ru.tuple_l, Ru.tuple_t, Ru.int_i, Ru.gsl_l, Ru.gsl_t, Ru.gsl_s, Ru.eq_s, Ru.eq_i, Ru.eq_b, Ru.ne_b, Ru.ne_s, Ru.ne_i, Ru.in_2, Ru.atI_0, Ru.atI_1, Ru.atI_2, Ru.ix_t, Ru.ix_l, Ru.cut_1, E.wipeS, Ru.bind_some, Option.bind_none, Ru.map_some, Option.map_none, List.getElem?_cons_zero, List.getElem?_cons_succ, List.set_cons_zero, List.set_cons_succ, List.length_cons, List.length_nil, List.map_cons, List.map_nil, List.replicate, List.cons_append, List.nil_append]
  rw [List.map_map] at hj
  simp [hj, atC, -Option.bind_some, -Option.map_some, Ru.c_e, Ru.v_e, Ru.v_d, Ru.rv_e, Ru.rv_d, Ru.rv_l, Ru.nil_e, Ru.cons_e, Ru.cons_d, Ru.cons_l, Ru.cons_2, Ru.tup_e, Ru.tup_d, Ru.lst_e, Ru.lst_d, Ru.rd_e, Ru.rd_d, Ru.rd_l, Ru.op_e, Ru.op_1, Ru.op_2, Ru.op_3, Ru.un_e, Ru.un_1, Ru.isi_e, Ru.ite_e, Ru.ite_t, Ru.ite_f, Ru.ofB_e, Ru.ofB_1, Ru.toB_e, Ru.toB_1, Ru.and_e, Ru.and_t, Ru.and_f, Ru.or_e, Ru.or_t, Ru.or_f, Ru.not_e, Ru.not_1, Ru.px_e, Ru.px_1, Ru.px_2, Ru.oN_e, Ru.oS_e, Ru.oS_1, Ru.sl_e, Ru.sl_1, Ru.sl_2, Ru.sl_3, Ru.sl3_e, Ru.tl_1, Ru.tl_2, Ru.tl_3, Ru.tl_4, Ru.call_e, Ru.call_1, Ru.call_2, Ru.callP_e, Ru.callP_1, Ru.callP_2, Ru.chain_e, Ru.ch_1, Ru.ch_2, Ru.ch_t, Ru.ch_f, Ru.iL_e, Ru.iL_d, Ru.iL_l, Ru.iT_e, Ru.iT_d, Ru.iR1_e, Ru.iR1_1, Ru.lR_e, Ru.lR_1, Ru.tN_e, Ru.tT_2, Ru.yes_e, Ru.lc_e, Ru.lc_1, Ru.lc_2, Ru.seq_e, Ru.seq_nx, Ru.seq_rt, Ru.nop_e, Ru.set_e, Ru.set_d, Ru.set_l, Ru.setL_e, Ru.setL_l, Ru.ret_e, Ru.ret_1, Ru.retV_e, Ru.retV_l, Ru.retV_d, Ru.frz_e, Ru.frz_l, Ru.sIte_e, Ru.sIte_t, Ru.sIte_f, Ru.for_e, Ru.for_1, Ru.for_nil, Ru.for_cons, Ru.fK_1, Ru.fK_nx, Ru.fK_rt, Ru.append_e, Ru.append_1, Ru.append_d, Ru.append_l, Ru.extend_e, Ru.extend_1, Ru.extend_l, Ru.pop_e, Ru.pop_1, Ru.setIx_e, Ru.setIx_d, Ru.setP_e, Ru.setP_d, Ru.setP_1, Ru.par_e, Ru.par_1, Ru.stup_e, Ru.stup_d, Ru.wK_t, Ru.wK_f, Ru.wK_nx, Ru.wK_rt, Ru.runB_f, Ru.runB_t, Ru.rb_f, Ru.rb_t, Ru.rb_n, Ru.lt_i, Ru.le_i, Ru.gt_i, Ru.ge_i, Ru.sub_i, Ru.add_i, Ru.add_s, Ru.add_t, Ru.add_l, Ru.mul_i, Ru.div_i, Ru.mod_i, Ru.neg_i, Ru.is_n, Ru.isNot_n, Ru.non_n, Ru.non_i, Ru.non_b, Ru.non_s, Ru.non_l, Ru.non_t, Ru.len_l, Ru.len_t, Ru.len_s, Ru.list_l, Ru.list_t, Ru.tuple_l, Ru.tuple_t, Ru.int_i, Ru.gsl_l, Ru.gsl_t, Ru.gsl_s, Ru.eq_s, Ru.eq_i, Ru.eq_b, Ru.ne_b, Ru.ne_s, Ru.ne_i, Ru.in_2, Ru.atI_0, Ru.atI_1, Ru.atI_2, Ru.ix_t, Ru.ix_l, Ru.cut_1, E.wipeS, Ru.bind_some, Option.bind_none, Ru.map_some, Option.map_none, List.getElem?_cons_zero, List.getElem?_cons_succ, List.set_cons_zero, List.set_cons_succ, List.length_cons, List.length_nil, List.map_cons, List.map_nil, List.replicate, List.cons_append, List.nil_append]
theorem lit_ok {d i a : Nat} (h : i < d) : (litC i a).ok d = true := by
  unfold litC
  split <;> simp [C.ok, h]
theorem lit_dep {i a : Nat} : (litC i a).dep ≤ 2 := by
  unfold litC
  split <;> simp [C.dep]
theorem lit_ev {i a b : Nat} : (litC i a).ev b = (bit i a == bit i b) := by
  unfold litC
  cases h1 : bit i a <;> cases h2 : bit i b <;> simp [C.ev, h2]
theorem at_ok {d a : Nat} : (atC d a).ok d = true := join_ok _ (fun _ _ => rfl) _ fun c hc => by
  obtain ⟨i, hi, rfl⟩ := List.mem_map.mp hc
  exact lit_ok (List.mem_range.mp hi)
theorem at_dep {d a : Nat} (h3 : d ≤ 3) : (atC d a).dep ≤ 6 := by
  have := join_dep (m := 2) .and (fun _ _ => rfl) ((List.range d).map fun i => litC i a) fun c hc => by
    obtain ⟨i, hi, rfl⟩ := List.mem_map.mp hc
    exact lit_dep
  simp at this
  unfold atC
  omega
theorem at_ev {d a b : Nat} (h1 : 1 ≤ d) (h3 : d ≤ 3) (ha : a < 2 ^ d) (hb : b < 2 ^ d) : (atC d a).ev b = (a == b) := by
  unfold atC
  rw [and_ev _ _ (by
    intro h
    have := congrArg List.length h
    simp at this
    omega)]
  rw [List.all_map]
  have e : ((fun c : C => c.ev b) ∘ fun i => litC i a) = fun i => (bit i a == bit i b) := by
    funext i
    exact lit_ev
  rw [e]
  have key : ∀ d : Fin 4, 1 ≤ d.1 → ∀ a : Fin 8, ∀ b : Fin 8, a.1 < 2 ^ d.1 → b.1 < 2 ^ d.1 → ((List.range d.1).all fun i => (bit i a.1 == bit i b.1)) = (a.1 == b.1) := by decide +kernel
  have h8 : 2 ^ d ≤ 2 ^ 3 := Nat.pow_le_pow_right (by decide) h3
  exact key ⟨d, by omega⟩ h1 ⟨a, by omega⟩ ⟨b, by omega⟩ ha hb
/-! ### condition_of -/
def condC (d : Nat) (l : List Nat) : C := if l.length = 0 then .no else if l.length = 2 ^ d then .yes else joinC .or (l.map (atC d))
def m_condition_of (n : Nat) : MF := runB 4 false 2 (b_condition_of m_joined m_atoms_of (m_atom_condition n))
theorem e_condition_of {d n : Nat} {t : Int} {x : D} {l : List Nat} (h1 : 1 ≤ d) (h3 : d ≤ 3) (hn : 2 ≤ n) (hg : E.gSset x = some (.l (intsN l))) (hl : l.length ≤ 50) : m_condition_of n [W d t, x] none = some (.d (condC d l).enc, none) := by
  have ha := e_atoms_of (t := t) h1 h3
  have hA : (AT d).length = 2 ^ d := by simp [AT]
  by_cases c0 : l.length = 0
  · have e0 : ((l.length : Int) == 0) = true := by simp [c0]
    simp [m_condition_of, b_condition_of, -Option.bind_some, -Option.map_some, Ru.c_e, Ru.v_e, Ru.v_d, Ru.rv_e, Ru.rv_d, Ru.rv_l, Ru.nil_e, Ru.cons_e, Ru.cons_d, Ru.cons_l, Ru.cons_2, Ru.tup_e, Ru.tup_d, Ru.lst_e, Ru.lst_d, Ru.rd_e, Ru.rd_d, Ru.rd_l, Ru.op_e, Ru.op_1, Ru.op_2, Ru.op_3, Ru.un_e, Ru.un_1, Ru.isi_e, Ru.ite_e, Ru.ite_t, Ru.ite_f, Ru.ofB_e, Ru.ofB_1, Ru.toB_e, Ru.toB_1, Ru.and_e, Ru.and_t, Ru.and_f, Ru.or_e, Ru.or_t, Ru.or_f, Ru.not_e, Ru.not_1, Ru.px_e, Ru.px_1, Ru.px_2, Ru.oN_e, Ru.oS_e, Ru.oS_1, Ru.sl_e, Ru.sl_1, Ru.sl_2, Ru.sl_3, Ru.sl3_e, Ru.tl_1, Ru.tl_2, Ru.tl_3, Ru.tl_4, Ru.call_e, Ru.call_1, Ru.call_2, Ru.callP_e, Ru.callP_1, Ru.callP_2, Ru.chain_e, Ru.ch_1, Ru.ch_2, Ru.ch_t, Ru.ch_f, Ru.iL_e, Ru.iL_d, Ru.iL_l, Ru.iT_e, Ru.iT_d, Ru.iR1_e, Ru.iR1_1, Ru.lR_e, Ru.lR_1, Ru.tN_e, Ru.tT_2, Ru.yes_e, Ru.lc_e, Ru.lc_1, Ru.lc_2, Ru.seq_e, Ru.seq_nx, Ru.seq_rt, Ru.nop_e, Ru.set_e, Ru.set_d, Ru.set_l, Ru.setL_e, Ru.setL_l, Ru.ret_e, Ru.ret_1, Ru.retV_e, Ru.retV_l, Ru.retV_d, Ru.frz_e, Ru.frz_l, Ru.sIte_e, Ru.sIte_t, Ru.sIte_f, Ru.for_e, Ru.for_1, Ru.for_nil, Ru.for_cons, Ru.fK_1, Ru.fK_nx, Ru.fK_rt, Ru.append_e, Ru.append_1, Ru.append_d, Ru.append_l, Ru.extend_e, Ru.extend_1, Ru.extend_l, Ru.pop_e, Ru.pop_1, Ru.setIx_e, Ru.setIx_d, Ru.setP_e, Ru.setP_d, Ru.setP_1, Ru.par_e, Ru.par_1, Ru.stup_e, Ru.stup_d, Ru.wK_t, Ru.wK_f, Ru.wK_nx, Ru.wK_rt, Ru.runB_f, Ru.runB_t, Ru.rb_f, Ru.rb_t, Ru.rb_n, Ru.lt_i, Ru.le_i, Ru.gt_i, Ru.ge_i, Ru.sub_i, Ru.add_i, Ru.add_s, Ru.add_t, Ru.add_l, Ru.mul_i, Ru.div_i, Ru.mod_i, Ru.neg_i, Ru.is_n, Ru.isNot_n, Ru.non_n, Ru.non_i, Ru.non_b, Ru.non_s, Ru.non_l, Ru.non_t, Ru.len_l, Ru.len_t, Ru.len_s, Ru.list_l, Ru.list_t, Ru.tuple_l, Ru.tuple_t, Ru.int_i, Ru.gsl_l, Ru.gsl_t, Ru.gsl_s, Ru.eq_s, Ru.eq_i, Ru.eq_b, Ru.ne_b, Ru.ne_s, Ru.ne_i, Ru.in_2, Ru.atI_0, Ru.atI_1, Ru.atI_2, Ru.ix_t, Ru.ix_l, Ru.cut_1, E.wipeS, Ru.bind_some, Option.bind_none, Ru.map_some, Option.map_none, List.getElem?_cons_zero, List.getElem?_cons_succ, List.set_cons_zero, List.set_cons_succ, List.length_cons, List.length_nil, List.map_cons, List.map_nil, List.replicate, List.cons_append, List.nil_append, hg, len_intsN, e0, condC, c0, C.enc]
  · have e0 : ((l.length : Int) == 0) = false := beq_false_of_ne (by omega)
    by_cases c1 : l.length = 2 ^ d
    · have e1 : ((l.length : Int) == ((2 ^ d : Nat) : Int)) = true := by simp [c1]
      have hA' : ((intsN (AT d)).length : Int) = ((2 ^ d : Nat) : Int) := by rw [len_intsN, hA]
      simp only [m_condition_of, b_condition_of]
      simp [-Option.bind_some, -Option.map_some, Ru.c_e, Ru.v_e, Ru.v_d, Ru.rv_e, Ru.rv_d, Ru.rv_l, Ru.nil_e, Ru.cons_e, Ru.cons_d, Ru.cons_l, Ru.cons_2, Ru.tup_e, Ru.tup_d, Ru.lst_e, Ru.lst_d, Ru.rd_e, Ru.rd_d, Ru.rd_l, Ru.op_e, Ru.op_1, Ru.op_2, Ru.op_3, Ru.un_e, Ru.un_1, Ru.isi_e, Ru.ite_e, Ru.ite_t, Ru.ite_f, Ru.ofB_e, Ru.ofB_1, Ru.toB_e, Ru.toB_1, Ru.and_e, Ru.and_t, Ru.and_f, Ru.or_e, Ru.or_t, Ru.or_f, Ru.not_e, Ru.not_1, Ru.px_e, Ru.px_1, Ru.px_2, Ru.oN_e, Ru.oS_e, Ru.oS_1, Ru.sl_e, Ru.sl_1, Ru.sl_2, Ru.sl_3, Ru.sl3_e, Ru.tl_1, Ru.tl_2, Ru.tl_3, Ru.tl_4, Ru.call_e, Ru.call_1, Ru.call_2, Ru.callP_e, Ru.callP_1, Ru.callP_2, Ru.chain_e, Ru.ch_1, Ru.ch_2, Ru.ch_t, Ru.ch_f, Ru.iL_e, Ru.iL_d, Ru.iL_l, Ru.iT_e, Ru.iT_d, Ru.iR1_e, Ru.iR1_1, Ru.lR_e, Ru.lR_1, Ru.tN_e, Ru.tT_2, Ru.yes_e, Ru.lc_e, Ru.lc_1, Ru.lc_2, Ru.seq_e, Ru.seq_nx, Ru.seq_rt, Ru.nop_e, Ru.set_e, Ru.set_d, Ru.set_l, Ru.setL_e, Ru.setL_l, Ru.ret_e, Ru.ret_1, Ru.retV_e, Ru.retV_l, Ru.retV_d, Ru.frz_e, Ru.frz_l, Ru.sIte_e, Ru.sIte_t, Ru.sIte_f, Ru.for_e, Ru.for_1, Ru.for_nil, Ru.for_cons, Ru.fK_1, Ru.fK_nx, Ru.fK_rt, Ru.append_e, Ru.append_1, Ru.append_d, Ru.append_l, Ru.extend_e, Ru.extend_1, Ru.extend_l, Ru.pop_e, Ru.pop_1, Ru.setIx_e, Ru.setIx_d, Ru.setP_e, Ru.setP_d, Ru.setP_1, Ru.par_e, Ru.par_1, Ru.stup_e, Ru.stup_d, Ru.wK_t, Ru.wK_f, Ru.wK_nx, Ru.wK_rt, Ru.runB_f, Ru.runB_t, Ru.rb_f, Ru.rb_t, Ru.rb_n, Ru.lt_i, Ru.le_i, Ru.gt_i, Ru.ge_i, Ru.sub_i, Ru.add_i, Ru.add_s, Ru.add_t, Ru.add_l, Ru.mul_i, Ru.div_i, Ru.mod_i, Ru.neg_i, Ru.is_n, Ru.isNot_n, Ru.non_n, Ru.non_i, Ru.non_b, Ru.non_s, Ru.non_l, Ru.non_t, Ru.len_l, Ru.len_t, Ru.len_s, Ru.list_l, Ru.list_t, Ru.tuple_l, Ru.tuple_t, Ru.int_i, Ru.gsl_l, Ru.gsl_t, Ru.gsl_s, Ru.eq_s, Ru.eq_i, Ru.eq_b, Ru.ne_b, Ru.ne_s, Ru.ne_i, Ru.in_2, Ru.atI_0, Ru.atI_1, Ru.atI_2, Ru.ix_t, Ru.ix_l, Ru.cut_1, E.wipeS, Ru.bind_some, Option.bind_none, Ru.map_some, Option.map_none, List.getElem?_cons_zero, List.getElem?_cons_succ, List.set_cons_zero, List.set_cons_succ, List.length_cons, List.length_nil, List.map_cons, List.map_nil, List.replicate, List.cons_append, List.nil_append, hg, len_intsN, e0, ha, hA, -Int.natCast_pow]
      simp [e1, -Option.bind_some, -Option.map_some, Ru.c_e, Ru.v_e, Ru.v_d, Ru.rv_e, Ru.rv_d, Ru.rv_l, Ru.nil_e, Ru.cons_e, Ru.cons_d, Ru.cons_l, Ru.cons_2, Ru.tup_e, Ru.tup_d, Ru.lst_e, Ru.lst_d, Ru.rd_e, Ru.rd_d, Ru.rd_l, Ru.op_e, Ru.op_1, Ru.op_2, Ru.op_3, Ru.un_e, Ru.un_1, Ru.isi_e, Ru.ite_e, Ru.ite_t, Ru.ite_f, Ru.ofB_e, Ru.ofB_1, Ru.toB_e, Ru.toB_1, Ru.and_e, Ru.and_t, Ru.and_f, Ru.or_e, Ru.or_t, Ru.or_f, Ru.not_e, Ru.not_1, Ru.px_e, Ru.px_1, Ru.px_2, Ru.oN_e, Ru.oS_e, Ru.oS_1, Ru.sl_e, Ru.sl_1, Ru.sl_2, Ru.sl_3, Ru.sl3_e, Ru.tl_1, Ru.tl_2, Ru.tl_3, Ru.tl_4, Ru.call_e, Ru.call_1, Ru.call_2, Ru.callP_e, Ru.callP_1, Ru.callP_2, Ru.chain_e, Ru.ch_1, Ru.ch_2, Ru.ch_t, Ru.ch_f, Ru.iL_e, Ru.iL_d, Ru.iL_l, Ru.iT_e, Ru.iT_d, Ru.iR1_e, Ru.iR1_1, Ru.lR_e, Ru.lR_1, Ru.tN_e, Ru.tT_2, Ru.yes_e, Ru.lc_e, Ru.lc_1, Ru.lc_2, Ru.seq_e, Ru.seq_nx, Ru.seq_rt, Ru.nop_e, Ru.set_e, Ru.set_d, Ru.set_l, Ru.setL_e, Ru.setL_l, Ru.ret_e, Ru.ret_1, Ru.retV_e, Ru.retV_l, Ru.retV_d, Ru.frz_e, Ru.frz_l, Ru.sIte_e, Ru.sIte_t, Ru.sIte_f, Ru.for_e, Ru.for_1, Ru.for_nil, Ru.for_cons, Ru.fK_1, Ru.fK_nx, Ru.fK_rt, Ru.append_e, Ru.append_1, Ru.append_d, Ru.append_l, Ru.extend_e, Ru.extend_1, Ru.extend_l, Ru.pop_e, Ru.pop_1, Ru.setIx_e, Ru.setIx_d, Ru.setP_e, Ru.setP_d, Ru.setP_1, Ru.par_e, Ru.par_1, Ru.stup_e, Ru.stup_d, Ru.wK_t, Ru.wK_f, Ru.wK_nx, Ru.wK_rt, Ru.runB_f, Ru.runB_t, Ru.rb_f, Ru.rb_t, Ru.rb_n, Ru.lt_i, Ru.le_i, Ru.gt_i, Ru.ge_i, Ru.sub_i, Ru.add_i, Ru.add_s, Ru.add_t, Ru.add_l, Ru.mul_i, Ru.div_i, Ru.mod_i, Ru.neg_i, Ru.is_n, Ru.isNot_n, Ru.non_n, Ru.non_i, Ru.non_b, Ru.non_s, Ru.non_l, Ru.non_t, Ru.len_l, Ru.len_t, Ru.len_s, Ru.list_l, Ru.list_t, Ru.tuple_l, Ru.tuple_t, Ru.int_i, Ru.gsl_l, Ru.gsl_t, Ru.gsl_s, Ru.eq_s, Ru.eq_i, Ru.eq_b, Ru.ne_b, Ru.ne_s, Ru.ne_i, Ru.in_2, Ru.atI_0, Ru.atI_1, Ru.atI_2, Ru.ix_t, Ru.ix_l, Ru.cut_1, E.wipeS, Ru.bind_some, Option.bind_none, Ru.map_some, Option.map_none, List.getElem?_cons_zero, List.getElem?_cons_succ, List.set_cons_zero, List.set_cons_succ, List.length_cons, List.length_nil, List.map_cons, List.map_nil, List.replicate, List.cons_append, List.nil_append, condC, c0, c1, C.enc, -Int.natCast_pow]
    · have e1 : ((l.length : Int) == ((2 ^ d : Nat) : Int)) = false := beq_false_of_ne (by omega)
      have hne : l ≠ [] := fun z => c0 (by simp [z])
      have hj := e_join "or" .or (fun _ _ => rfl) (l.map (atC d)) (by simpa using hne) (by simp; omega)
      have hc := Ru.lc_map (t := E.tN 3) (c := E.yes) (f := E.call (m_atom_condition n) (E.cons (E.v 0) (E.cons (E.v 3) E.nil))) (r := [.d (W d t), .d x, .d (.list (intsN l)), .un]) (p := none) (fun y => (atC d (natD y)).enc) (intsN l) [] fun y hy => by
        obtain ⟨a, _, rfl⟩ := List.mem_map.mp hy
        refine ⟨_, rfl, rfl, .d (atC d a).enc, ?_, by rw [natD_int]; rfl⟩
        have z := e_atom_condition (t := t) (a := a) h1 h3 hn
        simp [-Option.bind_some, -Option.map_some, Ru.c_e, Ru.v_e, Ru.v_d, Ru.rv_e, Ru.rv_d, Ru.rv_l, Ru.nil_e, Ru.cons_e, Ru.cons_d, Ru.cons_l, Ru.cons_2, Ru.tup_e, Ru.tup_d, Ru.lst_e, Ru.lst_d, Ru.rd_e, Ru.rd_d, Ru.rd_l, Ru.op_e, Ru.op_1, Ru.op_2, Ru.op_3, Ru.un_e, Ru.un_1, Ru.isi_e, Ru.ite_e, Ru.ite_t, Ru.ite_f, Ru.ofB_e, Ru.ofB_1, Ru.toB_e, Ru.toB_1, Ru.and_e, Ru.and_t, Ru.and_f, Ru.or_e, Ru.or_t, Ru.or_f, Ru.not_e, Ru.not_1, Ru.px_e, Ru.px_1, Ru.px_2, Ru.oN_e, Ru.oS_e, Ru.oS_1, Ru.sl_e, Ru.sl_1, Ru.sl_2, Ru.sl_3, Ru.sl3_e, Ru.tl_1, Ru.tl_2, Ru.tl_3, Ru.tl_4, Ru.call_e, Ru.call_1, Ru.call_2, Ru.callP_e, Ru.callP_1, Ru.callP_2, Ru.chain_e, Ru.ch_1, Ru.ch_2, Ru.ch_t, Ru.ch_f, Ru.iL_e, Ru.iL_d, Ru.iL_l, Ru.iT_e, Ru.iT_d, Ru.iR1_e, Ru.iR1_1, Ru.lR_e, Ru.lR_1, Ru.tN_e, Ru.tT_2, Ru.yes_e, Ru.lc_e, Ru.lc_1, Ru.lc_2, Ru.seq_e, Ru.seq_nx, Ru.seq_rt, Ru.nop_e, Ru.set_e, Ru.set_d, Ru.set_l, Ru.setL_e, Ru.setL_l, Ru.ret_e, Ru.ret_1, Ru.retV_e, Ru.retV_l, Ru.retV_d, Ru.frz_e, Ru.frz_l, Ru.sIte_e, Ru.sIte_t, Ru.sIte_f, Ru.for_e, Ru.for_1, Ru.for_nil, Ru.for_cons, Ru.fK_1, Ru.fK_nx, Ru.fK_rt, Ru.append_e, Ru.append_1, Ru.append_d, Ru.append_l, Ru.extend_e, Ru.extend_1, Ru.extend_l, Ru.pop_e, Ru.pop_1, Ru.setIx_e, Ru.setIx_d, Ru.setP_e, Ru.setP_d, Ru.setP_1, Ru.par_e, Ru.par_1, Ru.stup_e, Ru.stup_d, Ru.wK_t, Ru.wK_f, Ru.wK_nx, Ru.wK_rt, Ru.runB_f, Ru.runB_t, Ru.rb_f, Ru.rb_t, Ru.rb_n, Ru.lt_i, Ru.le_i, Ru.gt_i, Ru.ge_i, Ru.sub_i, Ru.add_i, Ru.add_s, Ru.add_t, Ru.add_l, Ru.mul_i, Ru.div_i, Ru.mod_i, Ru.neg_i, Ru.is_n, Ru.isNot_n, Ru.non_n, Ru.non_i, Ru.non_b, Ru.non_s, Ru.non_l, Ru.non_t, Ru.len_l, Ru.len_t, Ru.len_s, Ru.list_l, Ru.list_t, Ru.tuple_l, Ru.tuple_t, Ru.int_i, Ru.gsl_l, Ru.gsl_t, Ru.gsl_s, Ru.eq_s, Ru.eq_i, Ru.eq_b, Ru.ne_b, Ru.ne_s, Ru.ne_i, Ru.in_2, Ru.atI_0, Ru.atI_1, Ru.atI_2, Ru.ix_t, Ru.ix_l, Ru.cut_1, E.wipeS, Ru.bind_some, Option.bind_none, Ru.map_some, Option.map_none, List.getElem?_cons_zero, List.getElem?_cons_succ, List.set_cons_zero, List.set_cons_succ, List.length_cons, List.length_nil, List.map_cons, List.map_nil, List.replicate, List.cons_append, List.nil_append, z]
      have e2 : (intsN l).map (fun y => (atC d (natD y)).enc) = (l.map (atC d)).map C.enc := by
        simp only [intsN, List.map_map]
        refine List.map_congr_left fun a _ => ?_
        simp [natD_int]
      rw [e2, List.nil_append] at hc
      have hl2 : (intsN l).length ≤ 16777216 := by rw [len_intsN]; omega
      simp only [m_condition_of, b_condition_of]
      simp [-Option.bind_some, -Option.map_some, Ru.c_e, Ru.v_e, Ru.v_d, Ru.rv_e, Ru.rv_d, Ru.rv_l, Ru.nil_e, Ru.cons_e, Ru.cons_d, Ru.cons_l, Ru.cons_2, Ru.tup_e, Ru.tup_d, Ru.lst_e, Ru.lst_d, Ru.rd_e, Ru.rd_d, Ru.rd_l, Ru.op_e, Ru.op_1, Ru.op_2, Ru.op_3, Ru.un_e, Ru.un_1, Ru.isi_e, Ru.ite_e, Ru.ite_t, Ru.ite_f, Ru.ofB_e, Ru.ofB_1, Ru.toB_e, Ru.toB_1, Ru.and_e, Ru.and_t, Ru.and_f, Ru.or_e, Ru.or_t, Ru.or_f, Ru.not_e, Ru.not_1, Ru.px_e, Ru.px_1, Ru.px_2, Ru.oN_e, Ru.oS_e, Ru.oS_1, Ru.sl_e, Ru.sl_1, Ru.sl_2, Ru.sl_3, Ru.sl3_e, Ru.tl_1, Ru.tl_2, Ru.tl_3, Ru.tl_4, Ru.call_e, Ru.call_1, Ru.call_2, Ru.callP_e, Ru.callP_1, Ru.callP_2, Ru.chain_e, Ru.ch_1, Ru.ch_2, Ru.ch_t, Ru.ch_f, Ru.iL_e, Ru.iL_d, Ru.iL_l, Ru.iT_e, Ru.iT_d, Ru.iR1_e, Ru.iR1_1, Ru.lR_e, Ru.lR_1, Ru.tN_e, Ru.tT_2, Ru.yes_e, Ru.lc_e, Ru.lc_1, Ru.lc_2, Ru.seq_e, Ru.seq_nx, Ru.seq_rt, Ru.nop_e, Ru.set_e, Ru.set_d, Ru.set_l, Ru.setL_e, Ru.setL_l, Ru.ret_e, Ru.ret_1, Ru.retV_e, Ru.retV_l, Ru.retV_d, Ru.frz_e, Ru.frz_l, Ru.sIte_e, Ru.sIte_t, Ru.sIte_f, Ru.for_e, Ru.for_1, Ru.for_nil, Ru.for_cons, Ru.fK_1, Ru.fK_nx, Ru.fK_rt, Ru.append_e, Ru.append_1, Ru.append_d, Ru.append_l, Ru.extend_e, Ru.extend_1, Ru.extend_l, Ru.pop_e, Ru.pop_1, Ru.setIx_e, Ru.setIx_d, Ru.setP_e, Ru.setP_d, Ru.setP_1, Ru.par_e, Ru.par_1, Ru.stup_e, Ru.stup_d, Ru.wK_t, Ru.wK_f, Ru.wK_nx, Ru.wK_rt, Ru.runB_f, Ru.runB_t, Ru.rb_f, Ru.rb_t, Ru.rb_n, Ru.lt_i, Ru.le_i, Ru.gt_i, Ru.ge_i, Ru.sub_i, Ru.add_i, Ru.add_s, Ru.add_t, Ru.add_l, Ru.mul_i, Ru.div_i, Ru.mod_i, Ru.neg_i, Ru.is_n, Ru.isNot_n, Ru.non_n, Ru.non_i, Ru.non_b, Ru.non_s, Ru.non_l, Ru.non_t, Ru.len_l, Ru.len_t, Ru.len_s, Ru.list_l, Ru.list_t, Ru.tuple_l, Ru.tuple_t, Ru.int_i, Ru.gsl_l, Ru.gsl_t, Ru.gsl_s, Ru.eq_s, Ru.eq_i, Ru.eq_b, Ru.ne_b, Ru.ne_s, Ru.ne_i, Ru.in_2, Ru.atI_0, Ru.atI_1, Ru.atI_2, Ru.ix_t, Ru.ix_l, Ru.cut_1, E.wipeS, Ru.bind_some, Option.bind_none, Ru.map_some, Option.map_none, List.getElem?_cons_zero, List.getElem?_cons_succ, List.set_cons_zero, List.set_cons_succ, List.length_cons, List.length_nil, List.map_cons, List.map_nil, List.replicate, List.cons_append, List.nil_append, hg, len_intsN, e0, ha, hA, -Int.natCast_pow]
      simp [e1, -Option.bind_some, -Option.map_some, Ru.c_e, Ru.v_e, Ru.v_d, Ru.rv_e, Ru.rv_d, Ru.rv_l, Ru.nil_e, Ru.cons_e, Ru.cons_d, Ru.cons_l, Ru.cons_2, Ru.tup_e, Ru.tup_d, Ru.lst_e, Ru.lst_d, Ru.rd_e, Ru.rd_d, Ru.rd_l, Ru.op_e, Ru.op_1, Ru.op_2, Ru.op_3, Ru.un_e, Ru.un_1, Ru.isi_e, Ru.ite_e, Ru.ite_t, Ru.ite_f, Ru.ofB_e, Ru.ofB_1, Ru.toB_e, Ru.toB_1, Ru.and_e, Ru.and_t, Ru.and_f, Ru.or_e, Ru.or_t, Ru.or_f, Ru.not_e, Ru.not_1, Ru.px_e, Ru.px_1, Ru.px_2, Ru.oN_e, Ru.oS_e, Ru.oS_1, Ru.sl_e, Ru.sl_1, Ru.sl_2, Ru.sl_3, Ru.sl3_e, Ru.tl_1, Ru.tl_2, Ru.tl_3, Ru.tl_4, Ru.call_e, Ru.call_1, Ru.call_2, Ru.callP_e, Ru.callP_1, Ru.callP_2, Ru.chain_e, Ru.ch_1, Ru.ch_2, Ru.ch_t, Ru.ch_f, Ru.iL_e, Ru.iL_d, Ru.iL_l, Ru.iT_e, Ru.iT_d, Ru.iR1_e, Ru.iR1_1, Ru.lR_e, Ru.lR_1, Ru.tN_e, Ru.tT_2, Ru.yes_e, Ru.lc_e, Ru.lc_1, Ru.lc_2, Ru.seq_e, Ru.seq_nx, Ru.seq_rt, Ru.nop_e, Ru.set_e, Ru.set_d, Ru.set_l, Ru.setL_e, Ru.setL_l, Ru.ret_e, Ru.ret_1, Ru.retV_e, Ru.retV_l, Ru.retV_d, Ru.frz_e, Ru.frz_l, Ru.sIte_e, Ru.sIte_t, Ru.sIte_f, Ru.for_e, Ru.for_1, Ru.for_nil, Ru.for_cons, Ru.fK_1, Ru.fK_nx, Ru.fK_rt, Ru.append_e, Ru.append_1, Ru.append_d, Ru.append_l, Ru.extend_e, Ru.extend_1, Ru.extend_l, Ru.pop_e, Ru.pop_1, Ru.setIx_e, Ru.setIx_d, Ru.setP_e, Ru.setP_d, Ru.setP_1, Ru.par_e, Ru.par_1, Ru.stup_e, Ru.stup_d, Ru.wK_t, Ru.wK_f, Ru.wK_nx, Ru.wK_rt, Ru.runB_f, Ru.runB_t, Ru.rb_f, Ru.rb_t, Ru.rb_n, Ru.lt_i, Ru.le_i, Ru.gt_i, Ru.ge_i, Ru.sub_i, Ru.add_i, Ru.add_s, Ru.add_t, Ru.add_l, Ru.mul_i, Ru.div_i, Ru.mod_i, Ru.neg_i, Ru.is_n, Ru.isNot_n, Ru.non_n, Ru.non_i, Ru.non_b, Ru.non_s, Ru.non_l, Ru.non_t, Ru.len_l, Ru.len_t, Ru.len_s, Ru.list_l, Ru.list_t, Ru.tuple_l, Ru.tuple_t, Ru.int_i, Ru.gsl_l, Ru.gsl_t, Ru.gsl_s, Ru.eq_s, Ru.eq_i, Ru.eq_b, Ru.ne_b, Ru.ne_s, Ru.ne_i, Ru.in_2, Ru.atI_0, Ru.atI_1, Ru.atI_2, Ru.ix_t, Ru.ix_l, Ru.cut_1, E.wipeS, Ru.bind_some, Option.bind_none, Ru.map_some, Option.map_none, List.getElem?_cons_zero, List.getElem?_cons_succ, List.set_cons_zero, List.set_cons_succ, List.length_cons, List.length_nil, List.map_cons, List.map_nil, List.replicate, List.cons_append, List.nil_append, hl2, hc, hj, -Int.natCast_pow, -List.map_map]
      rw [condC, if_neg c0, if_neg c1]
theorem cond_ok {d : Nat} {l : List Nat} : (condC d l).ok d = true := by
  unfold condC
  split
  · rfl
  · split
    · rfl
    · refine join_ok _ (fun _ _ => rfl) _ fun c hc => ?_
      obtain ⟨a, _, rfl⟩ := List.mem_map.mp hc
      exact at_ok
theorem cond_dep {d : Nat} {l : List Nat} (h3 : d ≤ 3) (hl : l.length ≤ 8) : (condC d l).dep ≤ 15 := by
  unfold condC
  split
  · simp [C.dep]
  · split
    · simp [C.dep]
    · have := join_dep (m := 6) .or (fun _ _ => rfl) (l.map (atC d)) fun c hc => by
        obtain ⟨a, _, rfl⟩ := List.mem_map.mp hc
        exact at_dep h3
      simp at this
      omega
theorem cond_ev {d b : Nat} {l : List Nat} (h1 : 1 ≤ d) (h3 : d ≤ 3) (hl : l.Sublist (AT d)) (hb : b < 2 ^ d) : (condC d l).ev b = decide (b ∈ l) := by
  unfold condC
  split
  · rename_i c
    have : l = [] := List.length_eq_zero_iff.mp c
    subst this
    rfl
  · rename_i c0
    split
    · rename_i c
      have e : l = AT d := hl.eq_of_length (by simp [AT, c])
      subst e
      simp [C.ev, AT, hb]
    · rw [or_ev _ _ (by
        intro h
        have := congrArg List.length h
        simp at this
        exact c0 (by simp [this])), List.any_map, Bool.eq_iff_iff, List.any_eq_true, decide_eq_true_eq]
      have mem : ∀ a ∈ l, a < 2 ^ d := fun a ha => by simpa [AT] using hl.subset ha
      constructor
      · rintro ⟨a, ha, z⟩
        have z' : (atC d a).ev b = true := z
        rw [at_ev h1 h3 (mem a ha) hb, beq_iff_eq] at z'
        exact z' ▸ ha
      · intro hbl
        refine ⟨b, hbl, ?_⟩
        show (atC d b).ev b = true
        rw [at_ev h1 h3 hb hb, beq_iff_eq]
/-! ### same_condition -/
theorem eqv_ints : ∀ p q : List Nat, PyData.eqvAll (intsN p) (intsN q) = decide (p = q)
  | [], [] => by simp [intsN, PyData.eqvAll]
  | [], b :: q => by simp [intsN, PyData.eqvAll]
  | a :: p, [] => by simp [intsN, PyData.eqvAll]
  | a :: p, b :: q => by
    have ih := eqv_ints p q
    unfold intsN at ih ⊢
    simp only [List.map_cons, PyData.eqvAll, PyData.eqv, ih, List.cons.injEq, Bool.decide_and]
    congr 1
    rw [Bool.eq_iff_iff, beq_iff_eq, decide_eq_true_eq]
    omega
theorem depth_ints : ∀ p : List Nat, PyData.depthAll (intsN p) = 0
  | [] => rfl
  | a :: p => by
    have ih := depth_ints p
    unfold intsN at ih ⊢
    simp [PyData.depthAll, PyData.depth, ih]
theorem eq_ints (p q : List Nat) : gEq (.list (intsN p)) (.list (intsN q)) = some (.d (.bool (decide (p = q)))) := by
  simp [gEq, PyData.depth, depth_ints, PyData.eqv, eqv_ints]
theorem ne_ints (p q : List Nat) : gNe (.list (intsN p)) (.list (intsN q)) = some (.d (.bool (!decide (p = q)))) := by
  simp [gNe, PyData.depth, depth_ints, PyData.eqv, eqv_ints]
def m_same_condition (n : Nat) : MF := runB 3 false 3 (b_same_condition (m_atoms_where n))
theorem e_same_condition {d n : Nat} {t : Int} {b c : C} (h1 : 1 ≤ d) (h3 : d ≤ 3) (hb : b.ok d = true) (hc : c.ok d = true) (db : b.dep ≤ n) (dc : c.dep ≤ n) :
    m_same_condition n [W d t, b.enc, c.enc] none = some (.d (.bool (decide (((AT d).filter fun a => b.ev a) = (AT d).filter fun a => c.ev a))), none) := by
  have z1 := e_atoms_where (t := t) h1 h3 hb db
  have z2 := e_atoms_where (t := t) h1 h3 hc dc
  simp [m_same_condition, b_same_condition, -Option.bind_some, -Option.map_some, Ru.c_e, Ru.v_e, Ru.v_d, Ru.rv_e, Ru.rv_d, Ru.rv_l, Ru.nil_e, Ru.cons_e, Ru.cons_d, Ru.cons_l, Ru.cons_2, Ru.tup_e, Ru.tup_d, Ru.lst_e, Ru.lst_d, Ru.rd_e, Ru.rd_d, Ru.rd_l, Ru.op_e, Ru.op_1, Ru.op_2, Ru.op_3, Ru.un_e, Ru.un_1, Ru.isi_e, Ru.ite_e, Ru.ite_t, Ru.ite_f, Ru.ofB_e, Ru.ofB_1, Ru.toB_e, Ru.toB_1, Ru.and_e, Ru.and_t, Ru.and_f, Ru.or_e, Ru.or_t, Ru.or_f, Ru.not_e, Ru.not_1, Ru.px_e, Ru.px_1, Ru.px_2, Ru.oN_e, Ru.oS_e, Ru.oS_1, Ru.sl_e, Ru.sl_1, Ru.sl_2, Ru.sl_3, Ru.sl3_e, Ru.tl_1, Ru.tl_2, Ru.tl_3, Ru.tl_4, Ru.call_e, Ru.call_1, Ru.call_2, Ru.callP_e, Ru.callP_1, Ru.callP_2, Ru.chain_e, Ru.ch_1, Ru.ch_2, Ru.ch_t, Ru.ch_f, Ru.iL_e, Ru.iL_d, Ru.iL_l, Ru.iT_e, Ru.iT_d, Ru.iR1_e, Ru.iR1_1, Ru.lR_e, Ru.lR_1, Ru.tN_e, Ru.tT_2, Ru.yes_e, Ru.lc_e, Ru.lc_1, Ru.lc_2, Ru.seq_e, Ru.seq_nx, Ru.seq_rt, Ru.nop_e, Ru.set_e, Ru.set_d, Ru.set_l, Ru.setL_e, Ru.setL_l, Ru.ret_e, Ru.ret_1, Ru.retV_e, Ru.retV_l, Ru.retV_d, Ru.frz_e, Ru.frz_l, Ru.sIte_e, Ru.sIte_t, Ru.sIte_f, Ru.for_e, Ru.for_1, Ru.for_nil, Ru.for_cons, Ru.fK_1, Ru.fK_nx, Ru.fK_rt, Ru.append_e, Ru.append_1, Ru.append_d, Ru.append_l, Ru.extend_e, Ru.extend_1, Ru.extend_l, Ru.pop_e, Ru.pop_1, Ru.setIx_e, Ru.setIx_d, Ru.setP_e, Ru.setP_d, Ru.setP_1, Ru.par_e, Ru.par_1, Ru.stup_e, Ru.stup_d, Ru.wK_t, Ru.wK_f, Ru.wK_nx, Ru.wK_rt, Ru.runB_f, Ru.runB_t, Ru.rb_f, Ru.rb_t, Ru.rb_n, Ru.lt_i, Ru.le_i, Ru.gt_i, Ru.ge_i, Ru.sub_i, Ru.add_i, Ru.add_s, Ru.add_t, Ru.add_l, Ru.mul_i, Ru.div_i, Ru.mod_i, Ru.neg_i, Ru.is_n, Ru.isNot_n, Ru.non_n, Ru.non_i, Ru.non_b, Ru.non_s, Ru.non_l, Ru.non_t, Ru.len_l, Ru.len_t, Ru.len_s, Ru.list_l, Ru.list_t, Ru.tuple_l, Ru.tuple_t, Ru.int_i, Ru.gsl_l, Ru.gsl_t, Ru.gsl_s, Ru.eq_s, Ru.eq_i, Ru.eq_b, Ru.ne_b, Ru.ne_s, Ru.ne_i, Ru.in_2, Ru.atI_0, Ru.atI_1, Ru.atI_2, Ru.ix_t, Ru.ix_l, Ru.cut_1, E.wipeS, Ru.bind_some, Option.bind_none, Ru.map_some, Option.map_none, List.getElem?_cons_zero, List.getElem?_cons_succ, List.set_cons_zero, List.set_cons_succ, List.length_cons, List.length_nil, List.map_cons, List.map_nil, List.replicate, List.cons_append, List.nil_append, z1, z2, eq_ints]
end K1

/-! deedsagain k01: what is drawn. -/
namespace K1
open PySem PySem.Spec L2 Dg
open Dg.Ru (isI isB isS isTu isLi isT_int isT_bool isT_str isT_list isT_tuple)
set_option maxHeartbeats 0
/-! ### spread -/
def m_law_spread : MF := runB 4 false 1 b_law_spread
theorem spread_for {c : D} : ∀ (js : List Nat) (m t : Int) (s : Sl), ∃ m' t' s', S.forL (E.tN 3) f1_law_spread (intsN js) ⟨[.d c, .d (.int m), .d (.int t), s], none⟩ = some (.nx ⟨[.d c, .d (.int m'), .d (.int t'), s'], none⟩)
  | [], m, t, s => ⟨m, t, s, by simp [intsN, -Option.bind_some, -Option.map_some, Ru.c_e, Ru.v_e, Ru.v_d, Ru.rv_e, Ru.rv_d, Ru.rv_l, Ru.nil_e, Ru.cons_e, Ru.cons_d, Ru.cons_l, Ru.cons_2, Ru.tup_e, Ru.tup_d, Ru.lst_e, Ru.lst_d, Ru.rd_e, Ru.rd_d, Ru.rd_l, Ru.op_e, Ru.op_1, Ru.op_2, Ru.op_3, Ru.un_e, Ru.un_1, Ru.isi_e, Ru.ite_e, Ru.ite_t, Ru.ite_f, Ru.ofB_e, Ru.ofB_1, Ru.toB_e, Ru.toB_1, Ru.and_e, Ru.and_t, Ru.and_f, Ru.or_e, Ru.or_t, Ru.or_f, Ru.not_e, Ru.not_1, Ru.px_e, Ru.px_1, Ru.px_2, Ru.oN_e, Ru.oS_e, Ru.oS_1, Ru.sl_e, Ru.sl_1, Ru.sl_2, Ru.sl_3, Ru.sl3_e, Ru.tl_1, Ru.tl_2, Ru.tl_3, Ru.tl_4, Ru.call_e, Ru.call_1, Ru.call_2, Ru.callP_e, Ru.callP_1, Ru.callP_2, Ru.chain_e, Ru.ch_1, Ru.ch_2, Ru.ch_t, Ru.ch_f, Ru.iL_e, Ru.iL_d, Ru.iL_l, Ru.iT_e, Ru.iT_d, Ru.iR1_e, Ru.iR1_1, Ru.lR_e, Ru.lR_1, Ru.tN_e, Ru.tT_2, Ru.yes_e, Ru.lc_e, Ru.lc_1, Ru.lc_2, Ru.seq_e, Ru.seq_nx, Ru.seq_rt, Ru.nop_e, Ru.set_e, Ru.set_d, Ru.set_l, Ru.setL_e, Ru.setL_l, Ru.ret_e, Ru.ret_1, Ru.retV_e, Ru.retV_l, Ru.retV_d, Ru.frz_e, Ru.frz_l, Ru.sIte_e, Ru.sIte_t, Ru.sIte_f, Ru.for_e, Ru.for_1, Ru.for_nil, Ru.for_cons, Ru.fK_1, Ru.fK_nx, Ru.fK_rt, Ru.append_e, Ru.append_1, Ru.append_d, Ru.append_l, Ru.extend_e, Ru.extend_1, Ru.extend_l, Ru.pop_e, Ru.pop_1, Ru.setIx_e, Ru.setIx_d, Ru.setP_e, Ru.setP_d, Ru.setP_1, Ru.par_e, Ru.par_1, Ru.stup_e, Ru.stup_d, Ru.wK_t, Ru.wK_f, Ru.wK_nx, Ru.wK_rt, Ru.runB_f, Ru.runB_t, Ru.rb_f, Ru.rb_t, Ru.rb_n, Ru.lt_i, Ru.le_i, Ru.gt_i, Ru.ge_i, Ru.sub_i, Ru.add_i, Ru.add_s, Ru.add_t, Ru.add_l, Ru.mul_i, Ru.div_i, Ru.mod_i, Ru.neg_i, Ru.is_n, Ru.isNot_n, Ru.non_n, Ru.non_i, Ru.non_b, Ru.non_s, Ru.non_l, Ru.non_t, Ru.len_l, Ru.len_t, Ru.len_s, Ru.list_l, Ru.list_t, Ru.tuple_l, Ru.tuple_t, Ru.int_i, Ru.gsl_l, Ru.gsl_t, Ru.gsl_s, Ru.eq_s, Ru.eq_i, Ru.eq_b, Ru.ne_b, Ru.ne_s, Ru.ne_i, Ru.in_2, Ru.atI_0, Ru.atI_1, Ru.atI_2, Ru.ix_t, Ru.ix_l, Ru.cut_1, E.wipeS, Ru.bind_some, Option.bind_none, Ru.map_some, Option.map_none, List.getElem?_cons_zero, List.getElem?_cons_succ, List.set_cons_zero, List.set_cons_succ, List.length_cons, List.length_nil, List.map_cons, List.map_nil, List.replicate, List.cons_append, List.nil_append]⟩
  | j :: js, m, t, s => by
    have hb : f1_law_spread ⟨[.d c, .d (.int m), .d (.int t), .d (.int (j : Int))], none⟩ =
        some (.nx ⟨[.d c, .d (.int ((m * 48271 + 12345 + (j : Int)) % 2147483647)), .d (.int (t * 2147483647 + (m * 48271 + 12345 + (j : Int)) % 2147483647)), .d (.int (j : Int))], none⟩) := by
      simp [f1_law_spread, -Option.bind_some, -Option.map_some, Ru.c_e, Ru.v_e, Ru.v_d, Ru.rv_e, Ru.rv_d, Ru.rv_l, Ru.nil_e, Ru.cons_e, Ru.cons_d, Ru.cons_l, Ru.cons_2, Ru.tup_e, Ru.tup_d, Ru.lst_e, Ru.lst_d, Ru.rd_e, Ru.rd_d, Ru.rd_l, Ru.op_e, Ru.op_1, Ru.op_2, Ru.op_3, Ru.un_e, Ru.un_1, Ru.isi_e, Ru.ite_e, Ru.ite_t, Ru.ite_f, Ru.ofB_e, Ru.ofB_1, Ru.toB_e, Ru.toB_1, Ru.and_e, Ru.and_t, Ru.and_f, Ru.or_e, Ru.or_t, Ru.or_f, Ru.not_e, Ru.not_1, Ru.px_e, Ru.px_1, Ru.px_2, Ru.oN_e, Ru.oS_e, Ru.oS_1, Ru.sl_e, Ru.sl_1, Ru.sl_2, Ru.sl_3, Ru.sl3_e, Ru.tl_1, Ru.tl_2, Ru.tl_3, Ru.tl_4, Ru.call_e, Ru.call_1, Ru.call_2, Ru.callP_e, Ru.callP_1, Ru.callP_2, Ru.chain_e, Ru.ch_1, Ru.ch_2, Ru.ch_t, Ru.ch_f, Ru.iL_e, Ru.iL_d, Ru.iL_l, Ru.iT_e, Ru.iT_d, Ru.iR1_e, Ru.iR1_1, Ru.lR_e, Ru.lR_1, Ru.tN_e, Ru.tT_2, Ru.yes_e, Ru.lc_e, Ru.lc_1, Ru.lc_2, Ru.seq_e, Ru.seq_nx, Ru.seq_rt, Ru.nop_e, Ru.set_e, Ru.set_d, Ru.set_l, Ru.setL_e, Ru.setL_l, Ru.ret_e, Ru.ret_1, Ru.retV_e, Ru.retV_l, Ru.retV_d, Ru.frz_e, Ru.frz_l, Ru.sIte_e, Ru.sIte_t, Ru.sIte_f, Ru.for_e, Ru.for_1, Ru.for_nil, Ru.for_cons, Ru.fK_1, Ru.fK_nx, Ru.fK_rt, Ru.append_e, Ru.append_1, Ru.append_d, Ru.append_l, Ru.extend_e, Ru.extend_1, Ru.extend_l, Ru.pop_e, Ru.pop_1, Ru.setIx_e, Ru.setIx_d, Ru.setP_e, Ru.setP_d, Ru.setP_1, Ru.par_e, Ru.par_1, Ru.stup_e, Ru.stup_d, Ru.wK_t, Ru.wK_f, Ru.wK_nx, Ru.wK_rt, Ru.runB_f, Ru.runB_t, Ru.rb_f, Ru.rb_t, Ru.rb_n, Ru.lt_i, Ru.le_i, Ru.gt_i, Ru.ge_i, Ru.sub_i, Ru.add_i, Ru.add_s, Ru.add_t, Ru.add_l, Ru.mul_i, Ru.div_i, Ru.mod_i, Ru.neg_i, Ru.is_n, Ru.isNot_n, Ru.non_n, Ru.non_i, Ru.non_b, Ru.non_s, Ru.non_l, Ru.non_t, Ru.len_l, Ru.len_t, Ru.len_s, Ru.list_l, Ru.list_t, Ru.tuple_l, Ru.tuple_t, Ru.int_i, Ru.gsl_l, Ru.gsl_t, Ru.gsl_s, Ru.eq_s, Ru.eq_i, Ru.eq_b, Ru.ne_b, Ru.ne_s, Ru.ne_i, Ru.in_2, Ru.atI_0, Ru.atI_1, Ru.atI_2, Ru.ix_t, Ru.ix_l, Ru.cut_1, E.wipeS, Ru.bind_some, Option.bind_none, Ru.map_some, Option.map_none, List.getElem?_cons_zero, List.getElem?_cons_succ, List.set_cons_zero, List.set_cons_succ, List.length_cons, List.length_nil, List.map_cons, List.map_nil, List.replicate, List.cons_append, List.nil_append]
    obtain ⟨m', t', s', ih⟩ := spread_for js ((m * 48271 + 12345 + (j : Int)) % 2147483647) (t * 2147483647 + (m * 48271 + 12345 + (j : Int)) % 2147483647) (.d (.int (j : Int)))
    refine ⟨m', t', s', ?_⟩
    show S.forL _ _ (.int (j : Int) :: intsN js) _ = _
    rw [Ru.for_cons]
    simp only [Ru.tN_e, Ru.bind_some, Ru.fK_1, List.set_cons_succ, List.set_cons_zero, hb, Ru.fK_nx]
    exact ih
theorem e_spread (c : Int) : ∃ v, m_law_spread [.int c] none = some (.d (.int v), none) := by
  obtain ⟨m', t', s', h⟩ := spread_for (c := .int c) (List.range 4) (c % 2147483647) 1 .un
  have hr : Ru.iR1K ([.int 4], none) = some (intsN (List.range 4), none) := by
    rw [Ru.iR1_1 (by decide) (by decide)]
    rfl
  refine ⟨t', ?_⟩
  simp [m_law_spread, b_law_spread, -Option.bind_some, -Option.map_some, Ru.c_e, Ru.v_e, Ru.v_d, Ru.rv_e, Ru.rv_d, Ru.rv_l, Ru.nil_e, Ru.cons_e, Ru.cons_d, Ru.cons_l, Ru.cons_2, Ru.tup_e, Ru.tup_d, Ru.lst_e, Ru.lst_d, Ru.rd_e, Ru.rd_d, Ru.rd_l, Ru.op_e, Ru.op_1, Ru.op_2, Ru.op_3, Ru.un_e, Ru.un_1, Ru.isi_e, Ru.ite_e, Ru.ite_t, Ru.ite_f, Ru.ofB_e, Ru.ofB_1, Ru.toB_e, Ru.toB_1, Ru.and_e, Ru.and_t, Ru.and_f, Ru.or_e, Ru.or_t, Ru.or_f, Ru.not_e, Ru.not_1, Ru.px_e, Ru.px_1, Ru.px_2, Ru.oN_e, Ru.oS_e, Ru.oS_1, Ru.sl_e, Ru.sl_1, Ru.sl_2, Ru.sl_3, Ru.sl3_e, Ru.tl_1, Ru.tl_2, Ru.tl_3, Ru.tl_4, Ru.call_e, Ru.call_1, Ru.call_2, Ru.callP_e, Ru.callP_1, Ru.callP_2, Ru.chain_e, Ru.ch_1, Ru.ch_2, Ru.ch_t, Ru.ch_f, Ru.iL_e, Ru.iL_d, Ru.iL_l, Ru.iT_e, Ru.iT_d, Ru.iR1_e, Ru.iR1_1, Ru.lR_e, Ru.lR_1, Ru.tN_e, Ru.tT_2, Ru.yes_e, Ru.lc_e, Ru.lc_1, Ru.lc_2, Ru.seq_e, Ru.seq_nx, Ru.seq_rt, Ru.nop_e, Ru.set_e, Ru.set_d, Ru.set_l, Ru.setL_e, Ru.setL_l, Ru.ret_e, Ru.ret_1, Ru.retV_e, Ru.retV_l, Ru.retV_d, Ru.frz_e, Ru.frz_l, Ru.sIte_e, Ru.sIte_t, Ru.sIte_f, Ru.for_e, Ru.for_1, Ru.for_nil, Ru.for_cons, Ru.fK_1, Ru.fK_nx, Ru.fK_rt, Ru.append_e, Ru.append_1, Ru.append_d, Ru.append_l, Ru.extend_e, Ru.extend_1, Ru.extend_l, Ru.pop_e, Ru.pop_1, Ru.setIx_e, Ru.setIx_d, Ru.setP_e, Ru.setP_d, Ru.setP_1, Ru.par_e, Ru.par_1, Ru.stup_e, Ru.stup_d, Ru.wK_t, Ru.wK_f, Ru.wK_nx, Ru.wK_rt, Ru.runB_f, Ru.runB_t, Ru.rb_f, Ru.rb_t, Ru.rb_n, Ru.lt_i, Ru.le_i, Ru.gt_i, Ru.ge_i, Ru.sub_i, Ru.add_i, Ru.add_s, Ru.add_t, Ru.add_l, Ru.mul_i, Ru.div_i, Ru.mod_i, Ru.neg_i, Ru.is_n, Ru.isNot_n, Ru.non_n, Ru.non_i, Ru.non_b, Ru.non_s, Ru.non_l, Ru.non_t, Ru.len_l, Ru.len_t, Ru.len_s, Ru.list_l, Ru.list_t, Ru.tuple_l, Ru.tuple_t, Ru.int_i, Ru.gsl_l, Ru.gsl_t, Ru.gsl_s, Ru.eq_s, Ru.eq_i, Ru.eq_b, Ru.ne_b, Ru.ne_s, Ru.ne_i, Ru.in_2, Ru.atI_0, Ru.atI_1, Ru.atI_2, Ru.ix_t, Ru.ix_l, Ru.cut_1, E.wipeS, Ru.bind_some, Option.bind_none, Ru.map_some, Option.map_none, List.getElem?_cons_zero, List.getElem?_cons_succ, List.set_cons_zero, List.set_cons_succ, List.length_cons, List.length_nil, List.map_cons, List.map_nil, List.replicate, List.cons_append, List.nil_append, hr, h, -Ru.iR1_1]
/-! ### the pool -/
abbrev PL (ns : List Int) (a b c s : Int) : List D := [.list (ns.map .int), .int a, .int b, .int c, .int s]
def VP (p : Pl) : Prop := ∃ ns a b c s, 0 ≤ a ∧ p = some (PL ns a b c s)
def m_law_draw : MF := runB 5 true 2 (b_law_draw m_law_spread)
def dR : SF := (S.seq (S.setP 0 3 (E.op gAdd (E.rd (E.px 0 3)) (E.rd (E.c (.int 1))))) (S.seq (S.ite (E.toB (E.op gLe (E.rd (E.px 0 2)) (E.rd (E.c (.int 0))))) (S.seq (S.set 3 (E.op gMod (E.rd (E.un gInt (E.rd (E.op gAdd (E.rd (E.op gAdd (E.rd (E.op gMul (E.rd (E.px 0 4)) (E.rd (E.c (.int 48271))))) (E.rd (E.op gMul (E.rd (E.px 0 3)) (E.rd (E.c (.int 69621))))))) (E.rd (E.c (.int 1))))))) (E.rd (E.c (.int 2147483647))))) (S.seq (S.set 3 (E.op gMod (E.rd (E.un gInt (E.rd (E.op gAdd (E.rd (E.op gMul (E.rv 3) (E.rd (E.c (.int 16807))))) (E.rd (E.px 0 3)))))) (E.rd (E.c (.int 2147483629))))) (S.ret (E.op gMod (E.rd (E.op gDiv (E.rv 3) (E.rd (E.c (.int 5))))) (E.rv 1))))) S.nop) (S.seq (S.set 4 (E.op gMod (E.rd (E.un gInt (E.rd (E.px 0 2)))) (E.rv 1))) (S.seq (S.setP 0 2 (E.op gDiv (E.rd (E.px 0 2)) (E.rv 1))) (S.ret (E.v 4))))))
def dT : SF := (S.seq (S.set 2 (E.op gIx (E.rd (E.px 0 0)) (E.rd (E.px 0 1)))) (S.seq (S.setP 0 1 (E.op gAdd (E.rd (E.px 0 1)) (E.rd (E.c (.int 1))))) (S.seq (S.setP 0 2 (E.v 2)) (S.ite (E.toB (E.op gLt (E.rv 2) (E.rd (E.c (.int 1000000000000000000))))) (S.setP 0 2 (E.call m_law_spread (E.cons (E.v 2) E.nil))) S.nop))))
def dC : BF := (E.and (E.toB (E.op gLe (E.rd (E.px 0 2)) (E.rd (E.c (.int 0))))) (E.toB (E.op gLt (E.rd (E.px 0 1)) (E.rd (E.un gLen (E.rd (E.px 0 0)))))))
theorem draw_eq : b_law_draw m_law_spread = S.seq (S.ite dC dT S.nop) dR := rfl
theorem atI_map {ns : List Int} {a : Int} (h0 : 0 ≤ a) (h : a < ns.length) : ∃ v, atI (ns.map PyData.int) a = some (.int v) := by
  refine ⟨ns[a.toNat]'(by omega), ?_⟩
  have hix : ixN (ns.map PyData.int).length a = some a.toNat := by
    unfold ixN
    rw [if_pos h0, if_pos (by rw [List.length_map]; exact h)]
  unfold atI
  rw [hix]
  show (ns.map PyData.int)[a.toNat]? = _
  rw [List.getElem?_map, List.getElem?_eq_getElem (by omega)]
  rfl
theorem draw_first {many : Int} {ns : List Int} {a b c s : Int} (h0 : 0 ≤ a) : ∃ s2 a' b', 0 ≤ a' ∧ S.ite dC dT S.nop ⟨[.pool, .d (.int many), .un, .un, .un], some (PL ns a b c s)⟩ = some (.nx ⟨[.pool, .d (.int many), s2, .un, .un], some (PL ns a' b' c s)⟩) := by
  by_cases c1 : b ≤ 0
  · by_cases c2 : a < ns.length
    · obtain ⟨v, hv⟩ := atI_map h0 c2
      have hc : dC ⟨[.pool, .d (.int many), .un, .un, .un], some (PL ns a b c s)⟩ = some (true, some (PL ns a b c s)) := by
        simp [dC, -Option.bind_some, -Option.map_some, Ru.c_e, Ru.v_e, Ru.v_d, Ru.rv_e, Ru.rv_d, Ru.rv_l, Ru.nil_e, Ru.cons_e, Ru.cons_d, Ru.cons_l, Ru.cons_2, Ru.tup_e, Ru.tup_d, Ru.lst_e, Ru.lst_d, Ru.rd_e, Ru.rd_d, Ru.rd_l, Ru.op_e, Ru.op_1, Ru.op_2, Ru.op_3, Ru.un_e, Ru.un_1, Ru.isi_e, Ru.ite_e, Ru.ite_t, Ru.ite_f, Ru.ofB_e, Ru.ofB_1, Ru.toB_e, Ru.toB_1, Ru.and_e, Ru.and_t, Ru.and_f, Ru.or_e, Ru.or_t, Ru.or_f, Ru.not_e, Ru.not_1, Ru.px_e, Ru.px_1, Ru.px_2, Ru.oN_e, Ru.oS_e, Ru.oS_1, Ru.sl_e, Ru.sl_1, Ru.sl_2, Ru.sl_3, Ru.sl3_e, Ru.tl_1, Ru.tl_2, Ru.tl_3, Ru.tl_4, Ru.call_e, Ru.call_1, Ru.call_2, Ru.callP_e, Ru.callP_1, Ru.callP_2, Ru.chain_e, Ru.ch_1, Ru.ch_2, Ru.ch_t, Ru.ch_f, Ru.iL_e, Ru.iL_d, Ru.iL_l, Ru.iT_e, Ru.iT_d, Ru.iR1_e, Ru.iR1_1, Ru.lR_e, Ru.lR_1, Ru.tN_e, Ru.tT_2, Ru.yes_e, Ru.lc_e, Ru.lc_1, Ru.lc_2, Ru.seq_e, Ru.seq_nx, Ru.seq_rt, Ru.nop_e, Ru.set_e, Ru.set_d, Ru.set_l, Ru.setL_e, Ru.setL_l, Ru.ret_e, Ru.ret_1, Ru.retV_e, Ru.retV_l, Ru.retV_d, Ru.frz_e, Ru.frz_l, Ru.sIte_e, Ru.sIte_t, Ru.sIte_f, Ru.for_e, Ru.for_1, Ru.for_nil, Ru.for_cons, Ru.fK_1, Ru.fK_nx, Ru.fK_rt, Ru.append_e, Ru.append_1, Ru.append_d, Ru.append_l, Ru.extend_e, Ru.extend_1, Ru.extend_l, Ru.pop_e, Ru.pop_1, Ru.setIx_e, Ru.setIx_d, Ru.setP_e, Ru.setP_d, Ru.setP_1, Ru.par_e, Ru.par_1, Ru.stup_e, Ru.stup_d, Ru.wK_t, Ru.wK_f, Ru.wK_nx, Ru.wK_rt, Ru.runB_f, Ru.runB_t, Ru.rb_f, Ru.rb_t, Ru.rb_n, Ru.lt_i, Ru.le_i, Ru.gt_i, Ru.ge_i, Ru.sub_i, Ru.add_i, Ru.add_s, Ru.add_t, Ru.add_l, Ru.mul_i, Ru.div_i, Ru.mod_i, Ru.neg_i, Ru.is_n, Ru.isNot_n, Ru.non_n, Ru.non_i, Ru.non_b, Ru.non_s, Ru.non_l, Ru.non_t, Ru.len_l, Ru.len_t, Ru.len_s, Ru.list_l, Ru.list_t, Ru.tuple_l, Ru.tuple_t, Ru.int_i, Ru.gsl_l, Ru.gsl_t, Ru.gsl_s, Ru.eq_s, Ru.eq_i, Ru.eq_b, Ru.ne_b, Ru.ne_s, Ru.ne_i, Ru.in_2, Ru.atI_0, Ru.atI_1, Ru.atI_2, Ru.ix_t, Ru.ix_l, Ru.cut_1, E.wipeS, Ru.bind_some, Option.bind_none, Ru.map_some, Option.map_none, List.getElem?_cons_zero, List.getElem?_cons_succ, List.set_cons_zero, List.set_cons_succ, List.length_cons, List.length_nil, List.map_cons, List.map_nil, List.replicate, List.cons_append, List.nil_append, c1, c2]
      by_cases c3 : v < 1000000000000000000
      · obtain ⟨u, hu⟩ := e_spread v
        refine ⟨.d (.int v), a + 1, u, by omega, ?_⟩
        rw [Ru.sIte_e, hc]
        simp only [Ru.bind_some, Ru.sIte_t]
        simp [dT, -Option.bind_some, -Option.map_some, Ru.c_e, Ru.v_e, Ru.v_d, Ru.rv_e, Ru.rv_d, Ru.rv_l, Ru.nil_e, Ru.cons_e, Ru.cons_d, Ru.cons_l, Ru.cons_2, Ru.tup_e, Ru.tup_d, Ru.lst_e, Ru.lst_d, Ru.rd_e, Ru.rd_d, Ru.rd_l, Ru.op_e, Ru.op_1, Ru.op_2, Ru.op_3, Ru.un_e, Ru.un_1, Ru.isi_e, Ru.ite_e, Ru.ite_t, Ru.ite_f, Ru.ofB_e, Ru.ofB_1, Ru.toB_e, Ru.toB_1, Ru.and_e, Ru.and_t, Ru.and_f, Ru.or_e, Ru.or_t, Ru.or_f, Ru.not_e, Ru.not_1, Ru.px_e, Ru.px_1, Ru.px_2, Ru.oN_e, Ru.oS_e, Ru.oS_1, Ru.sl_e, Ru.sl_1, Ru.sl_2, Ru.sl_3, Ru.sl3_e, Ru.tl_1, Ru.tl_2, Ru.tl_3, Ru.tl_4, Ru.call_e, Ru.call_1, Ru.call_2, Ru.callP_e, Ru.callP_1, Ru.callP_2, Ru.chain_e, Ru.ch_1, Ru.ch_2, Ru.ch_t, Ru.ch_f, Ru.iL_e, Ru.iL_d, Ru.iL_l, Ru.iT_e, Ru.iT_d, Ru.iR1_e, Ru.iR1_1, Ru.lR_e, Ru.lR_1, Ru.tN_e, Ru.tT_2, Ru.yes_e, Ru.lc_e, Ru.lc_1, Ru.lc_2, Ru.seq_e, Ru.seq_nx, Ru.seq_rt, Ru.nop_e, Ru.set_e, Ru.set_d, Ru.set_l, Ru.setL_e, Ru.setL_l, Ru.ret_e, Ru.ret_1, Ru.retV_e, Ru.retV_l, Ru.retV_d, Ru.frz_e, Ru.frz_l, Ru.sIte_e, Ru.sIte_t, Ru.sIte_f, Ru.for_e, Ru.for_1, Ru.for_nil, Ru.for_cons, Ru.fK_1, Ru.fK_nx, Ru.fK_rt, Ru.append_e, Ru.append_1, Ru.append_d, Ru.append_l, Ru.extend_e, Ru.extend_1, Ru.extend_l, Ru.pop_e, Ru.pop_1, Ru.setIx_e, Ru.setIx_d, Ru.setP_e, Ru.setP_d, Ru.setP_1, Ru.par_e, Ru.par_1, Ru.stup_e, Ru.stup_d, Ru.wK_t, Ru.wK_f, Ru.wK_nx, Ru.wK_rt, Ru.runB_f, Ru.runB_t, Ru.rb_f, Ru.rb_t, Ru.rb_n, Ru.lt_i, Ru.le_i, Ru.gt_i, Ru.ge_i, Ru.sub_i, Ru.add_i, Ru.add_s, Ru.add_t, Ru.add_l, Ru.mul_i, Ru.div_i, Ru.mod_i, Ru.neg_i, Ru.is_n, Ru.isNot_n, Ru.non_n, Ru.non_i, Ru.non_b, Ru.non_s, Ru.non_l, Ru.non_t, Ru.len_l, Ru.len_t, Ru.len_s, Ru.list_l, Ru.list_t, Ru.tuple_l, Ru.tuple_t, Ru.int_i, Ru.gsl_l, Ru.gsl_t, Ru.gsl_s, Ru.eq_s, Ru.eq_i, Ru.eq_b, Ru.ne_b, Ru.ne_s, Ru.ne_i, Ru.in_2, Ru.atI_0, Ru.atI_1, Ru.atI_2, Ru.ix_t, Ru.ix_l, Ru.cut_1, E.wipeS, Ru.bind_some, Option.bind_none, Ru.map_some, Option.map_none, List.getElem?_cons_zero, List.getElem?_cons_succ, List.set_cons_zero, List.set_cons_succ, List.length_cons, List.length_nil, List.map_cons, List.map_nil, List.replicate, List.cons_append, List.nil_append, hv, c3, hu]
      · refine ⟨.d (.int v), a + 1, v, by omega, ?_⟩
        rw [Ru.sIte_e, hc]
        simp only [Ru.bind_some, Ru.sIte_t]
        simp [dT, -Option.bind_some, -Option.map_some, Ru.c_e, Ru.v_e, Ru.v_d, Ru.rv_e, Ru.rv_d, Ru.rv_l, Ru.nil_e, Ru.cons_e, Ru.cons_d, Ru.cons_l, Ru.cons_2, Ru.tup_e, Ru.tup_d, Ru.lst_e, Ru.lst_d, Ru.rd_e, Ru.rd_d, Ru.rd_l, Ru.op_e, Ru.op_1, Ru.op_2, Ru.op_3, Ru.un_e, Ru.un_1, Ru.isi_e, Ru.ite_e, Ru.ite_t, Ru.ite_f, Ru.ofB_e, Ru.ofB_1, Ru.toB_e, Ru.toB_1, Ru.and_e, Ru.and_t, Ru.and_f, Ru.or_e, Ru.or_t, Ru.or_f, Ru.not_e, Ru.not_1, Ru.px_e, Ru.px_1, Ru.px_2, Ru.oN_e, Ru.oS_e, Ru.oS_1, Ru.sl_e, Ru.sl_1, Ru.sl_2, Ru.sl_3, Ru.sl3_e, Ru.tl_1, Ru.tl_2, Ru.tl_3, Ru.tl_4, Ru.call_e, Ru.call_1, Ru.call_2, Ru.callP_e, Ru.callP_1, Ru.callP_2, Ru.chain_e, Ru.ch_1, Ru.ch_2, Ru.ch_t, Ru.ch_f, Ru.iL_e, Ru.iL_d, Ru.iL_l, Ru.iT_e, Ru.iT_d, Ru.iR1_e, Ru.iR1_1, Ru.lR_e, Ru.lR_1, Ru.tN_e, Ru.tT_2, Ru.yes_e, Ru.lc_e, Ru.lc_1, Ru.lc_2, Ru.seq_e, Ru.seq_nx, Ru.seq_rt, Ru.nop_e, Ru.set_e, Ru.set_d, Ru.set_l, Ru.setL_e, Ru.setL_l, Ru.ret_e, Ru.ret_1, Ru.retV_e, Ru.retV_l, Ru.retV_d, Ru.frz_e, Ru.frz_l, Ru.sIte_e, Ru.sIte_t, Ru.sIte_f, Ru.for_e, Ru.for_1, Ru.for_nil, Ru.for_cons, Ru.fK_1, Ru.fK_nx, Ru.fK_rt, Ru.append_e, Ru.append_1, Ru.append_d, Ru.append_l, Ru.extend_e, Ru.extend_1, Ru.extend_l, Ru.pop_e, Ru.pop_1, Ru.setIx_e, Ru.setIx_d, Ru.setP_e, Ru.setP_d, Ru.setP_1, Ru.par_e, Ru.par_1, Ru.stup_e, Ru.stup_d, Ru.wK_t, Ru.wK_f, Ru.wK_nx, Ru.wK_rt, Ru.runB_f, Ru.runB_t, Ru.rb_f, Ru.rb_t, Ru.rb_n, Ru.lt_i, Ru.le_i, Ru.gt_i, Ru.ge_i, Ru.sub_i, Ru.add_i, Ru.add_s, Ru.add_t, Ru.add_l, Ru.mul_i, Ru.div_i, Ru.mod_i, Ru.neg_i, Ru.is_n, Ru.isNot_n, Ru.non_n, Ru.non_i, Ru.non_b, Ru.non_s, Ru.non_l, Ru.non_t, Ru.len_l, Ru.len_t, Ru.len_s, Ru.list_l, Ru.list_t, Ru.tuple_l, Ru.tuple_t, Ru.int_i, Ru.gsl_l, Ru.gsl_t, Ru.gsl_s, Ru.eq_s, Ru.eq_i, Ru.eq_b, Ru.ne_b, Ru.ne_s, Ru.ne_i, Ru.in_2, Ru.atI_0, Ru.atI_1, Ru.atI_2, Ru.ix_t, Ru.ix_l, Ru.cut_1, E.wipeS, Ru.bind_some, Option.bind_none, Ru.map_some, Option.map_none, List.getElem?_cons_zero, List.getElem?_cons_succ, List.set_cons_zero, List.set_cons_succ, List.length_cons, List.length_nil, List.map_cons, List.map_nil, List.replicate, List.cons_append, List.nil_append, hv, c3]
    · refine ⟨.un, a, b, h0, ?_⟩
      have hc : dC ⟨[.pool, .d (.int many), .un, .un, .un], some (PL ns a b c s)⟩ = some (false, some (PL ns a b c s)) := by
        simp [dC, -Option.bind_some, -Option.map_some, Ru.c_e, Ru.v_e, Ru.v_d, Ru.rv_e, Ru.rv_d, Ru.rv_l, Ru.nil_e, Ru.cons_e, Ru.cons_d, Ru.cons_l, Ru.cons_2, Ru.tup_e, Ru.tup_d, Ru.lst_e, Ru.lst_d, Ru.rd_e, Ru.rd_d, Ru.rd_l, Ru.op_e, Ru.op_1, Ru.op_2, Ru.op_3, Ru.un_e, Ru.un_1, Ru.isi_e, Ru.ite_e, Ru.ite_t, Ru.ite_f, Ru.ofB_e, Ru.ofB_1, Ru.toB_e, Ru.toB_1, Ru.and_e, Ru.and_t, Ru.and_f, Ru.or_e, Ru.or_t, Ru.or_f, Ru.not_e, Ru.not_1, Ru.px_e, Ru.px_1, Ru.px_2, Ru.oN_e, Ru.oS_e, Ru.oS_1, Ru.sl_e, Ru.sl_1, Ru.sl_2, Ru.sl_3, Ru.sl3_e, Ru.tl_1, Ru.tl_2, Ru.tl_3, Ru.tl_4, Ru.call_e, Ru.call_1, Ru.call_2, Ru.callP_e, Ru.callP_1, Ru.callP_2, Ru.chain_e, Ru.ch_1, Ru.ch_2, Ru.ch_t, Ru.ch_f, Ru.iL_e, Ru.iL_d, Ru.iL_l, Ru.iT_e, Ru.iT_d, Ru.iR1_e, Ru.iR1_1, Ru.lR_e, Ru.lR_1, Ru.tN_e, Ru.tT_2, Ru.yes_e, Ru.lc_e, Ru.lc_1, Ru.lc_2, Ru.seq_e, Ru.seq_nx, Ru.seq_rt, Ru.nop_e, Ru.set_e, Ru.set_d, Ru.set_l, Ru.setL_e, Ru.setL_l, Ru.ret_e, Ru.ret_1, Ru.retV_e, Ru.retV_l, Ru.retV_d, Ru.frz_e, Ru.frz_l, Ru.sIte_e, Ru.sIte_t, Ru.sIte_f, Ru.for_e, Ru.for_1, Ru.for_nil, Ru.for_cons, Ru.fK_1, Ru.fK_nx, Ru.fK_rt, Ru.append_e, Ru.append_1, Ru.append_d, Ru.append_l, Ru.extend_e, Ru.extend_1, Ru.extend_l, Ru.pop_e, Ru.pop_1, Ru.setIx_e, Ru.setIx_d, Ru.setP_e, Ru.setP_d, Ru.setP_1, Ru.par_e, Ru.par_1, Ru.stup_e, Ru.stup_d, Ru.wK_t, Ru.wK_f, Ru.wK_nx, Ru.wK_rt, Ru.runB_f, Ru.runB_t, Ru.rb_f, Ru.rb_t, Ru.rb_n, Ru.lt_i, Ru.le_i, Ru.gt_i, Ru.ge_i, Ru.sub_i, Ru.add_i, Ru.add_s, Ru.add_t, Ru.add_l, Ru.mul_i, Ru.div_i, Ru.mod_i, Ru.neg_i, Ru.is_n, Ru.isNot_n, Ru.non_n, Ru.non_i, Ru.non_b, Ru.non_s, Ru.non_l, Ru.non_t, Ru.len_l, Ru.len_t, Ru.len_s, Ru.list_l, Ru.list_t, Ru.tuple_l, Ru.tuple_t, Ru.int_i, Ru.gsl_l, Ru.gsl_t, Ru.gsl_s, Ru.eq_s, Ru.eq_i, Ru.eq_b, Ru.ne_b, Ru.ne_s, Ru.ne_i, Ru.in_2, Ru.atI_0, Ru.atI_1, Ru.atI_2, Ru.ix_t, Ru.ix_l, Ru.cut_1, E.wipeS, Ru.bind_some, Option.bind_none, Ru.map_some, Option.map_none, List.getElem?_cons_zero, List.getElem?_cons_succ, List.set_cons_zero, List.set_cons_succ, List.length_cons, List.length_nil, List.map_cons, List.map_nil, List.replicate, List.cons_append, List.nil_append, c1, c2]
      rw [Ru.sIte_e, hc]
      simp only [Ru.bind_some, Ru.sIte_f, Ru.nop_e]
  · refine ⟨.un, a, b, h0, ?_⟩
    have hc : dC ⟨[.pool, .d (.int many), .un, .un, .un], some (PL ns a b c s)⟩ = some (false, some (PL ns a b c s)) := by
      simp [dC, -Option.bind_some, -Option.map_some, Ru.c_e, Ru.v_e, Ru.v_d, Ru.rv_e, Ru.rv_d, Ru.rv_l, Ru.nil_e, Ru.cons_e, Ru.cons_d, Ru.cons_l, Ru.cons_2, Ru.tup_e, Ru.tup_d, Ru.lst_e, Ru.lst_d, Ru.rd_e, Ru.rd_d, Ru.rd_l, Ru.op_e, Ru.op_1, Ru.op_2, Ru.op_3, Ru.un_e, Ru.un_1, Ru.isi_e, Ru.ite_e, Ru.ite_t, Ru.ite_f, Ru.ofB_e, Ru.ofB_1, Ru.toB_e, Ru.toB_1, Ru.and_e, Ru.and_t, Ru.and_f, Ru.or_e, Ru.or_t, Ru.or_f, Ru.not_e, Ru.not_1, Ru.px_e, Ru.px_1, Ru.px_2, Ru.oN_e, Ru.oS_e, Ru.oS_1, Ru.sl_e, Ru.sl_1, Ru.sl_2, Ru.sl_3, Ru.sl3_e, Ru.tl_1, Ru.tl_2, Ru.tl_3, Ru.tl_4, Ru.call_e, Ru.call_1, Ru.call_2, Ru.callP_e, Ru.callP_1, Ru.callP_2, Ru.chain_e, Ru.ch_1, Ru.ch_2, Ru.ch_t, Ru.ch_f, Ru.iL_e, Ru.iL_d, Ru.iL_l, Ru.iT_e, Ru.iT_d, Ru.iR1_e, Ru.iR1_1, Ru.lR_e, Ru.lR_1, Ru.tN_e, Ru.tT_2, Ru.yes_e, Ru.lc_e, Ru.lc_1, Ru.lc_2, Ru.seq_e, Ru.seq_nx, Ru.seq_rt, Ru.nop_e, Ru.set_e, Ru.set_d, Ru.set_l, Ru.setL_e, Ru.setL_l, Ru.ret_e, Ru.ret_1, Ru.retV_e, Ru.retV_l, Ru.retV_d, Ru.frz_e, Ru.frz_l, Ru.sIte_e, Ru.sIte_t, Ru.sIte_f, Ru.for_e, Ru.for_1, Ru.for_nil, Ru.for_cons, Ru.fK_1, Ru.fK_nx, Ru.fK_rt, Ru.append_e, Ru.append_1, Ru.append_d, Ru.append_l, Ru.extend_e, Ru.extend_1, Ru.extend_l, Ru.pop_e, Ru.pop_1, Ru.setIx_e, Ru.setIx_d, Ru.setP_e, Ru.setP_d, Ru.setP_1, Ru.par_e, Ru.par_1, Ru.stup_e, Ru.stup_d, Ru.wK_t, Ru.wK_f, Ru.wK_nx, Ru.wK_rt, Ru.runB_f, Ru.runB_t, Ru.rb_f, Ru.rb_t, Ru.rb_n, Ru.lt_i, Ru.le_i, Ru.gt_i, Ru.ge_i, Ru.sub_i, Ru.add_i, Ru.add_s, Ru.add_t, Ru.add_l, Ru.mul_i, Ru.div_i, Ru.mod_i, Ru.neg_i, Ru.is_n, Ru.isNot_n, Ru.non_n, Ru.non_i, Ru.non_b, Ru.non_s, Ru.non_l, Ru.non_t, Ru.len_l, Ru.len_t, Ru.len_s, Ru.list_l, Ru.list_t, Ru.tuple_l, Ru.tuple_t, Ru.int_i, Ru.gsl_l, Ru.gsl_t, Ru.gsl_s, Ru.eq_s, Ru.eq_i, Ru.eq_b, Ru.ne_b, Ru.ne_s, Ru.ne_i, Ru.in_2, Ru.atI_0, Ru.atI_1, Ru.atI_2, Ru.ix_t, Ru.ix_l, Ru.cut_1, E.wipeS, Ru.bind_some, Option.bind_none, Ru.map_some, Option.map_none, List.getElem?_cons_zero, List.getElem?_cons_succ, List.set_cons_zero, List.set_cons_succ, List.length_cons, List.length_nil, List.map_cons, List.map_nil, List.replicate, List.cons_append, List.nil_append, c1]
    rw [Ru.sIte_e, hc]
    simp only [Ru.bind_some, Ru.sIte_f, Ru.nop_e]
theorem draw_rest {many : Int} {ns : List Int} {a b c s : Int} {s2 : Sl} (h0 : 0 ≤ a) (hm : 0 < many) (hM : many < 1073741824) : ∃ v p', VP p' ∧ 0 ≤ v ∧ v < many ∧
    dR ⟨[.pool, .d (.int many), s2, .un, .un], some (PL ns a b c s)⟩ = some (.rt (.d (.int v)) p') := by
  by_cases c1 : b ≤ 0
  · refine ⟨_, _, ⟨ns, a, b, c + 1, s, h0, rfl⟩, Int.emod_nonneg (((s * 48271 + (c + 1) * 69621 + 1) % 2147483647 * 16807 + (c + 1)) % 2147483629 / 5) (by omega), Int.emod_lt_of_pos _ hm, ?_⟩
    simp [dR, -Option.bind_some, -Option.map_some, Ru.c_e, Ru.v_e, Ru.v_d, Ru.rv_e, Ru.rv_d, Ru.rv_l, Ru.nil_e, Ru.cons_e, Ru.cons_d, Ru.cons_l, Ru.cons_2, Ru.tup_e, Ru.tup_d, Ru.lst_e, Ru.lst_d, Ru.rd_e, Ru.rd_d, Ru.rd_l, Ru.op_e, Ru.op_1, Ru.op_2, Ru.op_3, Ru.un_e, Ru.un_1, Ru.isi_e, Ru.ite_e, Ru.ite_t, Ru.ite_f, Ru.ofB_e, Ru.ofB_1, Ru.toB_e, Ru.toB_1, Ru.and_e, Ru.and_t, Ru.and_f, Ru.or_e, Ru.or_t, Ru.or_f, Ru.not_e, Ru.not_1, Ru.px_e, Ru.px_1, Ru.px_2, Ru.oN_e, Ru.oS_e, Ru.oS_1, Ru.sl_e, Ru.sl_1, Ru.sl_2, Ru.sl_3, Ru.sl3_e, Ru.tl_1, Ru.tl_2, Ru.tl_3, Ru.tl_4, Ru.call_e, Ru.call_1, Ru.call_2, Ru.callP_e, Ru.callP_1, Ru.callP_2, Ru.chain_e, Ru.ch_1, Ru.ch_2, Ru.ch_t, Ru.ch_f, Ru.iL_e, Ru.iL_d, Ru.iL_l, Ru.iT_e, Ru.iT_d, Ru.iR1_e, Ru.iR1_1, Ru.lR_e, Ru.lR_1, Ru.tN_e, Ru.tT_2, Ru.yes_e, Ru.lc_e, Ru.lc_1, Ru.lc_2, Ru.seq_e, Ru.seq_nx, Ru.seq_rt, Ru.nop_e, Ru.set_e, Ru.set_d, Ru.set_l, Ru.setL_e, Ru.setL_l, Ru.ret_e, Ru.ret_1, Ru.retV_e, Ru.retV_l, Ru.retV_d, Ru.frz_e, Ru.frz_l, Ru.sIte_e, Ru.sIte_t, Ru.sIte_f, Ru.for_e, Ru.for_1, Ru.for_nil, Ru.for_cons, Ru.fK_1, Ru.fK_nx, Ru.fK_rt, Ru.append_e, Ru.append_1, Ru.append_d, Ru.append_l, Ru.extend_e, Ru.extend_1, Ru.extend_l, Ru.pop_e, Ru.pop_1, Ru.setIx_e, Ru.setIx_d, Ru.setP_e, Ru.setP_d, Ru.setP_1, Ru.par_e, Ru.par_1, Ru.stup_e, Ru.stup_d, Ru.wK_t, Ru.wK_f, Ru.wK_nx, Ru.wK_rt, Ru.runB_f, Ru.runB_t, Ru.rb_f, Ru.rb_t, Ru.rb_n, Ru.lt_i, Ru.le_i, Ru.gt_i, Ru.ge_i, Ru.sub_i, Ru.add_i, Ru.add_s, Ru.add_t, Ru.add_l, Ru.mul_i, Ru.div_i, Ru.mod_i, Ru.neg_i, Ru.is_n, Ru.isNot_n, Ru.non_n, Ru.non_i, Ru.non_b, Ru.non_s, Ru.non_l, Ru.non_t, Ru.len_l, Ru.len_t, Ru.len_s, Ru.list_l, Ru.list_t, Ru.tuple_l, Ru.tuple_t, Ru.int_i, Ru.gsl_l, Ru.gsl_t, Ru.gsl_s, Ru.eq_s, Ru.eq_i, Ru.eq_b, Ru.ne_b, Ru.ne_s, Ru.ne_i, Ru.in_2, Ru.atI_0, Ru.atI_1, Ru.atI_2, Ru.ix_t, Ru.ix_l, Ru.cut_1, E.wipeS, Ru.bind_some, Option.bind_none, Ru.map_some, Option.map_none, List.getElem?_cons_zero, List.getElem?_cons_succ, List.set_cons_zero, List.set_cons_succ, List.length_cons, List.length_nil, List.map_cons, List.map_nil, List.replicate, List.cons_append, List.nil_append, c1, hm]
  · refine ⟨_, _, ⟨ns, a, b / many, c + 1, s, h0, rfl⟩, Int.emod_nonneg b (by omega), Int.emod_lt_of_pos _ hm, ?_⟩
    simp [dR, -Option.bind_some, -Option.map_some, Ru.c_e, Ru.v_e, Ru.v_d, Ru.rv_e, Ru.rv_d, Ru.rv_l, Ru.nil_e, Ru.cons_e, Ru.cons_d, Ru.cons_l, Ru.cons_2, Ru.tup_e, Ru.tup_d, Ru.lst_e, Ru.lst_d, Ru.rd_e, Ru.rd_d, Ru.rd_l, Ru.op_e, Ru.op_1, Ru.op_2, Ru.op_3, Ru.un_e, Ru.un_1, Ru.isi_e, Ru.ite_e, Ru.ite_t, Ru.ite_f, Ru.ofB_e, Ru.ofB_1, Ru.toB_e, Ru.toB_1, Ru.and_e, Ru.and_t, Ru.and_f, Ru.or_e, Ru.or_t, Ru.or_f, Ru.not_e, Ru.not_1, Ru.px_e, Ru.px_1, Ru.px_2, Ru.oN_e, Ru.oS_e, Ru.oS_1, Ru.sl_e, Ru.sl_1, Ru.sl_2, Ru.sl_3, Ru.sl3_e, Ru.tl_1, Ru.tl_2, Ru.tl_3, Ru.tl_4, Ru.call_e, Ru.call_1, Ru.call_2, Ru.callP_e, Ru.callP_1, Ru.callP_2, Ru.chain_e, Ru.ch_1, Ru.ch_2, Ru.ch_t, Ru.ch_f, Ru.iL_e, Ru.iL_d, Ru.iL_l, Ru.iT_e, Ru.iT_d, Ru.iR1_e, Ru.iR1_1, Ru.lR_e, Ru.lR_1, Ru.tN_e, Ru.tT_2, Ru.yes_e, Ru.lc_e, Ru.lc_1, Ru.lc_2, Ru.seq_e, Ru.seq_nx, Ru.seq_rt, Ru.nop_e, Ru.set_e, Ru.set_d, Ru.set_l, Ru.setL_e, Ru.setL_l, Ru.ret_e, Ru.ret_1, Ru.retV_e, Ru.retV_l, Ru.retV_d, Ru.frz_e, Ru.frz_l, Ru.sIte_e, Ru.sIte_t, Ru.sIte_f, Ru.for_e, Ru.for_1, Ru.for_nil, Ru.for_cons, Ru.fK_1, Ru.fK_nx, Ru.fK_rt, Ru.append_e, Ru.append_1, Ru.append_d, Ru.append_l, Ru.extend_e, Ru.extend_1, Ru.extend_l, Ru.pop_e, Ru.pop_1, Ru.setIx_e, Ru.setIx_d, Ru.setP_e, Ru.setP_d, Ru.setP_1, Ru.par_e, Ru.par_1, Ru.stup_e, Ru.stup_d, Ru.wK_t, Ru.wK_f, Ru.wK_nx, Ru.wK_rt, Ru.runB_f, Ru.runB_t, Ru.rb_f, Ru.rb_t, Ru.rb_n, Ru.lt_i, Ru.le_i, Ru.gt_i, Ru.ge_i, Ru.sub_i, Ru.add_i, Ru.add_s, Ru.add_t, Ru.add_l, Ru.mul_i, Ru.div_i, Ru.mod_i, Ru.neg_i, Ru.is_n, Ru.isNot_n, Ru.non_n, Ru.non_i, Ru.non_b, Ru.non_s, Ru.non_l, Ru.non_t, Ru.len_l, Ru.len_t, Ru.len_s, Ru.list_l, Ru.list_t, Ru.tuple_l, Ru.tuple_t, Ru.int_i, Ru.gsl_l, Ru.gsl_t, Ru.gsl_s, Ru.eq_s, Ru.eq_i, Ru.eq_b, Ru.ne_b, Ru.ne_s, Ru.ne_i, Ru.in_2, Ru.atI_0, Ru.atI_1, Ru.atI_2, Ru.ix_t, Ru.ix_l, Ru.cut_1, E.wipeS, Ru.bind_some, Option.bind_none, Ru.map_some, Option.map_none, List.getElem?_cons_zero, List.getElem?_cons_succ, List.set_cons_zero, List.set_cons_succ, List.length_cons, List.length_nil, List.map_cons, List.map_nil, List.replicate, List.cons_append, List.nil_append, c1, hm, hM]
theorem draw_ok {many : Int} (hm : 0 < many) (hM : many < 1073741824) {p : Pl} (h : VP p) : ∃ v p', VP p' ∧ 0 ≤ v ∧ v < many ∧ m_law_draw [.int many] p = some (.d (.int v), p') := by
  obtain ⟨ns, a, b, c, s, h0, rfl⟩ := h
  obtain ⟨s2, a', b', h0', h1⟩ := draw_first (many := many) (ns := ns) (b := b) (c := c) (s := s) h0
  obtain ⟨v, p', hp', hv, hv', h2⟩ := draw_rest (ns := ns) (b := b') (c := c) (s := s) (s2 := s2) h0' hm hM
  refine ⟨v, p', hp', hv, hv', ?_⟩
  unfold m_law_draw
  rw [draw_eq, Ru.runB_t (by simp), Ru.seq_e]
  simp only [List.map_cons, List.map_nil, List.cons_append, List.nil_append, Nat.reduceSub, List.replicate]
  rw [h1]
  simp only [Ru.bind_some, Ru.seq_nx]
  rw [h2]
  rfl
theorem VP.some {p : Pl} (h : VP p) : ∃ xs, p = some xs := by
  obtain ⟨ns, a, b, c, s, _, e⟩ := h
  exact ⟨_, e⟩
/-! ### pick -/
def m_law_pick : MF := runB 2 true 2 (b_law_pick m_law_draw)
theorem atI_mem {α : Type} {xs : List α} {v : Int} (h0 : 0 ≤ v) (h : v < xs.length) : ∃ y, y ∈ xs ∧ atI xs v = some y := by
  refine ⟨xs[v.toNat]'(by omega), List.getElem_mem _, ?_⟩
  have hix : ixN xs.length v = some v.toNat := by
    unfold ixN
    rw [if_pos h0, if_pos h]
  unfold atI
  rw [hix]
  show xs[v.toNat]? = _
  rw [List.getElem?_eq_getElem (by omega)]
theorem pick_l {xs : List D} (h1 : 0 < xs.length) (h2 : xs.length < 1000000) {p : Pl} (h : VP p) : ∃ y p', VP p' ∧ y ∈ xs ∧ m_law_pick [.list xs] p = some (.d y, p') := by
  obtain ⟨v, p', hp, hv, hv', e⟩ := draw_ok (many := (xs.length : Int)) (by omega) (by omega) h
  obtain ⟨y, hy, e2⟩ := atI_mem hv hv'
  obtain ⟨q, rfl⟩ := h.some
  exact ⟨y, p', hp, hy, by simp [m_law_pick, b_law_pick, -Option.bind_some, -Option.map_some, Ru.c_e, Ru.v_e, Ru.v_d, Ru.rv_e, Ru.rv_d, Ru.rv_l, Ru.nil_e, Ru.cons_e, Ru.cons_d, Ru.cons_l, Ru.cons_2, Ru.tup_e, Ru.tup_d, Ru.lst_e, Ru.lst_d, Ru.rd_e, Ru.rd_d, Ru.rd_l, Ru.op_e, Ru.op_1, Ru.op_2, Ru.op_3, Ru.un_e, Ru.un_1, Ru.isi_e, Ru.ite_e, Ru.ite_t, Ru.ite_f, Ru.ofB_e, Ru.ofB_1, Ru.toB_e, Ru.toB_1, Ru.and_e, Ru.and_t, Ru.and_f, Ru.or_e, Ru.or_t, Ru.or_f, Ru.not_e, Ru.not_1, Ru.px_e, Ru.px_1, Ru.px_2, Ru.oN_e, Ru.oS_e, Ru.oS_1, Ru.sl_e, Ru.sl_1, Ru.sl_2, Ru.sl_3, Ru.sl3_e, Ru.tl_1, Ru.tl_2, Ru.tl_3, Ru.tl_4, Ru.call_e, Ru.call_1, Ru.call_2, Ru.callP_e, Ru.callP_1, Ru.callP_2, Ru.chain_e, Ru.ch_1, Ru.ch_2, Ru.ch_t, Ru.ch_f, Ru.iL_e, Ru.iL_d, Ru.iL_l, Ru.iT_e, Ru.iT_d, Ru.iR1_e, Ru.iR1_1, Ru.lR_e, Ru.lR_1, Ru.tN_e, Ru.tT_2, Ru.yes_e, Ru.lc_e, Ru.lc_1, Ru.lc_2, Ru.seq_e, Ru.seq_nx, Ru.seq_rt, Ru.nop_e, Ru.set_e, Ru.set_d, Ru.set_l, Ru.setL_e, Ru.setL_l, Ru.ret_e, Ru.ret_1, Ru.retV_e, Ru.retV_l, Ru.retV_d, Ru.frz_e, Ru.frz_l, Ru.sIte_e, Ru.sIte_t, Ru.sIte_f, Ru.for_e, Ru.for_1, Ru.for_nil, Ru.for_cons, Ru.fK_1, Ru.fK_nx, Ru.fK_rt, Ru.append_e, Ru.append_1, Ru.append_d, Ru.append_l, Ru.extend_e, Ru.extend_1, Ru.extend_l, Ru.pop_e, Ru.pop_1, Ru.setIx_e, Ru.setIx_d, Ru.setP_e, Ru.setP_d, Ru.setP_1, Ru.par_e, Ru.par_1, Ru.stup_e, Ru.stup_d, Ru.wK_t, Ru.wK_f, Ru.wK_nx, Ru.wK_rt, Ru.runB_f, Ru.runB_t, Ru.rb_f, Ru.rb_t, Ru.rb_n, Ru.lt_i, Ru.le_i, Ru.gt_i, Ru.ge_i, Ru.sub_i, Ru.add_i, Ru.add_s, Ru.add_t, Ru.add_l, Ru.mul_i, Ru.div_i, Ru.mod_i, Ru.neg_i, Ru.is_n, Ru.isNot_n, Ru.non_n, Ru.non_i, Ru.non_b, Ru.non_s, Ru.non_l, Ru.non_t, Ru.len_l, Ru.len_t, Ru.len_s, Ru.list_l, Ru.list_t, Ru.tuple_l, Ru.tuple_t, Ru.int_i, Ru.gsl_l, Ru.gsl_t, Ru.gsl_s, Ru.eq_s, Ru.eq_i, Ru.eq_b, Ru.ne_b, Ru.ne_s, Ru.ne_i, Ru.in_2, Ru.atI_0, Ru.atI_1, Ru.atI_2, Ru.ix_t, Ru.ix_l, Ru.cut_1, E.wipeS, Ru.bind_some, Option.bind_none, Ru.map_some, Option.map_none, List.getElem?_cons_zero, List.getElem?_cons_succ, List.set_cons_zero, List.set_cons_succ, List.length_cons, List.length_nil, List.map_cons, List.map_nil, List.replicate, List.cons_append, List.nil_append, e, e2]⟩
theorem pick_t {xs : List D} (h1 : 0 < xs.length) (h2 : xs.length < 1000000) {p : Pl} (h : VP p) : ∃ y p', VP p' ∧ y ∈ xs ∧ m_law_pick [.tuple xs] p = some (.d y, p') := by
  obtain ⟨v, p', hp, hv, hv', e⟩ := draw_ok (many := (xs.length : Int)) (by omega) (by omega) h
  obtain ⟨y, hy, e2⟩ := atI_mem hv hv'
  obtain ⟨q, rfl⟩ := h.some
  exact ⟨y, p', hp, hy, by simp [m_law_pick, b_law_pick, -Option.bind_some, -Option.map_some, Ru.c_e, Ru.v_e, Ru.v_d, Ru.rv_e, Ru.rv_d, Ru.rv_l, Ru.nil_e, Ru.cons_e, Ru.cons_d, Ru.cons_l, Ru.cons_2, Ru.tup_e, Ru.tup_d, Ru.lst_e, Ru.lst_d, Ru.rd_e, Ru.rd_d, Ru.rd_l, Ru.op_e, Ru.op_1, Ru.op_2, Ru.op_3, Ru.un_e, Ru.un_1, Ru.isi_e, Ru.ite_e, Ru.ite_t, Ru.ite_f, Ru.ofB_e, Ru.ofB_1, Ru.toB_e, Ru.toB_1, Ru.and_e, Ru.and_t, Ru.and_f, Ru.or_e, Ru.or_t, Ru.or_f, Ru.not_e, Ru.not_1, Ru.px_e, Ru.px_1, Ru.px_2, Ru.oN_e, Ru.oS_e, Ru.oS_1, Ru.sl_e, Ru.sl_1, Ru.sl_2, Ru.sl_3, Ru.sl3_e, Ru.tl_1, Ru.tl_2, Ru.tl_3, Ru.tl_4, Ru.call_e, Ru.call_1, Ru.call_2, Ru.callP_e, Ru.callP_1, Ru.callP_2, Ru.chain_e, Ru.ch_1, Ru.ch_2, Ru.ch_t, Ru.ch_f, Ru.iL_e, Ru.iL_d, Ru.iL_l, Ru.iT_e, Ru.iT_d, Ru.iR1_e, Ru.iR1_1, Ru.lR_e, Ru.lR_1, Ru.tN_e, Ru.tT_2, Ru.yes_e, Ru.lc_e, Ru.lc_1, Ru.lc_2, Ru.seq_e, Ru.seq_nx, Ru.seq_rt, Ru.nop_e, Ru.set_e, Ru.set_d, Ru.set_l, Ru.setL_e, Ru.setL_l, Ru.ret_e, Ru.ret_1, Ru.retV_e, Ru.retV_l, Ru.retV_d, Ru.frz_e, Ru.frz_l, Ru.sIte_e, Ru.sIte_t, Ru.sIte_f, Ru.for_e, Ru.for_1, Ru.for_nil, Ru.for_cons, Ru.fK_1, Ru.fK_nx, Ru.fK_rt, Ru.append_e, Ru.append_1, Ru.append_d, Ru.append_l, Ru.extend_e, Ru.extend_1, Ru.extend_l, Ru.pop_e, Ru.pop_1, Ru.setIx_e, Ru.setIx_d, Ru.setP_e, Ru.setP_d, Ru.setP_1, Ru.par_e, Ru.par_1, Ru.stup_e, Ru.stup_d, Ru.wK_t, Ru.wK_f, Ru.wK_nx, Ru.wK_rt, Ru.runB_f, Ru.runB_t, Ru.rb_f, Ru.rb_t, Ru.rb_n, Ru.lt_i, Ru.le_i, Ru.gt_i, Ru.ge_i, Ru.sub_i, Ru.add_i, Ru.add_s, Ru.add_t, Ru.add_l, Ru.mul_i, Ru.div_i, Ru.mod_i, Ru.neg_i, Ru.is_n, Ru.isNot_n, Ru.non_n, Ru.non_i, Ru.non_b, Ru.non_s, Ru.non_l, Ru.non_t, Ru.len_l, Ru.len_t, Ru.len_s, Ru.list_l, Ru.list_t, Ru.tuple_l, Ru.tuple_t, Ru.int_i, Ru.gsl_l, Ru.gsl_t, Ru.gsl_s, Ru.eq_s, Ru.eq_i, Ru.eq_b, Ru.ne_b, Ru.ne_s, Ru.ne_i, Ru.in_2, Ru.atI_0, Ru.atI_1, Ru.atI_2, Ru.ix_t, Ru.ix_l, Ru.cut_1, E.wipeS, Ru.bind_some, Option.bind_none, Ru.map_some, Option.map_none, List.getElem?_cons_zero, List.getElem?_cons_succ, List.set_cons_zero, List.set_cons_succ, List.length_cons, List.length_nil, List.map_cons, List.map_nil, List.replicate, List.cons_append, List.nil_append, e, e2]⟩
/-! ### world -/
def m_law_world : MF := runB 3 true 2 (b_law_world m_law_pick)
def rows8 : List D := [W 1 1, W 1 2, W 2 1, W 2 2, W 1 3, W 3 1, W 2 3, W 3 2]
theorem e_world {p : Pl} (h : VP p) : ∃ (d t : Nat) (p' : Pl), VP p' ∧ 1 ≤ d ∧ d ≤ 3 ∧ 1 ≤ t ∧ t ≤ 3 ∧ m_law_world [.int 6] p = some (.d (W d t), p') := by
  obtain ⟨y, p', hp, hy, e⟩ := pick_l (xs := rows8) (by decide) (by decide) h
  obtain ⟨q, rfl⟩ := h.some
  have hz := Ru.lc_map (t := E.tN 2) (c := E.toB (E.op gLe (E.rd (E.op gMul (E.rd (E.op gIx (E.rv 2) (E.rd (E.c (.int 0))))) (E.rd (E.op gIx (E.rv 2) (E.rd (E.c (.int 1))))))) (E.rv 1))) (f := E.v 2) (r := [.pool, .d (.int 6), .un]) (p := some q) id rows8 [] fun x hx => by
    refine ⟨_, rfl, ?_, .d x, ?_, rfl⟩
    · simp only [rows8, List.mem_cons, List.not_mem_nil, or_false] at hx
      rcases hx with rfl | rfl | rfl | rfl | rfl | rfl | rfl | rfl <;> simp [-Option.bind_some, -Option.map_some, Ru.c_e, Ru.v_e, Ru.v_d, Ru.rv_e, Ru.rv_d, Ru.rv_l, Ru.nil_e, Ru.cons_e, Ru.cons_d, Ru.cons_l, Ru.cons_2, Ru.tup_e, Ru.tup_d, Ru.lst_e, Ru.lst_d, Ru.rd_e, Ru.rd_d, Ru.rd_l, Ru.op_e, Ru.op_1, Ru.op_2, Ru.op_3, Ru.un_e, Ru.un_1, Ru.isi_e, Ru.ite_e, Ru.ite_t, Ru.ite_f, Ru.ofB_e, Ru.ofB_1, Ru.toB_e, Ru.toB_1, Ru.and_e, Ru.and_t, Ru.and_f, Ru.or_e, Ru.or_t, Ru.or_f, Ru.not_e, Ru.not_1, Ru.px_e, Ru.px_1, Ru.px_2, Ru.oN_e, Ru.oS_e, Ru.oS_1, Ru.sl_e, Ru.sl_1, Ru.sl_2, Ru.sl_3, Ru.sl3_e, Ru.tl_1, Ru.tl_2, Ru.tl_3, Ru.tl_4, Ru.call_e, Ru.call_1, Ru.call_2, Ru.callP_e, Ru.callP_1, Ru.callP_2, Ru.chain_e, Ru.ch_1, Ru.ch_2, Ru.ch_t, Ru.ch_f, Ru.iL_e, Ru.iL_d, Ru.iL_l, Ru.iT_e, Ru.iT_d, Ru.iR1_e, Ru.iR1_1, Ru.lR_e, Ru.lR_1, Ru.tN_e, Ru.tT_2, Ru.yes_e, Ru.lc_e, Ru.lc_1, Ru.lc_2, Ru.seq_e, Ru.seq_nx, Ru.seq_rt, Ru.nop_e, Ru.set_e, Ru.set_d, Ru.set_l, Ru.setL_e, Ru.setL_l, Ru.ret_e, Ru.ret_1, Ru.retV_e, Ru.retV_l, Ru.retV_d, Ru.frz_e, Ru.frz_l, Ru.sIte_e, Ru.sIte_t, Ru.sIte_f, Ru.for_e, Ru.for_1, Ru.for_nil, Ru.for_cons, Ru.fK_1, Ru.fK_nx, Ru.fK_rt, Ru.append_e, Ru.append_1, Ru.append_d, Ru.append_l, Ru.extend_e, Ru.extend_1, Ru.extend_l, Ru.pop_e, Ru.pop_1, Ru.setIx_e, Ru.setIx_d, Ru.setP_e, Ru.setP_d, Ru.setP_1, Ru.par_e, Ru.par_1, Ru.stup_e, Ru.stup_d, Ru.wK_t, Ru.wK_f, Ru.wK_nx, Ru.wK_rt, Ru.runB_f, Ru.runB_t, Ru.rb_f, Ru.rb_t, Ru.rb_n, Ru.lt_i, Ru.le_i, Ru.gt_i, Ru.ge_i, Ru.sub_i, Ru.add_i, Ru.add_s, Ru.add_t, Ru.add_l, Ru.mul_i, Ru.div_i, Ru.mod_i, Ru.neg_i, Ru.is_n, Ru.isNot_n, Ru.non_n, Ru.non_i, Ru.non_b, Ru.non_s, Ru.non_l, Ru.non_t, Ru.len_l, Ru.len_t, Ru.len_s, Ru.list_l, Ru.list_t, Ru.tuple_l, Ru.tuple_t, Ru.int_i, Ru.gsl_l, Ru.gsl_t, Ru.gsl_s, Ru.eq_s, Ru.eq_i, Ru.eq_b, Ru.ne_b, Ru.ne_s, Ru.ne_i, Ru.in_2, Ru.atI_0, Ru.atI_1, Ru.atI_2, Ru.ix_t, Ru.ix_l, Ru.cut_1, E.wipeS, Ru.bind_some, Option.bind_none, Ru.map_some, Option.map_none, List.getElem?_cons_zero, List.getElem?_cons_succ, List.set_cons_zero, List.set_cons_succ, List.length_cons, List.length_nil, List.map_cons, List.map_nil, List.replicate, List.cons_append, List.nil_append]
    · simp [-Option.bind_some, -Option.map_some, Ru.c_e, Ru.v_e, Ru.v_d, Ru.rv_e, Ru.rv_d, Ru.rv_l, Ru.nil_e, Ru.cons_e, Ru.cons_d, Ru.cons_l, Ru.cons_2, Ru.tup_e, Ru.tup_d, Ru.lst_e, Ru.lst_d, Ru.rd_e, Ru.rd_d, Ru.rd_l, Ru.op_e, Ru.op_1, Ru.op_2, Ru.op_3, Ru.un_e, Ru.un_1, Ru.isi_e, Ru.ite_e, Ru.ite_t, Ru.ite_f, Ru.ofB_e, Ru.ofB_1, Ru.toB_e, Ru.toB_1, Ru.and_e, Ru.and_t, Ru.and_f, Ru.or_e, Ru.or_t, Ru.or_f, Ru.not_e, Ru.not_1, Ru.px_e, Ru.px_1, Ru.px_2, Ru.oN_e, Ru.oS_e, Ru.oS_1, Ru.sl_e, Ru.sl_1, Ru.sl_2, Ru.sl_3, Ru.sl3_e, Ru.tl_1, Ru.tl_2, Ru.tl_3, Ru.tl_4, Ru.call_e, Ru.call_1, Ru.call_2, Ru.callP_e, Ru.callP_1, Ru.callP_2, Ru.chain_e, Ru.ch_1, Ru.ch_2, Ru.ch_t, Ru.ch_f, Ru.iL_e, Ru.iL_d, Ru.iL_l, Ru.iT_e, Ru.iT_d, Ru.iR1_e, Ru.iR1_1, Ru.lR_e, Ru.lR_1, Ru.tN_e, Ru.tT_2, Ru.yes_e, Ru.lc_e, Ru.lc_1, Ru.lc_2, Ru.seq_e, Ru.seq_nx, Ru.seq_rt, Ru.nop_e, Ru.set_e, Ru.set_d, Ru.set_l, Ru.setL_e, Ru.setL_l, Ru.ret_e, Ru.ret_1, Ru.retV_e, Ru.retV_l, Ru.retV_d, Ru.frz_e, Ru.frz_l, Ru.sIte_e, Ru.sIte_t, Ru.sIte_f, Ru.for_e, Ru.for_1, Ru.for_nil, Ru.for_cons, Ru.fK_1, Ru.fK_nx, Ru.fK_rt, Ru.append_e, Ru.append_1, Ru.append_d, Ru.append_l, Ru.extend_e, Ru.extend_1, Ru.extend_l, Ru.pop_e, Ru.pop_1, Ru.setIx_e, Ru.setIx_d, Ru.setP_e, Ru.setP_d, Ru.setP_1, Ru.par_e, Ru.par_1, Ru.stup_e, Ru.stup_d, Ru.wK_t, Ru.wK_f, Ru.wK_nx, Ru.wK_rt, Ru.runB_f, Ru.runB_t, Ru.rb_f, Ru.rb_t, Ru.rb_n, Ru.lt_i, Ru.le_i, Ru.gt_i, Ru.ge_i, Ru.sub_i, Ru.add_i, Ru.add_s, Ru.add_t, Ru.add_l, Ru.mul_i, Ru.div_i, Ru.mod_i, Ru.neg_i, Ru.is_n, Ru.isNot_n, Ru.non_n, Ru.non_i, Ru.non_b, Ru.non_s, Ru.non_l, Ru.non_t, Ru.len_l, Ru.len_t, Ru.len_s, Ru.list_l, Ru.list_t, Ru.tuple_l, Ru.tuple_t, Ru.int_i, Ru.gsl_l, Ru.gsl_t, Ru.gsl_s, Ru.eq_s, Ru.eq_i, Ru.eq_b, Ru.ne_b, Ru.ne_s, Ru.ne_i, Ru.in_2, Ru.atI_0, Ru.atI_1, Ru.atI_2, Ru.ix_t, Ru.ix_l, Ru.cut_1, E.wipeS, Ru.bind_some, Option.bind_none, Ru.map_some, Option.map_none, List.getElem?_cons_zero, List.getElem?_cons_succ, List.set_cons_zero, List.set_cons_succ, List.length_cons, List.length_nil, List.map_cons, List.map_nil, List.replicate, List.cons_append, List.nil_append]
  rw [List.map_id, List.nil_append] at hz
  have e' : ∀ d t : Nat, y = W d t → m_law_world [.int 6] (some q) = some (.d (W d t), p') := fun d t hyd => by
    rw [hyd] at e
    have e8 : rows8 = [.tuple [.int 1, .int 1], .tuple [.int 1, .int 2], .tuple [.int 2, .int 1], .tuple [.int 2, .int 2], .tuple [.int 1, .int 3], .tuple [.int 3, .int 1], .tuple [.int 2, .int 3], .tuple [.int 3, .int 2]] := rfl
    rw [e8] at hz e
    simp [m_law_world, b_law_world, -Option.bind_some, -Option.map_some, Ru.c_e, Ru.v_e, Ru.v_d, Ru.rv_e, Ru.rv_d, Ru.rv_l, Ru.nil_e, Ru.cons_e, Ru.cons_d, Ru.cons_l, Ru.cons_2, Ru.tup_e, Ru.tup_d, Ru.lst_e, Ru.lst_d, Ru.rd_e, Ru.rd_d, Ru.rd_l, Ru.op_e, Ru.op_1, Ru.op_2, Ru.op_3, Ru.un_e, Ru.un_1, Ru.isi_e, Ru.ite_e, Ru.ite_t, Ru.ite_f, Ru.ofB_e, Ru.ofB_1, Ru.toB_e, Ru.toB_1, Ru.and_e, Ru.and_t, Ru.and_f, Ru.or_e, Ru.or_t, Ru.or_f, Ru.not_e, Ru.not_1, Ru.px_e, Ru.px_1, Ru.px_2, Ru.oN_e, Ru.oS_e, Ru.oS_1, Ru.sl_e, Ru.sl_1, Ru.sl_2, Ru.sl_3, Ru.sl3_e, Ru.tl_1, Ru.tl_2, Ru.tl_3, Ru.tl_4, Ru.call_e, Ru.call_1, Ru.call_2, Ru.callP_e, Ru.callP_1, Ru.callP_2, Ru.chain_e, Ru.ch_1, Ru.ch_2, Ru.ch_t, Ru.ch_f, Ru.iL_e, Ru.iL_d, Ru.iL_l, Ru.iT_e, Ru.iT_d, Ru.iR1_e, Ru.iR1_1, Ru.lR_e, Ru.lR_1, Ru.tN_e, Ru.tT_2, Ru.yes_e, Ru.lc_e, Ru.lc_1, Ru.lc_2, Ru.seq_e, Ru.seq_nx, Ru.seq_rt, Ru.nop_e, Ru.set_e, Ru.set_d, Ru.set_l, Ru.setL_e, Ru.setL_l, Ru.ret_e, Ru.ret_1, Ru.retV_e, Ru.retV_l, Ru.retV_d, Ru.frz_e, Ru.frz_l, Ru.sIte_e, Ru.sIte_t, Ru.sIte_f, Ru.for_e, Ru.for_1, Ru.for_nil, Ru.for_cons, Ru.fK_1, Ru.fK_nx, Ru.fK_rt, Ru.append_e, Ru.append_1, Ru.append_d, Ru.append_l, Ru.extend_e, Ru.extend_1, Ru.extend_l, Ru.pop_e, Ru.pop_1, Ru.setIx_e, Ru.setIx_d, Ru.setP_e, Ru.setP_d, Ru.setP_1, Ru.par_e, Ru.par_1, Ru.stup_e, Ru.stup_d, Ru.wK_t, Ru.wK_f, Ru.wK_nx, Ru.wK_rt, Ru.runB_f, Ru.runB_t, Ru.rb_f, Ru.rb_t, Ru.rb_n, Ru.lt_i, Ru.le_i, Ru.gt_i, Ru.ge_i, Ru.sub_i, Ru.add_i, Ru.add_s, Ru.add_t, Ru.add_l, Ru.mul_i, Ru.div_i, Ru.mod_i, Ru.neg_i, Ru.is_n, Ru.isNot_n, Ru.non_n, Ru.non_i, Ru.non_b, Ru.non_s, Ru.non_l, Ru.non_t, Ru.len_l, Ru.len_t, Ru.len_s, Ru.list_l, Ru.list_t, Ru.tuple_l, Ru.tuple_t, Ru.int_i, Ru.gsl_l, Ru.gsl_t, Ru.gsl_s, Ru.eq_s, Ru.eq_i, Ru.eq_b, Ru.ne_b, Ru.ne_s, Ru.ne_i, Ru.in_2, Ru.atI_0, Ru.atI_1, Ru.atI_2, Ru.ix_t, Ru.ix_l, Ru.cut_1, E.wipeS, Ru.bind_some, Option.bind_none, Ru.map_some, Option.map_none, List.getElem?_cons_zero, List.getElem?_cons_succ, List.set_cons_zero, List.set_cons_succ, List.length_cons, List.length_nil, List.map_cons, List.map_nil, List.replicate, List.cons_append, List.nil_append, hz, e]
  simp only [rows8, List.mem_cons, List.not_mem_nil, or_false] at hy
  rcases hy with rfl | rfl | rfl | rfl | rfl | rfl | rfl | rfl
  · exact ⟨1, 1, p', hp, by decide, by decide, by decide, by decide, e' 1 1 rfl⟩
  · exact ⟨1, 2, p', hp, by decide, by decide, by decide, by decide, e' 1 2 rfl⟩
  · exact ⟨2, 1, p', hp, by decide, by decide, by decide, by decide, e' 2 1 rfl⟩
  · exact ⟨2, 2, p', hp, by decide, by decide, by decide, by decide, e' 2 2 rfl⟩
  · exact ⟨1, 3, p', hp, by decide, by decide, by decide, by decide, e' 1 3 rfl⟩
  · exact ⟨3, 1, p', hp, by decide, by decide, by decide, by decide, e' 3 1 rfl⟩
  · exact ⟨2, 3, p', hp, by decide, by decide, by decide, by decide, e' 2 3 rfl⟩
  · exact ⟨3, 2, p', hp, by decide, by decide, by decide, by decide, e' 3 2 rfl⟩
end K1

/-! deedsagain k01: drawn conditions, shuffled rows. -/
namespace K1
open PySem PySem.Spec L2 Dg
open Dg.Ru (isI isB isS isTu isLi isT_int isT_bool isT_str isT_list isT_tuple)
set_option maxHeartbeats 0
def m_law_condition : Nat → MF
  | 0 => fun _ _ => none
  | n + 1 => runB 4 true 3 (b_law_condition m_law_draw (m_law_condition n))
theorem e_condition {d : Nat} {t : Int} (h1 : 1 ≤ d) (h3 : d ≤ 3) : ∀ (k n : Nat), k < n → ∀ {p : Pl}, VP p →
    ∃ (c : C) (p' : Pl), VP p' ∧ c.ok d = true ∧ c.dep ≤ k + 2 ∧ m_law_condition n [W d t, .int k] p = some (.d c.enc, p') := by
  intro k
  induction k with
  | zero =>
    intro n hn p hp
    obtain ⟨n, rfl⟩ : ∃ m, n = m + 1 := ⟨n - 1, by omega⟩
    obtain ⟨q, rfl⟩ := hp.some
    obtain ⟨v, p1, hp1, v0, v1, e1⟩ := draw_ok (many := 4) (by decide) (by decide) hp
    obtain ⟨q1, rfl⟩ := hp1.some
    by_cases c2 : v < 2
    · obtain ⟨i, p2, hp2, i0, i1, e2⟩ := draw_ok (many := (d : Int)) (by omega) (by omega) hp1
      refine ⟨.test i.toNat, p2, hp2, by simp [C.ok]; omega, by simp [C.dep], ?_⟩
      have ei : ((i.toNat : Nat) : Int) = i := Int.toNat_of_nonneg i0
      simp [m_law_condition, b_law_condition, -Option.bind_some, -Option.map_some, Ru.c_e, Ru.v_e, Ru.v_d, Ru.rv_e, Ru.rv_d, Ru.rv_l, Ru.nil_e, Ru.cons_e, Ru.cons_d, Ru.cons_l, Ru.cons_2, Ru.tup_e, Ru.tup_d, Ru.lst_e, Ru.lst_d, Ru.rd_e, Ru.rd_d, Ru.rd_l, Ru.op_e, Ru.op_1, Ru.op_2, Ru.op_3, Ru.un_e, Ru.un_1, Ru.isi_e, Ru.ite_e, Ru.ite_t, Ru.ite_f, Ru.ofB_e, Ru.ofB_1, Ru.toB_e, Ru.toB_1, Ru.and_e, Ru.and_t, Ru.and_f, Ru.or_e, Ru.or_t, Ru.or_f, Ru.not_e, Ru.not_1, Ru.px_e, Ru.px_1, Ru.px_2, Ru.oN_e, Ru.oS_e, Ru.oS_1, Ru.sl_e, Ru.sl_1, Ru.sl_2, Ru.sl_3, Ru.sl3_e, Ru.tl_1, Ru.tl_2, Ru.tl_3, Ru.tl_4, Ru.call_e, Ru.call_1, Ru.call_2, Ru.callP_e, Ru.callP_1, Ru.callP_2, Ru.chain_e, Ru.ch_1, Ru.ch_2, Ru.ch_t, Ru.ch_f, Ru.iL_e, Ru.iL_d, Ru.iL_l, Ru.iT_e, Ru.iT_d, Ru.iR1_e, Ru.iR1_1, Ru.lR_e, Ru.lR_1, Ru.tN_e, Ru.tT_2, Ru.yes_e, Ru.lc_e, Ru.lc_1, Ru.lc_2, Ru.seq_e, Ru.seq_nx, Ru.seq_rt, Ru.nop_e, Ru.set_e, Ru.set_d, Ru.set_l, Ru.setL_e, Ru.setL_l, Ru.ret_e, Ru.ret_1, Ru.retV_e, Ru.retV_l, Ru.retV_d, Ru.frz_e, Ru.frz_l, Ru.sIte_e, Ru.sIte_t, Ru.sIte_f, Ru.for_e, Ru.for_1, Ru.for_nil, Ru.for_cons, Ru.fK_1, Ru.fK_nx, Ru.fK_rt, Ru.append_e, Ru.append_1, Ru.append_d, Ru.append_l, Ru.extend_e, Ru.extend_1, Ru.extend_l, Ru.pop_e, Ru.pop_1, Ru.setIx_e, Ru.setIx_d, Ru.setP_e, Ru.setP_d, Ru.setP_1, Ru.par_e, Ru.par_1, Ru.stup_e, Ru.stup_d, Ru.wK_t, Ru.wK_f, Ru.wK_nx, Ru.wK_rt, Ru.runB_f, Ru.runB_t, Ru.rb_f, Ru.rb_t, Ru.rb_n, Ru.lt_i, Ru.le_i, Ru.gt_i, Ru.ge_i, Ru.sub_i, Ru.add_i, Ru.add_s, Ru.add_t, Ru.add_l, Ru.mul_i, Ru.div_i, Ru.mod_i, Ru.neg_i, Ru.is_n, Ru.isNot_n, Ru.non_n, Ru.non_i, Ru.non_b, Ru.non_s, Ru.non_l, Ru.non_t, Ru.len_l, Ru.len_t, Ru.len_s, Ru.list_l, Ru.list_t, Ru.tuple_l, Ru.tuple_t, Ru.int_i, Ru.gsl_l, Ru.gsl_t, Ru.gsl_s, Ru.eq_s, Ru.eq_i, Ru.eq_b, Ru.ne_b, Ru.ne_s, Ru.ne_i, Ru.in_2, Ru.atI_0, Ru.atI_1, Ru.atI_2, Ru.ix_t, Ru.ix_l, Ru.cut_1, E.wipeS, Ru.bind_some, Option.bind_none, Ru.map_some, Option.map_none, List.getElem?_cons_zero, List.getElem?_cons_succ, List.set_cons_zero, List.set_cons_succ, List.length_cons, List.length_nil, List.map_cons, List.map_nil, List.replicate, List.cons_append, List.nil_append, e1, c2, e2, C.enc, Int.toNat_of_nonneg i0]
    · by_cases c3 : v = 2
      · subst c3
        obtain ⟨i, p2, hp2, i0, i1, e2⟩ := draw_ok (many := (d : Int)) (by omega) (by omega) hp1
        refine ⟨.neg (.test i.toNat), p2, hp2, by simp [C.ok]; omega, by simp [C.dep], ?_⟩
        simp [m_law_condition, b_law_condition, -Option.bind_some, -Option.map_some, Ru.c_e, Ru.v_e, Ru.v_d, Ru.rv_e, Ru.rv_d, Ru.rv_l, Ru.nil_e, Ru.cons_e, Ru.cons_d, Ru.cons_l, Ru.cons_2, Ru.tup_e, Ru.tup_d, Ru.lst_e, Ru.lst_d, Ru.rd_e, Ru.rd_d, Ru.rd_l, Ru.op_e, Ru.op_1, Ru.op_2, Ru.op_3, Ru.un_e, Ru.un_1, Ru.isi_e, Ru.ite_e, Ru.ite_t, Ru.ite_f, Ru.ofB_e, Ru.ofB_1, Ru.toB_e, Ru.toB_1, Ru.and_e, Ru.and_t, Ru.and_f, Ru.or_e, Ru.or_t, Ru.or_f, Ru.not_e, Ru.not_1, Ru.px_e, Ru.px_1, Ru.px_2, Ru.oN_e, Ru.oS_e, Ru.oS_1, Ru.sl_e, Ru.sl_1, Ru.sl_2, Ru.sl_3, Ru.sl3_e, Ru.tl_1, Ru.tl_2, Ru.tl_3, Ru.tl_4, Ru.call_e, Ru.call_1, Ru.call_2, Ru.callP_e, Ru.callP_1, Ru.callP_2, Ru.chain_e, Ru.ch_1, Ru.ch_2, Ru.ch_t, Ru.ch_f, Ru.iL_e, Ru.iL_d, Ru.iL_l, Ru.iT_e, Ru.iT_d, Ru.iR1_e, Ru.iR1_1, Ru.lR_e, Ru.lR_1, Ru.tN_e, Ru.tT_2, Ru.yes_e, Ru.lc_e, Ru.lc_1, Ru.lc_2, Ru.seq_e, Ru.seq_nx, Ru.seq_rt, Ru.nop_e, Ru.set_e, Ru.set_d, Ru.set_l, Ru.setL_e, Ru.setL_l, Ru.ret_e, Ru.ret_1, Ru.retV_e, Ru.retV_l, Ru.retV_d, Ru.frz_e, Ru.frz_l, Ru.sIte_e, Ru.sIte_t, Ru.sIte_f, Ru.for_e, Ru.for_1, Ru.for_nil, Ru.for_cons, Ru.fK_1, Ru.fK_nx, Ru.fK_rt, Ru.append_e, Ru.append_1, Ru.append_d, Ru.append_l, Ru.extend_e, Ru.extend_1, Ru.extend_l, Ru.pop_e, Ru.pop_1, Ru.setIx_e, Ru.setIx_d, Ru.setP_e, Ru.setP_d, Ru.setP_1, Ru.par_e, Ru.par_1, Ru.stup_e, Ru.stup_d, Ru.wK_t, Ru.wK_f, Ru.wK_nx, Ru.wK_rt, Ru.runB_f, Ru.runB_t, Ru.rb_f, Ru.rb_t, Ru.rb_n, Ru.lt_i, Ru.le_i, Ru.gt_i, Ru.ge_i, Ru.sub_i, Ru.add_i, Ru.add_s, Ru.add_t, Ru.add_l, Ru.mul_i, Ru.div_i, Ru.mod_i, Ru.neg_i, Ru.is_n, Ru.isNot_n, Ru.non_n, Ru.non_i, Ru.non_b, Ru.non_s, Ru.non_l, Ru.non_t, Ru.len_l, Ru.len_t, Ru.len_s, Ru.list_l, Ru.list_t, Ru.tuple_l, Ru.tuple_t, Ru.int_i, Ru.gsl_l, Ru.gsl_t, Ru.gsl_s, Ru.eq_s, Ru.eq_i, Ru.eq_b, Ru.ne_b, Ru.ne_s, Ru.ne_i, Ru.in_2, Ru.atI_0, Ru.atI_1, Ru.atI_2, Ru.ix_t, Ru.ix_l, Ru.cut_1, E.wipeS, Ru.bind_some, Option.bind_none, Ru.map_some, Option.map_none, List.getElem?_cons_zero, List.getElem?_cons_succ, List.set_cons_zero, List.set_cons_succ, List.length_cons, List.length_nil, List.map_cons, List.map_nil, List.replicate, List.cons_append, List.nil_append, e1, e2, C.enc, Int.toNat_of_nonneg i0]
      · have c4 : v = 3 := by omega
        subst c4
        obtain ⟨i, p2, hp2, i0, i1, e2⟩ := draw_ok (many := 2) (by decide) (by decide) hp1
        rcases (by omega : i = 0 ∨ i = 1) with rfl | rfl
        · refine ⟨.yes, p2, hp2, rfl, by simp [C.dep], ?_⟩
          simp [m_law_condition, b_law_condition, -Option.bind_some, -Option.map_some, Ru.c_e, Ru.v_e, Ru.v_d, Ru.rv_e, Ru.rv_d, Ru.rv_l, Ru.nil_e, Ru.cons_e, Ru.cons_d, Ru.cons_l, Ru.cons_2, Ru.tup_e, Ru.tup_d, Ru.lst_e, Ru.lst_d, Ru.rd_e, Ru.rd_d, Ru.rd_l, Ru.op_e, Ru.op_1, Ru.op_2, Ru.op_3, Ru.un_e, Ru.un_1, Ru.isi_e, Ru.ite_e, Ru.ite_t, Ru.ite_f, Ru.ofB_e, Ru.ofB_1, Ru.toB_e, Ru.toB_1, Ru.and_e, Ru.and_t, Ru.and_f, Ru.or_e, Ru.or_t, Ru.or_f, Ru.not_e, Ru.not_1, Ru.px_e, Ru.px_1, Ru.px_2, Ru.oN_e, Ru.oS_e, Ru.oS_1, Ru.sl_e, Ru.sl_1, Ru.sl_2, Ru.sl_3, Ru.sl3_e, Ru.tl_1, Ru.tl_2, Ru.tl_3, Ru.tl_4, Ru.call_e, Ru.call_1, Ru.call_2, Ru.callP_e, Ru.callP_1, Ru.callP_2, Ru.chain_e, Ru.ch_1, Ru.ch_2, Ru.ch_t, Ru.ch_f, Ru.iL_e, Ru.iL_d, Ru.iL_l, Ru.iT_e, Ru.iT_d, Ru.iR1_e, Ru.iR1_1, Ru.lR_e, Ru.lR_1, Ru.tN_e, Ru.tT_2, Ru.yes_e, Ru.lc_e, Ru.lc_1, Ru.lc_2, Ru.seq_e, Ru.seq_nx, Ru.seq_rt, Ru.nop_e, Ru.set_e, Ru.set_d, Ru.set_l, Ru.setL_e, Ru.setL_l, Ru.ret_e, Ru.ret_1, Ru.retV_e, Ru.retV_l, Ru.retV_d, Ru.frz_e, Ru.frz_l, Ru.sIte_e, Ru.sIte_t, Ru.sIte_f, Ru.for_e, Ru.for_1, Ru.for_nil, Ru.for_cons, Ru.fK_1, Ru.fK_nx, Ru.fK_rt, Ru.append_e, Ru.append_1, Ru.append_d, Ru.append_l, Ru.extend_e, Ru.extend_1, Ru.extend_l, Ru.pop_e, Ru.pop_1, Ru.setIx_e, Ru.setIx_d, Ru.setP_e, Ru.setP_d, Ru.setP_1, Ru.par_e, Ru.par_1, Ru.stup_e, Ru.stup_d, Ru.wK_t, Ru.wK_f, Ru.wK_nx, Ru.wK_rt, Ru.runB_f, Ru.runB_t, Ru.rb_f, Ru.rb_t, Ru.rb_n, Ru.lt_i, Ru.le_i, Ru.gt_i, Ru.ge_i, Ru.sub_i, Ru.add_i, Ru.add_s, Ru.add_t, Ru.add_l, Ru.mul_i, Ru.div_i, Ru.mod_i, Ru.neg_i, Ru.is_n, Ru.isNot_n, Ru.non_n, Ru.non_i, Ru.non_b, Ru.non_s, Ru.non_l, Ru.non_t, Ru.len_l, Ru.len_t, Ru.len_s, Ru.list_l, Ru.list_t, Ru.tuple_l, Ru.tuple_t, Ru.int_i, Ru.gsl_l, Ru.gsl_t, Ru.gsl_s, Ru.eq_s, Ru.eq_i, Ru.eq_b, Ru.ne_b, Ru.ne_s, Ru.ne_i, Ru.in_2, Ru.atI_0, Ru.atI_1, Ru.atI_2, Ru.ix_t, Ru.ix_l, Ru.cut_1, E.wipeS, Ru.bind_some, Option.bind_none, Ru.map_some, Option.map_none, List.getElem?_cons_zero, List.getElem?_cons_succ, List.set_cons_zero, List.set_cons_succ, List.length_cons, List.length_nil, List.map_cons, List.map_nil, List.replicate, List.cons_append, List.nil_append, e1, e2, C.enc]
        · refine ⟨.no, p2, hp2, rfl, by simp [C.dep], ?_⟩
          simp [m_law_condition, b_law_condition, -Option.bind_some, -Option.map_some, Ru.c_e, Ru.v_e, Ru.v_d, Ru.rv_e, Ru.rv_d, Ru.rv_l, Ru.nil_e, Ru.cons_e, Ru.cons_d, Ru.cons_l, Ru.cons_2, Ru.tup_e, Ru.tup_d, Ru.lst_e, Ru.lst_d, Ru.rd_e, Ru.rd_d, Ru.rd_l, Ru.op_e, Ru.op_1, Ru.op_2, Ru.op_3, Ru.un_e, Ru.un_1, Ru.isi_e, Ru.ite_e, Ru.ite_t, Ru.ite_f, Ru.ofB_e, Ru.ofB_1, Ru.toB_e, Ru.toB_1, Ru.and_e, Ru.and_t, Ru.and_f, Ru.or_e, Ru.or_t, Ru.or_f, Ru.not_e, Ru.not_1, Ru.px_e, Ru.px_1, Ru.px_2, Ru.oN_e, Ru.oS_e, Ru.oS_1, Ru.sl_e, Ru.sl_1, Ru.sl_2, Ru.sl_3, Ru.sl3_e, Ru.tl_1, Ru.tl_2, Ru.tl_3, Ru.tl_4, Ru.call_e, Ru.call_1, Ru.call_2, Ru.callP_e, Ru.callP_1, Ru.callP_2, Ru.chain_e, Ru.ch_1, Ru.ch_2, Ru.ch_t, Ru.ch_f, Ru.iL_e, Ru.iL_d, Ru.iL_l, Ru.iT_e, Ru.iT_d, Ru.iR1_e, Ru.iR1_1, Ru.lR_e, Ru.lR_1, Ru.tN_e, Ru.tT_2, Ru.yes_e, Ru.lc_e, Ru.lc_1, Ru.lc_2, Ru.seq_e, Ru.seq_nx, Ru.seq_rt, Ru.nop_e, Ru.set_e, Ru.set_d, Ru.set_l, Ru.setL_e, Ru.setL_l, Ru.ret_e, Ru.ret_1, Ru.retV_e, Ru.retV_l, Ru.retV_d, Ru.frz_e, Ru.frz_l, Ru.sIte_e, Ru.sIte_t, Ru.sIte_f, Ru.for_e, Ru.for_1, Ru.for_nil, Ru.for_cons, Ru.fK_1, Ru.fK_nx, Ru.fK_rt, Ru.append_e, Ru.append_1, Ru.append_d, Ru.append_l, Ru.extend_e, Ru.extend_1, Ru.extend_l, Ru.pop_e, Ru.pop_1, Ru.setIx_e, Ru.setIx_d, Ru.setP_e, Ru.setP_d, Ru.setP_1, Ru.par_e, Ru.par_1, Ru.stup_e, Ru.stup_d, Ru.wK_t, Ru.wK_f, Ru.wK_nx, Ru.wK_rt, Ru.runB_f, Ru.runB_t, Ru.rb_f, Ru.rb_t, Ru.rb_n, Ru.lt_i, Ru.le_i, Ru.gt_i, Ru.ge_i, Ru.sub_i, Ru.add_i, Ru.add_s, Ru.add_t, Ru.add_l, Ru.mul_i, Ru.div_i, Ru.mod_i, Ru.neg_i, Ru.is_n, Ru.isNot_n, Ru.non_n, Ru.non_i, Ru.non_b, Ru.non_s, Ru.non_l, Ru.non_t, Ru.len_l, Ru.len_t, Ru.len_s, Ru.list_l, Ru.list_t, Ru.tuple_l, Ru.tuple_t, Ru.int_i, Ru.gsl_l, Ru.gsl_t, Ru.gsl_s, Ru.eq_s, Ru.eq_i, Ru.eq_b, Ru.ne_b, Ru.ne_s, Ru.ne_i, Ru.in_2, Ru.atI_0, Ru.atI_1, Ru.atI_2, Ru.ix_t, Ru.ix_l, Ru.cut_1, E.wipeS, Ru.bind_some, Option.bind_none, Ru.map_some, Option.map_none, List.getElem?_cons_zero, List.getElem?_cons_succ, List.set_cons_zero, List.set_cons_succ, List.length_cons, List.length_nil, List.map_cons, List.map_nil, List.replicate, List.cons_append, List.nil_append, e1, e2, C.enc]
  | succ k ih =>
    intro n hn p hp
    obtain ⟨n, rfl⟩ : ∃ m, n = m + 1 := ⟨n - 1, by omega⟩
    obtain ⟨q, rfl⟩ := hp.some
    obtain ⟨v, p1, hp1, v0, v1, e1⟩ := draw_ok (many := 7) (by decide) (by decide) hp
    obtain ⟨q1, rfl⟩ := hp1.some
    have hk0 : (0 : Int) < (k : Int) + 1 := by omega
    have hk1 : (k : Int) + 1 - 1 = k := by omega
    by_cases c2 : v < 2
    · obtain ⟨i, p2, hp2, i0, i1, e2⟩ := draw_ok (many := (d : Int)) (by omega) (by omega) hp1
      refine ⟨.test i.toNat, p2, hp2, by simp [C.ok]; omega, by simp [C.dep], ?_⟩
      simp [m_law_condition, b_law_condition, -Option.bind_some, -Option.map_some, Ru.c_e, Ru.v_e, Ru.v_d, Ru.rv_e, Ru.rv_d, Ru.rv_l, Ru.nil_e, Ru.cons_e, Ru.cons_d, Ru.cons_l, Ru.cons_2, Ru.tup_e, Ru.tup_d, Ru.lst_e, Ru.lst_d, Ru.rd_e, Ru.rd_d, Ru.rd_l, Ru.op_e, Ru.op_1, Ru.op_2, Ru.op_3, Ru.un_e, Ru.un_1, Ru.isi_e, Ru.ite_e, Ru.ite_t, Ru.ite_f, Ru.ofB_e, Ru.ofB_1, Ru.toB_e, Ru.toB_1, Ru.and_e, Ru.and_t, Ru.and_f, Ru.or_e, Ru.or_t, Ru.or_f, Ru.not_e, Ru.not_1, Ru.px_e, Ru.px_1, Ru.px_2, Ru.oN_e, Ru.oS_e, Ru.oS_1, Ru.sl_e, Ru.sl_1, Ru.sl_2, Ru.sl_3, Ru.sl3_e, Ru.tl_1, Ru.tl_2, Ru.tl_3, Ru.tl_4, Ru.call_e, Ru.call_1, Ru.call_2, Ru.callP_e, Ru.callP_1, Ru.callP_2, Ru.chain_e, Ru.ch_1, Ru.ch_2, Ru.ch_t, Ru.ch_f, Ru.iL_e, Ru.iL_d, Ru.iL_l, Ru.iT_e, Ru.iT_d, Ru.iR1_e, Ru.iR1_1, Ru.lR_e, Ru.lR_1, Ru.tN_e, Ru.tT_2, Ru.yes_e, Ru.lc_e, Ru.lc_1, Ru.lc_2, Ru.seq_e, Ru.seq_nx, Ru.seq_rt, Ru.nop_e, Ru.set_e, Ru.set_d, Ru.set_l, Ru.setL_e, Ru.setL_l, Ru.ret_e, Ru.ret_1, Ru.retV_e, Ru.retV_l, Ru.retV_d, Ru.frz_e, Ru.frz_l, Ru.sIte_e, Ru.sIte_t, Ru.sIte_f, Ru.for_e, Ru.for_1, Ru.for_nil, Ru.for_cons, Ru.fK_1, Ru.fK_nx, Ru.fK_rt, Ru.append_e, Ru.append_1, Ru.append_d, Ru.append_l, Ru.extend_e, Ru.extend_1, Ru.extend_l, Ru.pop_e, Ru.pop_1, Ru.setIx_e, Ru.setIx_d, Ru.setP_e, Ru.setP_d, Ru.setP_1, Ru.par_e, Ru.par_1, Ru.stup_e, Ru.stup_d, Ru.wK_t, Ru.wK_f, Ru.wK_nx, Ru.wK_rt, Ru.runB_f, Ru.runB_t, Ru.rb_f, Ru.rb_t, Ru.rb_n, Ru.lt_i, Ru.le_i, Ru.gt_i, Ru.ge_i, Ru.sub_i, Ru.add_i, Ru.add_s, Ru.add_t, Ru.add_l, Ru.mul_i, Ru.div_i, Ru.mod_i, Ru.neg_i, Ru.is_n, Ru.isNot_n, Ru.non_n, Ru.non_i, Ru.non_b, Ru.non_s, Ru.non_l, Ru.non_t, Ru.len_l, Ru.len_t, Ru.len_s, Ru.list_l, Ru.list_t, Ru.tuple_l, Ru.tuple_t, Ru.int_i, Ru.gsl_l, Ru.gsl_t, Ru.gsl_s, Ru.eq_s, Ru.eq_i, Ru.eq_b, Ru.ne_b, Ru.ne_s, Ru.ne_i, Ru.in_2, Ru.atI_0, Ru.atI_1, Ru.atI_2, Ru.ix_t, Ru.ix_l, Ru.cut_1, E.wipeS, Ru.bind_some, Option.bind_none, Ru.map_some, Option.map_none, List.getElem?_cons_zero, List.getElem?_cons_succ, List.set_cons_zero, List.set_cons_succ, List.length_cons, List.length_nil, List.map_cons, List.map_nil, List.replicate, List.cons_append, List.nil_append, e1, c2, e2, C.enc, Int.toNat_of_nonneg i0, hk0]
    · by_cases c3 : v = 2
      · subst c3
        obtain ⟨i, p2, hp2, i0, i1, e2⟩ := draw_ok (many := (d : Int)) (by omega) (by omega) hp1
        refine ⟨.neg (.test i.toNat), p2, hp2, by simp [C.ok]; omega, by simp [C.dep], ?_⟩
        simp [m_law_condition, b_law_condition, -Option.bind_some, -Option.map_some, Ru.c_e, Ru.v_e, Ru.v_d, Ru.rv_e, Ru.rv_d, Ru.rv_l, Ru.nil_e, Ru.cons_e, Ru.cons_d, Ru.cons_l, Ru.cons_2, Ru.tup_e, Ru.tup_d, Ru.lst_e, Ru.lst_d, Ru.rd_e, Ru.rd_d, Ru.rd_l, Ru.op_e, Ru.op_1, Ru.op_2, Ru.op_3, Ru.un_e, Ru.un_1, Ru.isi_e, Ru.ite_e, Ru.ite_t, Ru.ite_f, Ru.ofB_e, Ru.ofB_1, Ru.toB_e, Ru.toB_1, Ru.and_e, Ru.and_t, Ru.and_f, Ru.or_e, Ru.or_t, Ru.or_f, Ru.not_e, Ru.not_1, Ru.px_e, Ru.px_1, Ru.px_2, Ru.oN_e, Ru.oS_e, Ru.oS_1, Ru.sl_e, Ru.sl_1, Ru.sl_2, Ru.sl_3, Ru.sl3_e, Ru.tl_1, Ru.tl_2, Ru.tl_3, Ru.tl_4, Ru.call_e, Ru.call_1, Ru.call_2, Ru.callP_e, Ru.callP_1, Ru.callP_2, Ru.chain_e, Ru.ch_1, Ru.ch_2, Ru.ch_t, Ru.ch_f, Ru.iL_e, Ru.iL_d, Ru.iL_l, Ru.iT_e, Ru.iT_d, Ru.iR1_e, Ru.iR1_1, Ru.lR_e, Ru.lR_1, Ru.tN_e, Ru.tT_2, Ru.yes_e, Ru.lc_e, Ru.lc_1, Ru.lc_2, Ru.seq_e, Ru.seq_nx, Ru.seq_rt, Ru.nop_e, Ru.set_e, Ru.set_d, Ru.set_l, Ru.setL_e, Ru.setL_l, Ru.ret_e, Ru.ret_1, Ru.retV_e, Ru.retV_l, Ru.retV_d, Ru.frz_e, Ru.frz_l, Ru.sIte_e, Ru.sIte_t, Ru.sIte_f, Ru.for_e, Ru.for_1, Ru.for_nil, Ru.for_cons, Ru.fK_1, Ru.fK_nx, Ru.fK_rt, Ru.append_e, Ru.append_1, Ru.append_d, Ru.append_l, Ru.extend_e, Ru.extend_1, Ru.extend_l, Ru.pop_e, Ru.pop_1, Ru.setIx_e, Ru.setIx_d, Ru.setP_e, Ru.setP_d, Ru.setP_1, Ru.par_e, Ru.par_1, Ru.stup_e, Ru.stup_d, Ru.wK_t, Ru.wK_f, Ru.wK_nx, Ru.wK_rt, Ru.runB_f, Ru.runB_t, Ru.rb_f, Ru.rb_t, Ru.rb_n, Ru.lt_i, Ru.le_i, Ru.gt_i, Ru.ge_i, Ru.sub_i, Ru.add_i, Ru.add_s, Ru.add_t, Ru.add_l, Ru.mul_i, Ru.div_i, Ru.mod_i, Ru.neg_i, Ru.is_n, Ru.isNot_n, Ru.non_n, Ru.non_i, Ru.non_b, Ru.non_s, Ru.non_l, Ru.non_t, Ru.len_l, Ru.len_t, Ru.len_s, Ru.list_l, Ru.list_t, Ru.tuple_l, Ru.tuple_t, Ru.int_i, Ru.gsl_l, Ru.gsl_t, Ru.gsl_s, Ru.eq_s, Ru.eq_i, Ru.eq_b, Ru.ne_b, Ru.ne_s, Ru.ne_i, Ru.in_2, Ru.atI_0, Ru.atI_1, Ru.atI_2, Ru.ix_t, Ru.ix_l, Ru.cut_1, E.wipeS, Ru.bind_some, Option.bind_none, Ru.map_some, Option.map_none, List.getElem?_cons_zero, List.getElem?_cons_succ, List.set_cons_zero, List.set_cons_succ, List.length_cons, List.length_nil, List.map_cons, List.map_nil, List.replicate, List.cons_append, List.nil_append, e1, e2, C.enc, Int.toNat_of_nonneg i0, hk0]
      · by_cases c4 : v = 3
        · subst c4
          obtain ⟨i, p2, hp2, i0, i1, e2⟩ := draw_ok (many := 2) (by decide) (by decide) hp1
          rcases (by omega : i = 0 ∨ i = 1) with rfl | rfl
          · refine ⟨.yes, p2, hp2, rfl, by simp [C.dep], ?_⟩
            simp [m_law_condition, b_law_condition, -Option.bind_some, -Option.map_some, Ru.c_e, Ru.v_e, Ru.v_d, Ru.rv_e, Ru.rv_d, Ru.rv_l, Ru.nil_e, Ru.cons_e, Ru.cons_d, Ru.cons_l, Ru.cons_2, Ru.tup_e, Ru.tup_d, Ru.lst_e, Ru.lst_d, Ru.rd_e, Ru.rd_d, Ru.rd_l, Ru.op_e, Ru.op_1, Ru.op_2, Ru.op_3, Ru.un_e, Ru.un_1, Ru.isi_e, Ru.ite_e, Ru.ite_t, Ru.ite_f, Ru.ofB_e, Ru.ofB_1, Ru.toB_e, Ru.toB_1, Ru.and_e, Ru.and_t, Ru.and_f, Ru.or_e, Ru.or_t, Ru.or_f, Ru.not_e, Ru.not_1, Ru.px_e, Ru.px_1, Ru.px_2, Ru.oN_e, Ru.oS_e, Ru.oS_1, Ru.sl_e, Ru.sl_1, Ru.sl_2, Ru.sl_3, Ru.sl3_e, Ru.tl_1, Ru.tl_2, Ru.tl_3, Ru.tl_4, Ru.call_e, Ru.call_1, Ru.call_2, Ru.callP_e, Ru.callP_1, Ru.callP_2, Ru.chain_e, Ru.ch_1, Ru.ch_2, Ru.ch_t, Ru.ch_f, Ru.iL_e, Ru.iL_d, Ru.iL_l, Ru.iT_e, Ru.iT_d, Ru.iR1_e, Ru.iR1_1, Ru.lR_e, Ru.lR_1, Ru.tN_e, Ru.tT_2, Ru.yes_e, Ru.lc_e, Ru.lc_1, Ru.lc_2, Ru.seq_e, Ru.seq_nx, Ru.seq_rt, Ru.nop_e, Ru.set_e, Ru.set_d, Ru.set_l, Ru.setL_e, Ru.setL_l, Ru.ret_e, Ru.ret_1, Ru.retV_e, Ru.retV_l, Ru.retV_d, Ru.frz_e, Ru.frz_l, Ru.sIte_e, Ru.sIte_t, Ru.sIte_f, Ru.for_e, Ru.for_1, Ru.for_nil, Ru.for_cons, Ru.fK_1, Ru.fK_nx, Ru.fK_rt, Ru.append_e, Ru.append_1, Ru.append_d, Ru.append_l, Ru.extend_e, Ru.extend_1, Ru.extend_l, Ru.pop_e, Ru.pop_1, Ru.setIx_e, Ru.setIx_d, Ru.setP_e, Ru.setP_d, Ru.setP_1, Ru.par_e, Ru.par_1, Ru.stup_e, Ru.stup_d, Ru.wK_t, Ru.wK_f, Ru.wK_nx, Ru.wK_rt, Ru.runB_f, Ru.runB_t, Ru.rb_f, Ru.rb_t, Ru.rb_n, Ru.lt_i, Ru.le_i, Ru.gt_i, Ru.ge_i, Ru.sub_i, Ru.add_i, Ru.add_s, Ru.add_t, Ru.add_l, Ru.mul_i, Ru.div_i, Ru.mod_i, Ru.neg_i, Ru.is_n, Ru.isNot_n, Ru.non_n, Ru.non_i, Ru.non_b, Ru.non_s, Ru.non_l, Ru.non_t, Ru.len_l, Ru.len_t, Ru.len_s, Ru.list_l, Ru.list_t, Ru.tuple_l, Ru.tuple_t, Ru.int_i, Ru.gsl_l, Ru.gsl_t, Ru.gsl_s, Ru.eq_s, Ru.eq_i, Ru.eq_b, Ru.ne_b, Ru.ne_s, Ru.ne_i, Ru.in_2, Ru.atI_0, Ru.atI_1, Ru.atI_2, Ru.ix_t, Ru.ix_l, Ru.cut_1, E.wipeS, Ru.bind_some, Option.bind_none, Ru.map_some, Option.map_none, List.getElem?_cons_zero, List.getElem?_cons_succ, List.set_cons_zero, List.set_cons_succ, List.length_cons, List.length_nil, List.map_cons, List.map_nil, List.replicate, List.cons_append, List.nil_append, e1, e2, C.enc, hk0]
          · refine ⟨.no, p2, hp2, rfl, by simp [C.dep], ?_⟩
            simp [m_law_condition, b_law_condition, -Option.bind_some, -Option.map_some, Ru.c_e, Ru.v_e, Ru.v_d, Ru.rv_e, Ru.rv_d, Ru.rv_l, Ru.nil_e, Ru.cons_e, Ru.cons_d, Ru.cons_l, Ru.cons_2, Ru.tup_e, Ru.tup_d, Ru.lst_e, Ru.lst_d, Ru.rd_e, Ru.rd_d, Ru.rd_l, Ru.op_e, Ru.op_1, Ru.op_2, Ru.op_3, Ru.un_e, Ru.un_1, Ru.isi_e, Ru.ite_e, Ru.ite_t, Ru.ite_f, Ru.ofB_e, Ru.ofB_1, Ru.toB_e, Ru.toB_1, Ru.and_e, Ru.and_t, Ru.and_f, Ru.or_e, Ru.or_t, Ru.or_f, Ru.not_e, Ru.not_1, Ru.px_e, Ru.px_1, Ru.px_2, Ru.oN_e, Ru.oS_e, Ru.oS_1, Ru.sl_e, Ru.sl_1, Ru.sl_2, Ru.sl_3, Ru.sl3_e, Ru.tl_1, Ru.tl_2, Ru.tl_3, Ru.tl_4, Ru.call_e, Ru.call_1, Ru.call_2, Ru.callP_e, Ru.callP_1, Ru.callP_2, Ru.chain_e, Ru.ch_1, Ru.ch_2, Ru.ch_t, Ru.ch_f, Ru.iL_e, Ru.iL_d, Ru.iL_l, Ru.iT_e, Ru.iT_d, Ru.iR1_e, Ru.iR1_1, Ru.lR_e, Ru.lR_1, Ru.tN_e, Ru.tT_2, Ru.yes_e, Ru.lc_e, Ru.lc_1, Ru.lc_2, Ru.seq_e, Ru.seq_nx, Ru.seq_rt, Ru.nop_e, Ru.set_e, Ru.set_d, Ru.set_l, Ru.setL_e, Ru.setL_l, Ru.ret_e, Ru.ret_1, Ru.retV_e, Ru.retV_l, Ru.retV_d, Ru.frz_e, Ru.frz_l, Ru.sIte_e, Ru.sIte_t, Ru.sIte_f, Ru.for_e, Ru.for_1, Ru.for_nil, Ru.for_cons, Ru.fK_1, Ru.fK_nx, Ru.fK_rt, Ru.append_e, Ru.append_1, Ru.append_d, Ru.append_l, Ru.extend_e, Ru.extend_1, Ru.extend_l, Ru.pop_e, Ru.pop_1, Ru.setIx_e, Ru.setIx_d, Ru.setP_e, Ru.setP_d, Ru.setP_1, Ru.par_e, Ru.par_1, Ru.stup_e, Ru.stup_d, Ru.wK_t, Ru.wK_f, Ru.wK_nx, Ru.wK_rt, Ru.runB_f, Ru.runB_t, Ru.rb_f, Ru.rb_t, Ru.rb_n, Ru.lt_i, Ru.le_i, Ru.gt_i, Ru.ge_i, Ru.sub_i, Ru.add_i, Ru.add_s, Ru.add_t, Ru.add_l, Ru.mul_i, Ru.div_i, Ru.mod_i, Ru.neg_i, Ru.is_n, Ru.isNot_n, Ru.non_n, Ru.non_i, Ru.non_b, Ru.non_s, Ru.non_l, Ru.non_t, Ru.len_l, Ru.len_t, Ru.len_s, Ru.list_l, Ru.list_t, Ru.tuple_l, Ru.tuple_t, Ru.int_i, Ru.gsl_l, Ru.gsl_t, Ru.gsl_s, Ru.eq_s, Ru.eq_i, Ru.eq_b, Ru.ne_b, Ru.ne_s, Ru.ne_i, Ru.in_2, Ru.atI_0, Ru.atI_1, Ru.atI_2, Ru.ix_t, Ru.ix_l, Ru.cut_1, E.wipeS, Ru.bind_some, Option.bind_none, Ru.map_some, Option.map_none, List.getElem?_cons_zero, List.getElem?_cons_succ, List.set_cons_zero, List.set_cons_succ, List.length_cons, List.length_nil, List.map_cons, List.map_nil, List.replicate, List.cons_append, List.nil_append, e1, e2, C.enc, hk0]
        · obtain ⟨a, p2, hp2, oka, da, e2⟩ := ih n (by omega) hp1
          obtain ⟨q2, rfl⟩ := hp2.some
          by_cases c5 : v = 4
          · subst c5
            refine ⟨.neg a, _, hp2, oka, by simp [C.dep]; omega, ?_⟩
            simp [m_law_condition, b_law_condition, -Option.bind_some, -Option.map_some, Ru.c_e, Ru.v_e, Ru.v_d, Ru.rv_e, Ru.rv_d, Ru.rv_l, Ru.nil_e, Ru.cons_e, Ru.cons_d, Ru.cons_l, Ru.cons_2, Ru.tup_e, Ru.tup_d, Ru.lst_e, Ru.lst_d, Ru.rd_e, Ru.rd_d, Ru.rd_l, Ru.op_e, Ru.op_1, Ru.op_2, Ru.op_3, Ru.un_e, Ru.un_1, Ru.isi_e, Ru.ite_e, Ru.ite_t, Ru.ite_f, Ru.ofB_e, Ru.ofB_1, Ru.toB_e, Ru.toB_1, Ru.and_e, Ru.and_t, Ru.and_f, Ru.or_e, Ru.or_t, Ru.or_f, Ru.not_e, Ru.not_1, Ru.px_e, Ru.px_1, Ru.px_2, Ru.oN_e, Ru.oS_e, Ru.oS_1, Ru.sl_e, Ru.sl_1, Ru.sl_2, Ru.sl_3, Ru.sl3_e, Ru.tl_1, Ru.tl_2, Ru.tl_3, Ru.tl_4, Ru.call_e, Ru.call_1, Ru.call_2, Ru.callP_e, Ru.callP_1, Ru.callP_2, Ru.chain_e, Ru.ch_1, Ru.ch_2, Ru.ch_t, Ru.ch_f, Ru.iL_e, Ru.iL_d, Ru.iL_l, Ru.iT_e, Ru.iT_d, Ru.iR1_e, Ru.iR1_1, Ru.lR_e, Ru.lR_1, Ru.tN_e, Ru.tT_2, Ru.yes_e, Ru.lc_e, Ru.lc_1, Ru.lc_2, Ru.seq_e, Ru.seq_nx, Ru.seq_rt, Ru.nop_e, Ru.set_e, Ru.set_d, Ru.set_l, Ru.setL_e, Ru.setL_l, Ru.ret_e, Ru.ret_1, Ru.retV_e, Ru.retV_l, Ru.retV_d, Ru.frz_e, Ru.frz_l, Ru.sIte_e, Ru.sIte_t, Ru.sIte_f, Ru.for_e, Ru.for_1, Ru.for_nil, Ru.for_cons, Ru.fK_1, Ru.fK_nx, Ru.fK_rt, Ru.append_e, Ru.append_1, Ru.append_d, Ru.append_l, Ru.extend_e, Ru.extend_1, Ru.extend_l, Ru.pop_e, Ru.pop_1, Ru.setIx_e, Ru.setIx_d, Ru.setP_e, Ru.setP_d, Ru.setP_1, Ru.par_e, Ru.par_1, Ru.stup_e, Ru.stup_d, Ru.wK_t, Ru.wK_f, Ru.wK_nx, Ru.wK_rt, Ru.runB_f, Ru.runB_t, Ru.rb_f, Ru.rb_t, Ru.rb_n, Ru.lt_i, Ru.le_i, Ru.gt_i, Ru.ge_i, Ru.sub_i, Ru.add_i, Ru.add_s, Ru.add_t, Ru.add_l, Ru.mul_i, Ru.div_i, Ru.mod_i, Ru.neg_i, Ru.is_n, Ru.isNot_n, Ru.non_n, Ru.non_i, Ru.non_b, Ru.non_s, Ru.non_l, Ru.non_t, Ru.len_l, Ru.len_t, Ru.len_s, Ru.list_l, Ru.list_t, Ru.tuple_l, Ru.tuple_t, Ru.int_i, Ru.gsl_l, Ru.gsl_t, Ru.gsl_s, Ru.eq_s, Ru.eq_i, Ru.eq_b, Ru.ne_b, Ru.ne_s, Ru.ne_i, Ru.in_2, Ru.atI_0, Ru.atI_1, Ru.atI_2, Ru.ix_t, Ru.ix_l, Ru.cut_1, E.wipeS, Ru.bind_some, Option.bind_none, Ru.map_some, Option.map_none, List.getElem?_cons_zero, List.getElem?_cons_succ, List.set_cons_zero, List.set_cons_succ, List.length_cons, List.length_nil, List.map_cons, List.map_nil, List.replicate, List.cons_append, List.nil_append, e1, e2, C.enc, hk0, hk1]
          · obtain ⟨b, p3, hp3, okb, db, e3⟩ := ih n (by omega) hp2
            rcases (by omega : v = 5 ∨ v = 6) with rfl | rfl
            · refine ⟨.and a b, p3, hp3, by simp [C.ok, oka, okb], by simp [C.dep]; omega, ?_⟩
              simp [m_law_condition, b_law_condition, -Option.bind_some, -Option.map_some, Ru.c_e, Ru.v_e, Ru.v_d, Ru.rv_e, Ru.rv_d, Ru.rv_l, Ru.nil_e, Ru.cons_e, Ru.cons_d, Ru.cons_l, Ru.cons_2, Ru.tup_e, Ru.tup_d, Ru.lst_e, Ru.lst_d, Ru.rd_e, Ru.rd_d, Ru.rd_l, Ru.op_e, Ru.op_1, Ru.op_2, Ru.op_3, Ru.un_e, Ru.un_1, Ru.isi_e, Ru.ite_e, Ru.ite_t, Ru.ite_f, Ru.ofB_e, Ru.ofB_1, Ru.toB_e, Ru.toB_1, Ru.and_e, Ru.and_t, Ru.and_f, Ru.or_e, Ru.or_t, Ru.or_f, Ru.not_e, Ru.not_1, Ru.px_e, Ru.px_1, Ru.px_2, Ru.oN_e, Ru.oS_e, Ru.oS_1, Ru.sl_e, Ru.sl_1, Ru.sl_2, Ru.sl_3, Ru.sl3_e, Ru.tl_1, Ru.tl_2, Ru.tl_3, Ru.tl_4, Ru.call_e, Ru.call_1, Ru.call_2, Ru.callP_e, Ru.callP_1, Ru.callP_2, Ru.chain_e, Ru.ch_1, Ru.ch_2, Ru.ch_t, Ru.ch_f, Ru.iL_e, Ru.iL_d, Ru.iL_l, Ru.iT_e, Ru.iT_d, Ru.iR1_e, Ru.iR1_1, Ru.lR_e, Ru.lR_1, Ru.tN_e, Ru.tT_2, Ru.yes_e, Ru.lc_e, Ru.lc_1, Ru.lc_2, Ru.seq_e, Ru.seq_nx, Ru.seq_rt, Ru.nop_e, Ru.set_e, Ru.set_d, Ru.set_l, Ru.setL_e, Ru.setL_l, Ru.ret_e, Ru.ret_1, Ru.retV_e, Ru.retV_l, Ru.retV_d, Ru.frz_e, Ru.frz_l, Ru.sIte_e, Ru.sIte_t, Ru.sIte_f, Ru.for_e, Ru.for_1, Ru.for_nil, Ru.for_cons, Ru.fK_1, Ru.fK_nx, Ru.fK_rt, Ru.append_e, Ru.append_1, Ru.append_d, Ru.append_l, Ru.extend_e, Ru.extend_1, Ru.extend_l, Ru.pop_e, Ru.pop_1, Ru.setIx_e, Ru.setIx_d, Ru.setP_e, Ru.setP_d, Ru.setP_1, Ru.par_e, Ru.par_1, Ru.stup_e, Ru.stup_d, Ru.wK_t, Ru.wK_f, Ru.wK_nx, Ru.wK_rt, Ru.runB_f, Ru.runB_t, Ru.rb_f, Ru.rb_t, Ru.rb_n, Ru.lt_i, Ru.le_i, Ru.gt_i, Ru.ge_i, Ru.sub_i, Ru.add_i, Ru.add_s, Ru.add_t, Ru.add_l, Ru.mul_i, Ru.div_i, Ru.mod_i, Ru.neg_i, Ru.is_n, Ru.isNot_n, Ru.non_n, Ru.non_i, Ru.non_b, Ru.non_s, Ru.non_l, Ru.non_t, Ru.len_l, Ru.len_t, Ru.len_s, Ru.list_l, Ru.list_t, Ru.tuple_l, Ru.tuple_t, Ru.int_i, Ru.gsl_l, Ru.gsl_t, Ru.gsl_s, Ru.eq_s, Ru.eq_i, Ru.eq_b, Ru.ne_b, Ru.ne_s, Ru.ne_i, Ru.in_2, Ru.atI_0, Ru.atI_1, Ru.atI_2, Ru.ix_t, Ru.ix_l, Ru.cut_1, E.wipeS, Ru.bind_some, Option.bind_none, Ru.map_some, Option.map_none, List.getElem?_cons_zero, List.getElem?_cons_succ, List.set_cons_zero, List.set_cons_succ, List.length_cons, List.length_nil, List.map_cons, List.map_nil, List.replicate, List.cons_append, List.nil_append, e1, e2, e3, C.enc, hk0, hk1]
            · refine ⟨.or a b, p3, hp3, by simp [C.ok, oka, okb], by simp [C.dep]; omega, ?_⟩
              simp [m_law_condition, b_law_condition, -Option.bind_some, -Option.map_some, Ru.c_e, Ru.v_e, Ru.v_d, Ru.rv_e, Ru.rv_d, Ru.rv_l, Ru.nil_e, Ru.cons_e, Ru.cons_d, Ru.cons_l, Ru.cons_2, Ru.tup_e, Ru.tup_d, Ru.lst_e, Ru.lst_d, Ru.rd_e, Ru.rd_d, Ru.rd_l, Ru.op_e, Ru.op_1, Ru.op_2, Ru.op_3, Ru.un_e, Ru.un_1, Ru.isi_e, Ru.ite_e, Ru.ite_t, Ru.ite_f, Ru.ofB_e, Ru.ofB_1, Ru.toB_e, Ru.toB_1, Ru.and_e, Ru.and_t, Ru.and_f, Ru.or_e, Ru.or_t, Ru.or_f, Ru.not_e, Ru.not_1, Ru.px_e, Ru.px_1, Ru.px_2, Ru.oN_e, Ru.oS_e, Ru.oS_1, Ru.sl_e, Ru.sl_1, Ru.sl_2, Ru.sl_3, Ru.sl3_e, Ru.tl_1, Ru.tl_2, Ru.tl_3, Ru.tl_4, Ru.call_e, Ru.call_1, Ru.call_2, Ru.callP_e, Ru.callP_1, Ru.callP_2, Ru.chain_e, Ru.ch_1, Ru.ch_2, Ru.ch_t, Ru.ch_f, Ru.iL_e, Ru.iL_d, Ru.iL_l, Ru.iT_e, Ru.iT_d, Ru.iR1_e, Ru.iR1_1, Ru.lR_e, Ru.lR_1, Ru.tN_e, Ru.tT_2, Ru.yes_e, Ru.lc_e, Ru.lc_1, Ru.lc_2, Ru.seq_e, Ru.seq_nx, Ru.seq_rt, Ru.nop_e, Ru.set_e, Ru.set_d, Ru.set_l, Ru.setL_e, Ru.setL_l, Ru.ret_e, Ru.ret_1, Ru.retV_e, Ru.retV_l, Ru.retV_d, Ru.frz_e, Ru.frz_l, Ru.sIte_e, Ru.sIte_t, Ru.sIte_f, Ru.for_e, Ru.for_1, Ru.for_nil, Ru.for_cons, Ru.fK_1, Ru.fK_nx, Ru.fK_rt, Ru.append_e, Ru.append_1, Ru.append_d, Ru.append_l, Ru.extend_e, Ru.extend_1, Ru.extend_l, Ru.pop_e, Ru.pop_1, Ru.setIx_e, Ru.setIx_d, Ru.setP_e, Ru.setP_d, Ru.setP_1, Ru.par_e, Ru.par_1, Ru.stup_e, Ru.stup_d, Ru.wK_t, Ru.wK_f, Ru.wK_nx, Ru.wK_rt, Ru.runB_f, Ru.runB_t, Ru.rb_f, Ru.rb_t, Ru.rb_n, Ru.lt_i, Ru.le_i, Ru.gt_i, Ru.ge_i, Ru.sub_i, Ru.add_i, Ru.add_s, Ru.add_t, Ru.add_l, Ru.mul_i, Ru.div_i, Ru.mod_i, Ru.neg_i, Ru.is_n, Ru.isNot_n, Ru.non_n, Ru.non_i, Ru.non_b, Ru.non_s, Ru.non_l, Ru.non_t, Ru.len_l, Ru.len_t, Ru.len_s, Ru.list_l, Ru.list_t, Ru.tuple_l, Ru.tuple_t, Ru.int_i, Ru.gsl_l, Ru.gsl_t, Ru.gsl_s, Ru.eq_s, Ru.eq_i, Ru.eq_b, Ru.ne_b, Ru.ne_s, Ru.ne_i, Ru.in_2, Ru.atI_0, Ru.atI_1, Ru.atI_2, Ru.ix_t, Ru.ix_l, Ru.cut_1, E.wipeS, Ru.bind_some, Option.bind_none, Ru.map_some, Option.map_none, List.getElem?_cons_zero, List.getElem?_cons_succ, List.set_cons_zero, List.set_cons_succ, List.length_cons, List.length_nil, List.map_cons, List.map_nil, List.replicate, List.cons_append, List.nil_append, e1, e2, e3, C.enc, hk0, hk1]
/-! ### shuffled -/
def m_law_shuffled : MF := runB 5 true 2 (b_law_shuffled m_law_draw)
theorem cut_to {α : Type} (xs : List α) {v : Int} (h0 : 0 ≤ v) (h : v ≤ xs.length) : cutA xs none (some v) = xs.take v.toNat := by
  unfold cutA
  have e : v = ((v.toNat : Nat) : Int) := (Int.toNat_of_nonneg h0).symm
  rw [e, HT.sIx_nat, HT.sIx_none, Int.toNat_natCast, List.drop_zero, Nat.sub_zero, Nat.min_eq_left (by omega)]
theorem cut_from {α : Type} (xs : List α) {v : Int} (h0 : 0 ≤ v) (h : v ≤ xs.length) : cutA xs (some v) none = xs.drop v.toNat := by
  unfold cutA
  have e : v = ((v.toNat : Nat) : Int) := (Int.toNat_of_nonneg h0).symm
  rw [e, HT.sIx_nat, HT.sIx_none, Int.toNat_natCast, Nat.min_eq_left (by omega)]
  exact List.take_of_length_le (by rw [List.length_drop]; exact Nat.le_refl _)
theorem atI_get {α : Type} {xs : List α} {v : Int} (h0 : 0 ≤ v) (h : v < xs.length) : atI xs v = some (xs[v.toNat]'(by omega)) := by
  have hix : ixN xs.length v = some v.toNat := by
    unfold ixN
    rw [if_pos h0, if_pos h]
  unfold atI
  rw [hix]
  show xs[v.toNat]? = _
  rw [List.getElem?_eq_getElem (by omega)]
theorem shuffle_loop {x : D} : ∀ (fuel : Nat) (l f : List D) (s4 : Sl) (p : Pl), VP p → l.length < fuel → l.length + f.length ≤ 1000 →
    ∃ (g : List D) (s2 s4' : Sl) (p' : Pl), VP p' ∧ g.Perm (f ++ l) ∧
      S.whl (c1_law_shuffled m_law_draw) (w2_law_shuffled m_law_draw) fuel ⟨[.pool, .d x, .d (.list l), .l f, s4], p⟩ = some (.nx ⟨[.pool, .d x, s2, .l g, s4'], p'⟩) := by
  intro fuel
  induction fuel with
  | zero => intro l f s4 p _ h; omega
  | succ fuel ih =>
    intro l f s4 p hp hl hz
    obtain ⟨q, rfl⟩ := hp.some
    by_cases h0 : l.length = 0
    · have : l = [] := List.length_eq_zero_iff.mp h0
      subst this
      have hc : c1_law_shuffled m_law_draw ⟨[.pool, .d x, .d (.list []), .l f, s4], some q⟩ = some (false, some q) := by simp [c1_law_shuffled, -Option.bind_some, -Option.map_some, Ru.c_e, Ru.v_e, Ru.v_d, Ru.rv_e, Ru.rv_d, Ru.rv_l, Ru.nil_e, Ru.cons_e, Ru.cons_d, Ru.cons_l, Ru.cons_2, Ru.tup_e, Ru.tup_d, Ru.lst_e, Ru.lst_d, Ru.rd_e, Ru.rd_d, Ru.rd_l, Ru.op_e, Ru.op_1, Ru.op_2, Ru.op_3, Ru.un_e, Ru.un_1, Ru.isi_e, Ru.ite_e, Ru.ite_t, Ru.ite_f, Ru.ofB_e, Ru.ofB_1, Ru.toB_e, Ru.toB_1, Ru.and_e, Ru.and_t, Ru.and_f, Ru.or_e, Ru.or_t, Ru.or_f, Ru.not_e, Ru.not_1, Ru.px_e, Ru.px_1, Ru.px_2, Ru.oN_e, Ru.oS_e, Ru.oS_1, Ru.sl_e, Ru.sl_1, Ru.sl_2, Ru.sl_3, Ru.sl3_e, Ru.tl_1, Ru.tl_2, Ru.tl_3, Ru.tl_4, Ru.call_e, Ru.call_1, Ru.call_2, Ru.callP_e, Ru.callP_1, Ru.callP_2, Ru.chain_e, Ru.ch_1, Ru.ch_2, Ru.ch_t, Ru.ch_f, Ru.iL_e, Ru.iL_d, Ru.iL_l, Ru.iT_e, Ru.iT_d, Ru.iR1_e, Ru.iR1_1, Ru.lR_e, Ru.lR_1, Ru.tN_e, Ru.tT_2, Ru.yes_e, Ru.lc_e, Ru.lc_1, Ru.lc_2, Ru.seq_e, Ru.seq_nx, Ru.seq_rt, Ru.nop_e, Ru.set_e, Ru.set_d, Ru.set_l, Ru.setL_e, Ru.setL_l, Ru.ret_e, Ru.ret_1, Ru.retV_e, Ru.retV_l, Ru.retV_d, Ru.frz_e, Ru.frz_l, Ru.sIte_e, Ru.sIte_t, Ru.sIte_f, Ru.for_e, Ru.for_1, Ru.for_nil, Ru.for_cons, Ru.fK_1, Ru.fK_nx, Ru.fK_rt, Ru.append_e, Ru.append_1, Ru.append_d, Ru.append_l, Ru.extend_e, Ru.extend_1, Ru.extend_l, Ru.pop_e, Ru.pop_1, Ru.setIx_e, Ru.setIx_d, Ru.setP_e, Ru.setP_d, Ru.setP_1, Ru.par_e, Ru.par_1, Ru.stup_e, Ru.stup_d, Ru.wK_t, Ru.wK_f, Ru.wK_nx, Ru.wK_rt, Ru.runB_f, Ru.runB_t, Ru.rb_f, Ru.rb_t, Ru.rb_n, Ru.lt_i, Ru.le_i, Ru.gt_i, Ru.ge_i, Ru.sub_i, Ru.add_i, Ru.add_s, Ru.add_t, Ru.add_l, Ru.mul_i, Ru.div_i, Ru.mod_i, Ru.neg_i, Ru.is_n, Ru.isNot_n, Ru.non_n, Ru.non_i, Ru.non_b, Ru.non_s, Ru.non_l, Ru.non_t, Ru.len_l, Ru.len_t, Ru.len_s, Ru.list_l, Ru.list_t, Ru.tuple_l, Ru.tuple_t, Ru.int_i, Ru.gsl_l, Ru.gsl_t, Ru.gsl_s, Ru.eq_s, Ru.eq_i, Ru.eq_b, Ru.ne_b, Ru.ne_s, Ru.ne_i, Ru.in_2, Ru.atI_0, Ru.atI_1, Ru.atI_2, Ru.ix_t, Ru.ix_l, Ru.cut_1, E.wipeS, Ru.bind_some, Option.bind_none, Ru.map_some, Option.map_none, List.getElem?_cons_zero, List.getElem?_cons_succ, List.set_cons_zero, List.set_cons_succ, List.length_cons, List.length_nil, List.map_cons, List.map_nil, List.replicate, List.cons_append, List.nil_append]
      refine ⟨f, .d (.list []), s4, _, hp, by simp, ?_⟩
      rw [Ru.whl_e, hc]
      rfl
    · have hc : c1_law_shuffled m_law_draw ⟨[.pool, .d x, .d (.list l), .l f, s4], some q⟩ = some (true, some q) := by
        have : 0 < l.length := by omega
        simp [c1_law_shuffled, -Option.bind_some, -Option.map_some, Ru.c_e, Ru.v_e, Ru.v_d, Ru.rv_e, Ru.rv_d, Ru.rv_l, Ru.nil_e, Ru.cons_e, Ru.cons_d, Ru.cons_l, Ru.cons_2, Ru.tup_e, Ru.tup_d, Ru.lst_e, Ru.lst_d, Ru.rd_e, Ru.rd_d, Ru.rd_l, Ru.op_e, Ru.op_1, Ru.op_2, Ru.op_3, Ru.un_e, Ru.un_1, Ru.isi_e, Ru.ite_e, Ru.ite_t, Ru.ite_f, Ru.ofB_e, Ru.ofB_1, Ru.toB_e, Ru.toB_1, Ru.and_e, Ru.and_t, Ru.and_f, Ru.or_e, Ru.or_t, Ru.or_f, Ru.not_e, Ru.not_1, Ru.px_e, Ru.px_1, Ru.px_2, Ru.oN_e, Ru.oS_e, Ru.oS_1, Ru.sl_e, Ru.sl_1, Ru.sl_2, Ru.sl_3, Ru.sl3_e, Ru.tl_1, Ru.tl_2, Ru.tl_3, Ru.tl_4, Ru.call_e, Ru.call_1, Ru.call_2, Ru.callP_e, Ru.callP_1, Ru.callP_2, Ru.chain_e, Ru.ch_1, Ru.ch_2, Ru.ch_t, Ru.ch_f, Ru.iL_e, Ru.iL_d, Ru.iL_l, Ru.iT_e, Ru.iT_d, Ru.iR1_e, Ru.iR1_1, Ru.lR_e, Ru.lR_1, Ru.tN_e, Ru.tT_2, Ru.yes_e, Ru.lc_e, Ru.lc_1, Ru.lc_2, Ru.seq_e, Ru.seq_nx, Ru.seq_rt, Ru.nop_e, Ru.set_e, Ru.set_d, Ru.set_l, Ru.setL_e, Ru.setL_l, Ru.ret_e, Ru.ret_1, Ru.retV_e, Ru.retV_l, Ru.retV_d, Ru.frz_e, Ru.frz_l, Ru.sIte_e, Ru.sIte_t, Ru.sIte_f, Ru.for_e, Ru.for_1, Ru.for_nil, Ru.for_cons, Ru.fK_1, Ru.fK_nx, Ru.fK_rt, Ru.append_e, Ru.append_1, Ru.append_d, Ru.append_l, Ru.extend_e, Ru.extend_1, Ru.extend_l, Ru.pop_e, Ru.pop_1, Ru.setIx_e, Ru.setIx_d, Ru.setP_e, Ru.setP_d, Ru.setP_1, Ru.par_e, Ru.par_1, Ru.stup_e, Ru.stup_d, Ru.wK_t, Ru.wK_f, Ru.wK_nx, Ru.wK_rt, Ru.runB_f, Ru.runB_t, Ru.rb_f, Ru.rb_t, Ru.rb_n, Ru.lt_i, Ru.le_i, Ru.gt_i, Ru.ge_i, Ru.sub_i, Ru.add_i, Ru.add_s, Ru.add_t, Ru.add_l, Ru.mul_i, Ru.div_i, Ru.mod_i, Ru.neg_i, Ru.is_n, Ru.isNot_n, Ru.non_n, Ru.non_i, Ru.non_b, Ru.non_s, Ru.non_l, Ru.non_t, Ru.len_l, Ru.len_t, Ru.len_s, Ru.list_l, Ru.list_t, Ru.tuple_l, Ru.tuple_t, Ru.int_i, Ru.gsl_l, Ru.gsl_t, Ru.gsl_s, Ru.eq_s, Ru.eq_i, Ru.eq_b, Ru.ne_b, Ru.ne_s, Ru.ne_i, Ru.in_2, Ru.atI_0, Ru.atI_1, Ru.atI_2, Ru.ix_t, Ru.ix_l, Ru.cut_1, E.wipeS, Ru.bind_some, Option.bind_none, Ru.map_some, Option.map_none, List.getElem?_cons_zero, List.getElem?_cons_succ, List.set_cons_zero, List.set_cons_succ, List.length_cons, List.length_nil, List.map_cons, List.map_nil, List.replicate, List.cons_append, List.nil_append, this]
      obtain ⟨v, p1, hp1, v0, v1, e1⟩ := draw_ok (many := (l.length : Int)) (by omega) (by omega) hp
      obtain ⟨q1, rfl⟩ := hp1.some
      have hv := atI_get v0 v1
      have c1 := cut_to l v0 (by omega)
      have c2 := cut_from l (v := v + 1) (by omega) (by omega)
      have e2 : (v + 1).toNat = v.toNat + 1 := by omega
      rw [e2] at c2
      have hlt : v.toNat < l.length := by omega
      have hlen : (l.take v.toNat).length + (l.drop (v.toNat + 1)).length ≤ 16777216 := by
        rw [List.length_take, List.length_drop]; omega
      have hf : f.length < 16777216 := by omega
      have hw : w2_law_shuffled m_law_draw ⟨[.pool, .d x, .d (.list l), .l f, s4], some q⟩ =
          some (.nx ⟨[.pool, .d x, .d (.list (l.take v.toNat ++ l.drop (v.toNat + 1))), .l (f ++ [l[v.toNat]]), .d (.int v)], some q1⟩) := by
        simp [w2_law_shuffled, -Option.bind_some, -Option.map_some, Ru.c_e, Ru.v_e, Ru.v_d, Ru.rv_e, Ru.rv_d, Ru.rv_l, Ru.nil_e, Ru.cons_e, Ru.cons_d, Ru.cons_l, Ru.cons_2, Ru.tup_e, Ru.tup_d, Ru.lst_e, Ru.lst_d, Ru.rd_e, Ru.rd_d, Ru.rd_l, Ru.op_e, Ru.op_1, Ru.op_2, Ru.op_3, Ru.un_e, Ru.un_1, Ru.isi_e, Ru.ite_e, Ru.ite_t, Ru.ite_f, Ru.ofB_e, Ru.ofB_1, Ru.toB_e, Ru.toB_1, Ru.and_e, Ru.and_t, Ru.and_f, Ru.or_e, Ru.or_t, Ru.or_f, Ru.not_e, Ru.not_1, Ru.px_e, Ru.px_1, Ru.px_2, Ru.oN_e, Ru.oS_e, Ru.oS_1, Ru.sl_e, Ru.sl_1, Ru.sl_2, Ru.sl_3, Ru.sl3_e, Ru.tl_1, Ru.tl_2, Ru.tl_3, Ru.tl_4, Ru.call_e, Ru.call_1, Ru.call_2, Ru.callP_e, Ru.callP_1, Ru.callP_2, Ru.chain_e, Ru.ch_1, Ru.ch_2, Ru.ch_t, Ru.ch_f, Ru.iL_e, Ru.iL_d, Ru.iL_l, Ru.iT_e, Ru.iT_d, Ru.iR1_e, Ru.iR1_1, Ru.lR_e, Ru.lR_1, Ru.tN_e, Ru.tT_2, Ru.yes_e, Ru.lc_e, Ru.lc_1, Ru.lc_2, Ru.seq_e, Ru.seq_nx, Ru.seq_rt, Ru.nop_e, Ru.set_e, Ru.set_d, Ru.set_l, Ru.setL_e, Ru.setL_l, Ru.ret_e, Ru.ret_1, Ru.retV_e, Ru.retV_l, Ru.retV_d, Ru.frz_e, Ru.frz_l, Ru.sIte_e, Ru.sIte_t, Ru.sIte_f, Ru.for_e, Ru.for_1, Ru.for_nil, Ru.for_cons, Ru.fK_1, Ru.fK_nx, Ru.fK_rt, Ru.append_e, Ru.append_1, Ru.append_d, Ru.append_l, Ru.extend_e, Ru.extend_1, Ru.extend_l, Ru.pop_e, Ru.pop_1, Ru.setIx_e, Ru.setIx_d, Ru.setP_e, Ru.setP_d, Ru.setP_1, Ru.par_e, Ru.par_1, Ru.stup_e, Ru.stup_d, Ru.wK_t, Ru.wK_f, Ru.wK_nx, Ru.wK_rt, Ru.runB_f, Ru.runB_t, Ru.rb_f, Ru.rb_t, Ru.rb_n, Ru.lt_i, Ru.le_i, Ru.gt_i, Ru.ge_i, Ru.sub_i, Ru.add_i, Ru.add_s, Ru.add_t, Ru.add_l, Ru.mul_i, Ru.div_i, Ru.mod_i, Ru.neg_i, Ru.is_n, Ru.isNot_n, Ru.non_n, Ru.non_i, Ru.non_b, Ru.non_s, Ru.non_l, Ru.non_t, Ru.len_l, Ru.len_t, Ru.len_s, Ru.list_l, Ru.list_t, Ru.tuple_l, Ru.tuple_t, Ru.int_i, Ru.gsl_l, Ru.gsl_t, Ru.gsl_s, Ru.eq_s, Ru.eq_i, Ru.eq_b, Ru.ne_b, Ru.ne_s, Ru.ne_i, Ru.in_2, Ru.atI_0, Ru.atI_1, Ru.atI_2, Ru.ix_t, Ru.ix_l, Ru.cut_1, E.wipeS, Ru.bind_some, Option.bind_none, Ru.map_some, Option.map_none, List.getElem?_cons_zero, List.getElem?_cons_succ, List.set_cons_zero, List.set_cons_succ, List.length_cons, List.length_nil, List.map_cons, List.map_nil, List.replicate, List.cons_append, List.nil_append, e1, hv, c1, c2, hf]
        rw [Ru.add_l hlen]
        simp [-Option.bind_some, -Option.map_some, Ru.c_e, Ru.v_e, Ru.v_d, Ru.rv_e, Ru.rv_d, Ru.rv_l, Ru.nil_e, Ru.cons_e, Ru.cons_d, Ru.cons_l, Ru.cons_2, Ru.tup_e, Ru.tup_d, Ru.lst_e, Ru.lst_d, Ru.rd_e, Ru.rd_d, Ru.rd_l, Ru.op_e, Ru.op_1, Ru.op_2, Ru.op_3, Ru.un_e, Ru.un_1, Ru.isi_e, Ru.ite_e, Ru.ite_t, Ru.ite_f, Ru.ofB_e, Ru.ofB_1, Ru.toB_e, Ru.toB_1, Ru.and_e, Ru.and_t, Ru.and_f, Ru.or_e, Ru.or_t, Ru.or_f, Ru.not_e, Ru.not_1, Ru.px_e, Ru.px_1, Ru.px_2, Ru.oN_e, Ru.oS_e, Ru.oS_1, Ru.sl_e, Ru.sl_1, Ru.sl_2, Ru.sl_3, Ru.sl3_e, Ru.tl_1, Ru.tl_2, Ru.tl_3, Ru.tl_4, Ru.call_e, Ru.call_1, Ru.call_2, Ru.callP_e, Ru.callP_1, Ru.callP_2, Ru.chain_e, Ru.ch_1, Ru.ch_2, Ru.ch_t, Ru.ch_f, Ru.iL_e, Ru.iL_d, Ru.iL_l, Ru.iT_e, Ru.iT_d, Ru.iR1_e, Ru.iR1_1, Ru.lR_e, Ru.lR_1, Ru.tN_e, Ru.tT_2, Ru.yes_e, Ru.lc_e, Ru.lc_1, Ru.lc_2, Ru.seq_e, Ru.seq_nx, Ru.seq_rt, Ru.nop_e, Ru.set_e, Ru.set_d, Ru.set_l, Ru.setL_e, Ru.setL_l, Ru.ret_e, Ru.ret_1, Ru.retV_e, Ru.retV_l, Ru.retV_d, Ru.frz_e, Ru.frz_l, Ru.sIte_e, Ru.sIte_t, Ru.sIte_f, Ru.for_e, Ru.for_1, Ru.for_nil, Ru.for_cons, Ru.fK_1, Ru.fK_nx, Ru.fK_rt, Ru.append_e, Ru.append_1, Ru.append_d, Ru.append_l, Ru.extend_e, Ru.extend_1, Ru.extend_l, Ru.pop_e, Ru.pop_1, Ru.setIx_e, Ru.setIx_d, Ru.setP_e, Ru.setP_d, Ru.setP_1, Ru.par_e, Ru.par_1, Ru.stup_e, Ru.stup_d, Ru.wK_t, Ru.wK_f, Ru.wK_nx, Ru.wK_rt, Ru.runB_f, Ru.runB_t, Ru.rb_f, Ru.rb_t, Ru.rb_n, Ru.lt_i, Ru.le_i, Ru.gt_i, Ru.ge_i, Ru.sub_i, Ru.add_i, Ru.add_s, Ru.add_t, Ru.add_l, Ru.mul_i, Ru.div_i, Ru.mod_i, Ru.neg_i, Ru.is_n, Ru.isNot_n, Ru.non_n, Ru.non_i, Ru.non_b, Ru.non_s, Ru.non_l, Ru.non_t, Ru.len_l, Ru.len_t, Ru.len_s, Ru.list_l, Ru.list_t, Ru.tuple_l, Ru.tuple_t, Ru.int_i, Ru.gsl_l, Ru.gsl_t, Ru.gsl_s, Ru.eq_s, Ru.eq_i, Ru.eq_b, Ru.ne_b, Ru.ne_s, Ru.ne_i, Ru.in_2, Ru.atI_0, Ru.atI_1, Ru.atI_2, Ru.ix_t, Ru.ix_l, Ru.cut_1, E.wipeS, Ru.bind_some, Option.bind_none, Ru.map_some, Option.map_none, List.getElem?_cons_zero, List.getElem?_cons_succ, List.set_cons_zero, List.set_cons_succ, List.length_cons, List.length_nil, List.map_cons, List.map_nil, List.replicate, List.cons_append, List.nil_append]
      obtain ⟨g, s2, s4', p', hp', hg, z⟩ := ih (l.take v.toNat ++ l.drop (v.toNat + 1)) (f ++ [l[v.toNat]]) (.d (.int v)) _ hp1 (by
        rw [List.length_append, List.length_take, List.length_drop]; omega) (by
        rw [List.length_append, List.length_append, List.length_take, List.length_drop, List.length_singleton]; omega)
      refine ⟨g, s2, s4', p', hp', hg.trans ?_, ?_⟩
      · rw [List.append_assoc]
        refine List.Perm.append_left f ?_
        have e3 : l = l.take v.toNat ++ l[v.toNat] :: l.drop (v.toNat + 1) := by
          rw [← List.drop_eq_getElem_cons hlt, List.take_append_drop]
        conv => rhs; rw [e3]
        show (l[v.toNat] :: (l.take v.toNat ++ l.drop (v.toNat + 1))).Perm _
        exact List.perm_middle.symm
      · rw [Ru.whl_e, hc]
        simp only [Ru.bind_some, Ru.wK_t]
        rw [hw]
        simp only [Ru.bind_some, Ru.wK_nx]
        exact z
theorem e_shuffled {xs : List D} (hl : xs.length < 64) {p : Pl} (hp : VP p) : ∃ (g : List D) (p' : Pl), VP p' ∧ g.Perm xs ∧ m_law_shuffled [.list xs] p = some (.d (.tuple g), p') := by
  obtain ⟨g, s2, s4', p', hp', hg, z⟩ := shuffle_loop (x := .list xs) 64 xs [] .un p hp hl (by simp; omega)
  obtain ⟨q, rfl⟩ := hp.some
  refine ⟨g, p', hp', by simpa using hg, ?_⟩
  simp only [m_law_shuffled, b_law_shuffled]
  simp [-Option.bind_some, -Option.map_some, Ru.c_e, Ru.v_e, Ru.v_d, Ru.rv_e, Ru.rv_d, Ru.rv_l, Ru.nil_e, Ru.cons_e, Ru.cons_d, Ru.cons_l, Ru.cons_2, Ru.tup_e, Ru.tup_d, Ru.lst_e, Ru.lst_d, Ru.rd_e, Ru.rd_d, Ru.rd_l, Ru.op_e, Ru.op_1, Ru.op_2, Ru.op_3, Ru.un_e, Ru.un_1, Ru.isi_e, Ru.ite_e, Ru.ite_t, Ru.ite_f, Ru.ofB_e, Ru.ofB_1, Ru.toB_e, Ru.toB_1, Ru.and_e, Ru.and_t, Ru.and_f, Ru.or_e, Ru.or_t, Ru.or_f, Ru.not_e, Ru.not_1, Ru.px_e, Ru.px_1, Ru.px_2, Ru.oN_e, Ru.oS_e, Ru.oS_1, Ru.sl_e, Ru.sl_1, Ru.sl_2, Ru.sl_3, Ru.sl3_e, Ru.tl_1, Ru.tl_2, Ru.tl_3, Ru.tl_4, Ru.call_e, Ru.call_1, Ru.call_2, Ru.callP_e, Ru.callP_1, Ru.callP_2, Ru.chain_e, Ru.ch_1, Ru.ch_2, Ru.ch_t, Ru.ch_f, Ru.iL_e, Ru.iL_d, Ru.iL_l, Ru.iT_e, Ru.iT_d, Ru.iR1_e, Ru.iR1_1, Ru.lR_e, Ru.lR_1, Ru.tN_e, Ru.tT_2, Ru.yes_e, Ru.lc_e, Ru.lc_1, Ru.lc_2, Ru.seq_e, Ru.seq_nx, Ru.seq_rt, Ru.nop_e, Ru.set_e, Ru.set_d, Ru.set_l, Ru.setL_e, Ru.setL_l, Ru.ret_e, Ru.ret_1, Ru.retV_e, Ru.retV_l, Ru.retV_d, Ru.frz_e, Ru.frz_l, Ru.sIte_e, Ru.sIte_t, Ru.sIte_f, Ru.for_e, Ru.for_1, Ru.for_nil, Ru.for_cons, Ru.fK_1, Ru.fK_nx, Ru.fK_rt, Ru.append_e, Ru.append_1, Ru.append_d, Ru.append_l, Ru.extend_e, Ru.extend_1, Ru.extend_l, Ru.pop_e, Ru.pop_1, Ru.setIx_e, Ru.setIx_d, Ru.setP_e, Ru.setP_d, Ru.setP_1, Ru.par_e, Ru.par_1, Ru.stup_e, Ru.stup_d, Ru.wK_t, Ru.wK_f, Ru.wK_nx, Ru.wK_rt, Ru.runB_f, Ru.runB_t, Ru.rb_f, Ru.rb_t, Ru.rb_n, Ru.lt_i, Ru.le_i, Ru.gt_i, Ru.ge_i, Ru.sub_i, Ru.add_i, Ru.add_s, Ru.add_t, Ru.add_l, Ru.mul_i, Ru.div_i, Ru.mod_i, Ru.neg_i, Ru.is_n, Ru.isNot_n, Ru.non_n, Ru.non_i, Ru.non_b, Ru.non_s, Ru.non_l, Ru.non_t, Ru.len_l, Ru.len_t, Ru.len_s, Ru.list_l, Ru.list_t, Ru.tuple_l, Ru.tuple_t, Ru.int_i, Ru.gsl_l, Ru.gsl_t, Ru.gsl_s, Ru.eq_s, Ru.eq_i, Ru.eq_b, Ru.ne_b, Ru.ne_s, Ru.ne_i, Ru.in_2, Ru.atI_0, Ru.atI_1, Ru.atI_2, Ru.ix_t, Ru.ix_l, Ru.cut_1, E.wipeS, Ru.bind_some, Option.bind_none, Ru.map_some, Option.map_none, List.getElem?_cons_zero, List.getElem?_cons_succ, List.set_cons_zero, List.set_cons_succ, List.length_cons, List.length_nil, List.map_cons, List.map_nil, List.replicate, List.cons_append, List.nil_append, z]
end K1

/-! deedsagain k01: bent values. -/
namespace K1
open PySem PySem.Spec L2 Dg
open Dg.Ru (isI isB isS isTu isLi isT_int isT_bool isT_str isT_list isT_tuple)
set_option maxHeartbeats 0
mutual
def gd (k : Int) : PyData → Bool
  | .none | .bool _ => true
  | .int i => decide (-k ≤ i ∧ i ≤ k)
  | .str s => s.cps.toList.all (fun c => decide (c < 4294967296))
  | .list xs => gdAll k xs
  | .tuple xs => gdAll k xs
  | .dict _ => false
def gdAll (k : Int) : List PyData → Bool
  | [] => true
  | x :: xs => gd k x && gdAll k xs
end
theorem gdAll_iff {k : Int} : ∀ {xs : List D}, gdAll k xs = true ↔ ∀ x ∈ xs, gd k x = true
  | [] => by simp [gdAll]
  | x :: xs => by simp [gdAll, gdAll_iff (xs := xs)]
theorem gd_tuple {k : Int} {xs : List D} : gd k (.tuple xs) = true ↔ ∀ x ∈ xs, gd k x = true := by
  rw [← gdAll_iff]; simp [gd]
theorem gd_list {k : Int} {xs : List D} : gd k (.list xs) = true ↔ ∀ x ∈ xs, gd k x = true := by
  rw [← gdAll_iff]; simp [gd]
mutual
theorem gd_mono {k m : Int} (h : k ≤ m) : ∀ d : D, gd k d = true → gd m d = true
  | .none, _ => by simp [gd]
  | .bool _, _ => by simp [gd]
  | .int i, z => by simp [gd] at z ⊢; omega
  | .str s, z => by simpa [gd] using z
  | .list xs, z => by simp only [gd] at z ⊢; exact gdAll_mono h xs z
  | .tuple xs, z => by simp only [gd] at z ⊢; exact gdAll_mono h xs z
  | .dict _, z => by simp [gd] at z
theorem gdAll_mono {k m : Int} (h : k ≤ m) : ∀ xs : List D, gdAll k xs = true → gdAll m xs = true
  | [], _ => by simp [gdAll]
  | x :: xs, z => by
    simp only [gdAll, Bool.and_eq_true] at z ⊢
    exact ⟨gd_mono h x z.1, gdAll_mono h xs z.2⟩
end
mutual
theorem gd_plain {k : Int} : ∀ d : D, gd k d = true → d.plain = true
  | .none, _ => rfl
  | .bool _, _ => rfl
  | .int i, _ => rfl
  | .str s, _ => rfl
  | .list xs, z => by simp only [gd] at z; simp only [PyData.plain]; exact gdAll_plain xs z
  | .tuple xs, z => by simp only [gd] at z; simp only [PyData.plain]; exact gdAll_plain xs z
  | .dict _, z => by simp [gd] at z
theorem gdAll_plain {k : Int} : ∀ xs : List D, gdAll k xs = true → PyData.plainAll xs = true
  | [], _ => rfl
  | x :: xs, z => by
    simp only [gdAll, Bool.and_eq_true] at z
    simp only [PyData.plainAll, Bool.and_eq_true]
    exact ⟨gd_plain x z.1, gdAll_plain xs z.2⟩
end
theorem depth_mem : ∀ {xs : List D} {x : D}, x ∈ xs → x.depth ≤ PyData.depthAll xs
  | y :: ys, x, h => by
    simp only [PyData.depthAll]
    rcases List.mem_cons.mp h with rfl | h
    · omega
    · have := depth_mem h; omega
/-- the promise of a bent value -/
def Bent (k : Int) (x : D) (r : RV) : Prop := ∃ d, toD r = some d ∧ gd (k + 2) d = true ∧ sz d ≤ 3 * sz x + 4 ∧ d.depth ≤ x.depth + 1
theorem bent_d {k : Int} {x d : D} (h1 : gd (k + 2) d = true) (h2 : sz d ≤ 3 * sz x + 4) (h3 : d.depth ≤ x.depth + 1 := by first | exact Nat.zero_le _ | exact Nat.le_add_left _ _ | exact Nat.le_refl _) : Bent k x (.d d) := ⟨d, rfl, h1, h2, h3⟩
theorem depthAll_le {m : Nat} : ∀ {xs : List D}, (∀ y ∈ xs, y.depth ≤ m) → PyData.depthAll xs ≤ m
  | [], _ => Nat.zero_le _
  | x :: xs, h => by
    have h1 := h x (by simp)
    have h2 := depthAll_le (xs := xs) fun y hy => h y (by simp [hy])
    simp only [PyData.depthAll]
    omega
theorem depth_tuple {m : Nat} {xs : List D} (h : ∀ y ∈ xs, y.depth ≤ m) : (PyData.tuple xs).depth ≤ m + 1 := Nat.add_le_add_right (depthAll_le h) 1
theorem cut_gd {k : Int} {s : Str} {lo hi : Option Int} (h : gd k (.str s) = true) : gd k (.str (cutS s lo hi)) = true := by
  simp only [gd, List.all_eq_true] at h ⊢
  intro c hc
  refine h c ?_
  unfold cutS at hc
  exact List.mem_of_mem_drop (List.mem_of_mem_take hc)
theorem app_gd {k : Int} {s z : Str} (h : gd k (.str s) = true) (h2 : gd k (.str z) = true) : gd k (.str (s ++ z)) = true := by
  simp only [gd, List.all_eq_true] at h h2 ⊢
  intro c hc
  have e : (s ++ z).cps.toList = s.cps.toList ++ z.cps.toList := Array.toList_append
  rw [e, List.mem_append] at hc
  exact hc.elim (h c) (h2 c)
theorem szAll_set : ∀ (xs : List D) (i : Nat) (y : D), szAll (xs.set i y) ≤ szAll xs + sz y
  | [], i, y => by simp [szAll]
  | x :: xs, 0, y => by simp only [List.set_cons_zero, szAll]; omega
  | x :: xs, i + 1, y => by
    have := szAll_set xs i y
    simp only [List.set_cons_succ, szAll]; omega
theorem szAll_split (xs : List D) (i : Nat) (h : i < xs.length) : szAll (xs.take i) + (sz xs[i] + szAll (xs.drop (i + 1))) = szAll xs := by
  conv => rhs; rw [← List.take_append_drop i xs, List.drop_eq_getElem_cons h, szAll_append]
  simp only [szAll]
abbrev mB (m : MF) : SF := r1_law_bent m_law_draw m_law_is_integer m
theorem consK_to {g : AF} {r : List Sl} {q : Pl} {rv : RV} {d : D} (h : toD rv = some d) : Ru.consK g r (rv, q) = (g ⟨r, q⟩).bind (Ru.consK2 d) := by
  unfold Ru.consK
  simp only [h, Option.bind_some]
theorem gd_x {k : Int} : gd k (.str "x") = true := by
  simp only [gd]
  decide +kernel
theorem gd_a {k : Int} : gd k (.str "a") = true := by
  simp only [gd]
  decide +kernel
theorem gd_A {k : Int} : gd k (.str "A") = true := by
  simp only [gd]
  decide +kernel
theorem gd_b {k : Int} : gd k (.str " ") = true := by
  simp only [gd]
  decide +kernel
theorem tail_ok {k : Int} (hk : 1 ≤ k) {m : MF} {x : D} (hg : gd k x = true) (hs : sz x ≤ 100000) {p : Pl} (hp : VP p) :
    ∃ (r : RV) (p' : Pl), VP p' ∧ Bent k x r ∧ mB m ⟨[.pool, .d x, .un, .un, .un, .un], p⟩ = some (.rt r p') := by
  obtain ⟨q, rfl⟩ := hp.some
  obtain ⟨v, p1, hp1, v0, v1, e1⟩ := draw_ok (many := 9) (by decide) (by decide) hp
  obtain ⟨q1, rfl⟩ := hp1.some
  have hpl := gd_plain x hg
  have hi := e_law_is_integer hpl
  have hS := isT_str hpl
  have hT := isT_tuple hpl
  have hmono := gd_mono (show k ≤ k + 2 by omega) x hg
  have hpos := sz_pos x
  by_cases c0 : v = 0
  · subst c0
    obtain ⟨i, p2, hp2, i0, i1, e2⟩ := draw_ok (many := 8) (by decide) (by decide) hp1
    obtain ⟨y, hy, hy2⟩ := atI_mem (xs := [PyData.str "x", .bool true, .tuple [], .int 0, .int (-1), .none, .bool false, .list []]) i0 i1
    refine ⟨.d y, p2, hp2, ?_, ?_⟩
    · simp only [List.mem_cons, List.not_mem_nil, or_false] at hy
      have h1 : (1 : Int) ≤ k + 2 := by omega
      rcases hy with rfl | rfl | rfl | rfl | rfl | rfl | rfl | rfl <;> refine bent_d ?_ ?_ <;> first | exact gd_x | (simp [gd, gdAll]; done) | (simp [gd, gdAll]; omega) | (simp [sz, szAll]; done) | (simp [sz, szAll]; omega) | (show sz _ ≤ _; have : sz (.str "x") = 2 := rfl; omega)
    · simp [mB, r1_law_bent, r2_law_bent, -Option.bind_some, -Option.map_some, Ru.c_e, Ru.v_e, Ru.v_d, Ru.rv_e, Ru.rv_d, Ru.rv_l, Ru.nil_e, Ru.cons_e, Ru.cons_d, Ru.cons_l, Ru.cons_2, Ru.tup_e, Ru.tup_d, Ru.lst_e, Ru.lst_d, Ru.rd_e, Ru.rd_d, Ru.rd_l, Ru.op_e, Ru.op_1, Ru.op_2, Ru.op_3, Ru.un_e, Ru.un_1, Ru.isi_e, Ru.ite_e, Ru.ite_t, Ru.ite_f, Ru.ofB_e, Ru.ofB_1, Ru.toB_e, Ru.toB_1, Ru.and_e, Ru.and_t, Ru.and_f, Ru.or_e, Ru.or_t, Ru.or_f, Ru.not_e, Ru.not_1, Ru.px_e, Ru.px_1, Ru.px_2, Ru.oN_e, Ru.oS_e, Ru.oS_1, Ru.sl_e, Ru.sl_1, Ru.sl_2, Ru.sl_3, Ru.sl3_e, Ru.tl_1, Ru.tl_2, Ru.tl_3, Ru.tl_4, Ru.call_e, Ru.call_1, Ru.call_2, Ru.callP_e, Ru.callP_1, Ru.callP_2, Ru.chain_e, Ru.ch_1, Ru.ch_2, Ru.ch_t, Ru.ch_f, Ru.iL_e, Ru.iL_d, Ru.iL_l, Ru.iT_e, Ru.iT_d, Ru.iR1_e, Ru.iR1_1, Ru.lR_e, Ru.lR_1, Ru.tN_e, Ru.tT_2, Ru.yes_e, Ru.lc_e, Ru.lc_1, Ru.lc_2, Ru.seq_e, Ru.seq_nx, Ru.seq_rt, Ru.nop_e, Ru.set_e, Ru.set_d, Ru.set_l, Ru.setL_e, Ru.setL_l, Ru.ret_e, Ru.ret_1, Ru.retV_e, Ru.retV_l, Ru.retV_d, Ru.frz_e, Ru.frz_l, Ru.sIte_e, Ru.sIte_t, Ru.sIte_f, Ru.for_e, Ru.for_1, Ru.for_nil, Ru.for_cons, Ru.fK_1, Ru.fK_nx, Ru.fK_rt, Ru.append_e, Ru.append_1, Ru.append_d, Ru.append_l, Ru.extend_e, Ru.extend_1, Ru.extend_l, Ru.pop_e, Ru.pop_1, Ru.setIx_e, Ru.setIx_d, Ru.setP_e, Ru.setP_d, Ru.setP_1, Ru.par_e, Ru.par_1, Ru.stup_e, Ru.stup_d, Ru.wK_t, Ru.wK_f, Ru.wK_nx, Ru.wK_rt, Ru.runB_f, Ru.runB_t, Ru.rb_f, Ru.rb_t, Ru.rb_n, Ru.lt_i, Ru.le_i, Ru.gt_i, Ru.ge_i, Ru.sub_i, Ru.add_i, Ru.add_s, Ru.add_t, Ru.add_l, Ru.mul_i, Ru.div_i, Ru.mod_i, Ru.neg_i, Ru.is_n, Ru.isNot_n, Ru.non_n, Ru.non_i, Ru.non_b, Ru.non_s, Ru.non_l, Ru.non_t, Ru.len_l, Ru.len_t, Ru.len_s, Ru.list_l, Ru.list_t, Ru.tuple_l, Ru.tuple_t, Ru.int_i, Ru.gsl_l, Ru.gsl_t, Ru.gsl_s, Ru.eq_s, Ru.eq_i, Ru.eq_b, Ru.ne_b, Ru.ne_s, Ru.ne_i, Ru.in_2, Ru.atI_0, Ru.atI_1, Ru.atI_2, Ru.ix_t, Ru.ix_l, Ru.cut_1, E.wipeS, Ru.bind_some, Option.bind_none, Ru.map_some, Option.map_none, List.getElem?_cons_zero, List.getElem?_cons_succ, List.set_cons_zero, List.set_cons_succ, List.length_cons, List.length_nil, List.map_cons, List.map_nil, List.replicate, List.cons_append, List.nil_append, e1, e2, hy2]
  · have c0' : (v == 0) = false := beq_false_of_ne c0
    have step : mB m ⟨[.pool, .d x, .un, .un, .un, .un], some q⟩ = r3_law_bent m_law_draw m_law_is_integer m ⟨[.pool, .d x, .un, .d (.int v), .un, .un], some q1⟩ := by
      simp [mB, r1_law_bent, r2_law_bent, -Option.bind_some, -Option.map_some, Ru.c_e, Ru.v_e, Ru.v_d, Ru.rv_e, Ru.rv_d, Ru.rv_l, Ru.nil_e, Ru.cons_e, Ru.cons_d, Ru.cons_l, Ru.cons_2, Ru.tup_e, Ru.tup_d, Ru.lst_e, Ru.lst_d, Ru.rd_e, Ru.rd_d, Ru.rd_l, Ru.op_e, Ru.op_1, Ru.op_2, Ru.op_3, Ru.un_e, Ru.un_1, Ru.isi_e, Ru.ite_e, Ru.ite_t, Ru.ite_f, Ru.ofB_e, Ru.ofB_1, Ru.toB_e, Ru.toB_1, Ru.and_e, Ru.and_t, Ru.and_f, Ru.or_e, Ru.or_t, Ru.or_f, Ru.not_e, Ru.not_1, Ru.px_e, Ru.px_1, Ru.px_2, Ru.oN_e, Ru.oS_e, Ru.oS_1, Ru.sl_e, Ru.sl_1, Ru.sl_2, Ru.sl_3, Ru.sl3_e, Ru.tl_1, Ru.tl_2, Ru.tl_3, Ru.tl_4, Ru.call_e, Ru.call_1, Ru.call_2, Ru.callP_e, Ru.callP_1, Ru.callP_2, Ru.chain_e, Ru.ch_1, Ru.ch_2, Ru.ch_t, Ru.ch_f, Ru.iL_e, Ru.iL_d, Ru.iL_l, Ru.iT_e, Ru.iT_d, Ru.iR1_e, Ru.iR1_1, Ru.lR_e, Ru.lR_1, Ru.tN_e, Ru.tT_2, Ru.yes_e, Ru.lc_e, Ru.lc_1, Ru.lc_2, Ru.seq_e, Ru.seq_nx, Ru.seq_rt, Ru.nop_e, Ru.set_e, Ru.set_d, Ru.set_l, Ru.setL_e, Ru.setL_l, Ru.ret_e, Ru.ret_1, Ru.retV_e, Ru.retV_l, Ru.retV_d, Ru.frz_e, Ru.frz_l, Ru.sIte_e, Ru.sIte_t, Ru.sIte_f, Ru.for_e, Ru.for_1, Ru.for_nil, Ru.for_cons, Ru.fK_1, Ru.fK_nx, Ru.fK_rt, Ru.append_e, Ru.append_1, Ru.append_d, Ru.append_l, Ru.extend_e, Ru.extend_1, Ru.extend_l, Ru.pop_e, Ru.pop_1, Ru.setIx_e, Ru.setIx_d, Ru.setP_e, Ru.setP_d, Ru.setP_1, Ru.par_e, Ru.par_1, Ru.stup_e, Ru.stup_d, Ru.wK_t, Ru.wK_f, Ru.wK_nx, Ru.wK_rt, Ru.runB_f, Ru.runB_t, Ru.rb_f, Ru.rb_t, Ru.rb_n, Ru.lt_i, Ru.le_i, Ru.gt_i, Ru.ge_i, Ru.sub_i, Ru.add_i, Ru.add_s, Ru.add_t, Ru.add_l, Ru.mul_i, Ru.div_i, Ru.mod_i, Ru.neg_i, Ru.is_n, Ru.isNot_n, Ru.non_n, Ru.non_i, Ru.non_b, Ru.non_s, Ru.non_l, Ru.non_t, Ru.len_l, Ru.len_t, Ru.len_s, Ru.list_l, Ru.list_t, Ru.tuple_l, Ru.tuple_t, Ru.int_i, Ru.gsl_l, Ru.gsl_t, Ru.gsl_s, Ru.eq_s, Ru.eq_i, Ru.eq_b, Ru.ne_b, Ru.ne_s, Ru.ne_i, Ru.in_2, Ru.atI_0, Ru.atI_1, Ru.atI_2, Ru.ix_t, Ru.ix_l, Ru.cut_1, E.wipeS, Ru.bind_some, Option.bind_none, Ru.map_some, Option.map_none, List.getElem?_cons_zero, List.getElem?_cons_succ, List.set_cons_zero, List.set_cons_succ, List.length_cons, List.length_nil, List.map_cons, List.map_nil, List.replicate, List.cons_append, List.nil_append, e1, c0']
    rw [step]
    cases x with
    | int i =>
      obtain ⟨j, p2, hp2, j0, j1, e2⟩ := draw_ok (many := 4) (by decide) (by decide) hp1
      obtain ⟨y, hy, hy2⟩ := atI_mem (xs := [PyData.int 1, .int (-1), .int 2, .int 0]) j0 j1
      simp only [List.mem_cons, List.not_mem_nil, or_false] at hy
      simp only [gd, decide_eq_true_eq] at hg
      rcases hy with rfl | rfl | rfl | rfl
      · exact ⟨.d (.int (i + 1)), p2, hp2, bent_d (by simp only [gd, decide_eq_true_eq]; omega) (by simp only [sz]; omega), by simp [r3_law_bent, -Option.bind_some, -Option.map_some, Ru.c_e, Ru.v_e, Ru.v_d, Ru.rv_e, Ru.rv_d, Ru.rv_l, Ru.nil_e, Ru.cons_e, Ru.cons_d, Ru.cons_l, Ru.cons_2, Ru.tup_e, Ru.tup_d, Ru.lst_e, Ru.lst_d, Ru.rd_e, Ru.rd_d, Ru.rd_l, Ru.op_e, Ru.op_1, Ru.op_2, Ru.op_3, Ru.un_e, Ru.un_1, Ru.isi_e, Ru.ite_e, Ru.ite_t, Ru.ite_f, Ru.ofB_e, Ru.ofB_1, Ru.toB_e, Ru.toB_1, Ru.and_e, Ru.and_t, Ru.and_f, Ru.or_e, Ru.or_t, Ru.or_f, Ru.not_e, Ru.not_1, Ru.px_e, Ru.px_1, Ru.px_2, Ru.oN_e, Ru.oS_e, Ru.oS_1, Ru.sl_e, Ru.sl_1, Ru.sl_2, Ru.sl_3, Ru.sl3_e, Ru.tl_1, Ru.tl_2, Ru.tl_3, Ru.tl_4, Ru.call_e, Ru.call_1, Ru.call_2, Ru.callP_e, Ru.callP_1, Ru.callP_2, Ru.chain_e, Ru.ch_1, Ru.ch_2, Ru.ch_t, Ru.ch_f, Ru.iL_e, Ru.iL_d, Ru.iL_l, Ru.iT_e, Ru.iT_d, Ru.iR1_e, Ru.iR1_1, Ru.lR_e, Ru.lR_1, Ru.tN_e, Ru.tT_2, Ru.yes_e, Ru.lc_e, Ru.lc_1, Ru.lc_2, Ru.seq_e, Ru.seq_nx, Ru.seq_rt, Ru.nop_e, Ru.set_e, Ru.set_d, Ru.set_l, Ru.setL_e, Ru.setL_l, Ru.ret_e, Ru.ret_1, Ru.retV_e, Ru.retV_l, Ru.retV_d, Ru.frz_e, Ru.frz_l, Ru.sIte_e, Ru.sIte_t, Ru.sIte_f, Ru.for_e, Ru.for_1, Ru.for_nil, Ru.for_cons, Ru.fK_1, Ru.fK_nx, Ru.fK_rt, Ru.append_e, Ru.append_1, Ru.append_d, Ru.append_l, Ru.extend_e, Ru.extend_1, Ru.extend_l, Ru.pop_e, Ru.pop_1, Ru.setIx_e, Ru.setIx_d, Ru.setP_e, Ru.setP_d, Ru.setP_1, Ru.par_e, Ru.par_1, Ru.stup_e, Ru.stup_d, Ru.wK_t, Ru.wK_f, Ru.wK_nx, Ru.wK_rt, Ru.runB_f, Ru.runB_t, Ru.rb_f, Ru.rb_t, Ru.rb_n, Ru.lt_i, Ru.le_i, Ru.gt_i, Ru.ge_i, Ru.sub_i, Ru.add_i, Ru.add_s, Ru.add_t, Ru.add_l, Ru.mul_i, Ru.div_i, Ru.mod_i, Ru.neg_i, Ru.is_n, Ru.isNot_n, Ru.non_n, Ru.non_i, Ru.non_b, Ru.non_s, Ru.non_l, Ru.non_t, Ru.len_l, Ru.len_t, Ru.len_s, Ru.list_l, Ru.list_t, Ru.tuple_l, Ru.tuple_t, Ru.int_i, Ru.gsl_l, Ru.gsl_t, Ru.gsl_s, Ru.eq_s, Ru.eq_i, Ru.eq_b, Ru.ne_b, Ru.ne_s, Ru.ne_i, Ru.in_2, Ru.atI_0, Ru.atI_1, Ru.atI_2, Ru.ix_t, Ru.ix_l, Ru.cut_1, E.wipeS, Ru.bind_some, Option.bind_none, Ru.map_some, Option.map_none, List.getElem?_cons_zero, List.getElem?_cons_succ, List.set_cons_zero, List.set_cons_succ, List.length_cons, List.length_nil, List.map_cons, List.map_nil, List.replicate, List.cons_append, List.nil_append, hi, isI, e2, hy2]⟩
      · exact ⟨.d (.int (i + -1)), p2, hp2, bent_d (by simp only [gd, decide_eq_true_eq]; omega) (by simp only [sz]; omega), by simp [r3_law_bent, -Option.bind_some, -Option.map_some, Ru.c_e, Ru.v_e, Ru.v_d, Ru.rv_e, Ru.rv_d, Ru.rv_l, Ru.nil_e, Ru.cons_e, Ru.cons_d, Ru.cons_l, Ru.cons_2, Ru.tup_e, Ru.tup_d, Ru.lst_e, Ru.lst_d, Ru.rd_e, Ru.rd_d, Ru.rd_l, Ru.op_e, Ru.op_1, Ru.op_2, Ru.op_3, Ru.un_e, Ru.un_1, Ru.isi_e, Ru.ite_e, Ru.ite_t, Ru.ite_f, Ru.ofB_e, Ru.ofB_1, Ru.toB_e, Ru.toB_1, Ru.and_e, Ru.and_t, Ru.and_f, Ru.or_e, Ru.or_t, Ru.or_f, Ru.not_e, Ru.not_1, Ru.px_e, Ru.px_1, Ru.px_2, Ru.oN_e, Ru.oS_e, Ru.oS_1, Ru.sl_e, Ru.sl_1, Ru.sl_2, Ru.sl_3, Ru.sl3_e, Ru.tl_1, Ru.tl_2, Ru.tl_3, Ru.tl_4, Ru.call_e, Ru.call_1, Ru.call_2, Ru.callP_e, Ru.callP_1, Ru.callP_2, Ru.chain_e, Ru.ch_1, Ru.ch_2, Ru.ch_t, Ru.ch_f, Ru.iL_e, Ru.iL_d, Ru.iL_l, Ru.iT_e, Ru.iT_d, Ru.iR1_e, Ru.iR1_1, Ru.lR_e, Ru.lR_1, Ru.tN_e, Ru.tT_2, Ru.yes_e, Ru.lc_e, Ru.lc_1, Ru.lc_2, Ru.seq_e, Ru.seq_nx, Ru.seq_rt, Ru.nop_e, Ru.set_e, Ru.set_d, Ru.set_l, Ru.setL_e, Ru.setL_l, Ru.ret_e, Ru.ret_1, Ru.retV_e, Ru.retV_l, Ru.retV_d, Ru.frz_e, Ru.frz_l, Ru.sIte_e, Ru.sIte_t, Ru.sIte_f, Ru.for_e, Ru.for_1, Ru.for_nil, Ru.for_cons, Ru.fK_1, Ru.fK_nx, Ru.fK_rt, Ru.append_e, Ru.append_1, Ru.append_d, Ru.append_l, Ru.extend_e, Ru.extend_1, Ru.extend_l, Ru.pop_e, Ru.pop_1, Ru.setIx_e, Ru.setIx_d, Ru.setP_e, Ru.setP_d, Ru.setP_1, Ru.par_e, Ru.par_1, Ru.stup_e, Ru.stup_d, Ru.wK_t, Ru.wK_f, Ru.wK_nx, Ru.wK_rt, Ru.runB_f, Ru.runB_t, Ru.rb_f, Ru.rb_t, Ru.rb_n, Ru.lt_i, Ru.le_i, Ru.gt_i, Ru.ge_i, Ru.sub_i, Ru.add_i, Ru.add_s, Ru.add_t, Ru.add_l, Ru.mul_i, Ru.div_i, Ru.mod_i, Ru.neg_i, Ru.is_n, Ru.isNot_n, Ru.non_n, Ru.non_i, Ru.non_b, Ru.non_s, Ru.non_l, Ru.non_t, Ru.len_l, Ru.len_t, Ru.len_s, Ru.list_l, Ru.list_t, Ru.tuple_l, Ru.tuple_t, Ru.int_i, Ru.gsl_l, Ru.gsl_t, Ru.gsl_s, Ru.eq_s, Ru.eq_i, Ru.eq_b, Ru.ne_b, Ru.ne_s, Ru.ne_i, Ru.in_2, Ru.atI_0, Ru.atI_1, Ru.atI_2, Ru.ix_t, Ru.ix_l, Ru.cut_1, E.wipeS, Ru.bind_some, Option.bind_none, Ru.map_some, Option.map_none, List.getElem?_cons_zero, List.getElem?_cons_succ, List.set_cons_zero, List.set_cons_succ, List.length_cons, List.length_nil, List.map_cons, List.map_nil, List.replicate, List.cons_append, List.nil_append, hi, isI, e2, hy2]⟩
      · exact ⟨.d (.int (i + 2)), p2, hp2, bent_d (by simp only [gd, decide_eq_true_eq]; omega) (by simp only [sz]; omega), by simp [r3_law_bent, -Option.bind_some, -Option.map_some, Ru.c_e, Ru.v_e, Ru.v_d, Ru.rv_e, Ru.rv_d, Ru.rv_l, Ru.nil_e, Ru.cons_e, Ru.cons_d, Ru.cons_l, Ru.cons_2, Ru.tup_e, Ru.tup_d, Ru.lst_e, Ru.lst_d, Ru.rd_e, Ru.rd_d, Ru.rd_l, Ru.op_e, Ru.op_1, Ru.op_2, Ru.op_3, Ru.un_e, Ru.un_1, Ru.isi_e, Ru.ite_e, Ru.ite_t, Ru.ite_f, Ru.ofB_e, Ru.ofB_1, Ru.toB_e, Ru.toB_1, Ru.and_e, Ru.and_t, Ru.and_f, Ru.or_e, Ru.or_t, Ru.or_f, Ru.not_e, Ru.not_1, Ru.px_e, Ru.px_1, Ru.px_2, Ru.oN_e, Ru.oS_e, Ru.oS_1, Ru.sl_e, Ru.sl_1, Ru.sl_2, Ru.sl_3, Ru.sl3_e, Ru.tl_1, Ru.tl_2, Ru.tl_3, Ru.tl_4, Ru.call_e, Ru.call_1, Ru.call_2, Ru.callP_e, Ru.callP_1, Ru.callP_2, Ru.chain_e, Ru.ch_1, Ru.ch_2, Ru.ch_t, Ru.ch_f, Ru.iL_e, Ru.iL_d, Ru.iL_l, Ru.iT_e, Ru.iT_d, Ru.iR1_e, Ru.iR1_1, Ru.lR_e, Ru.lR_1, Ru.tN_e, Ru.tT_2, Ru.yes_e, Ru.lc_e, Ru.lc_1, Ru.lc_2, Ru.seq_e, Ru.seq_nx, Ru.seq_rt, Ru.nop_e, Ru.set_e, Ru.set_d, Ru.set_l, Ru.setL_e, Ru.setL_l, Ru.ret_e, Ru.ret_1, Ru.retV_e, Ru.retV_l, Ru.retV_d, Ru.frz_e, Ru.frz_l, Ru.sIte_e, Ru.sIte_t, Ru.sIte_f, Ru.for_e, Ru.for_1, Ru.for_nil, Ru.for_cons, Ru.fK_1, Ru.fK_nx, Ru.fK_rt, Ru.append_e, Ru.append_1, Ru.append_d, Ru.append_l, Ru.extend_e, Ru.extend_1, Ru.extend_l, Ru.pop_e, Ru.pop_1, Ru.setIx_e, Ru.setIx_d, Ru.setP_e, Ru.setP_d, Ru.setP_1, Ru.par_e, Ru.par_1, Ru.stup_e, Ru.stup_d, Ru.wK_t, Ru.wK_f, Ru.wK_nx, Ru.wK_rt, Ru.runB_f, Ru.runB_t, Ru.rb_f, Ru.rb_t, Ru.rb_n, Ru.lt_i, Ru.le_i, Ru.gt_i, Ru.ge_i, Ru.sub_i, Ru.add_i, Ru.add_s, Ru.add_t, Ru.add_l, Ru.mul_i, Ru.div_i, Ru.mod_i, Ru.neg_i, Ru.is_n, Ru.isNot_n, Ru.non_n, Ru.non_i, Ru.non_b, Ru.non_s, Ru.non_l, Ru.non_t, Ru.len_l, Ru.len_t, Ru.len_s, Ru.list_l, Ru.list_t, Ru.tuple_l, Ru.tuple_t, Ru.int_i, Ru.gsl_l, Ru.gsl_t, Ru.gsl_s, Ru.eq_s, Ru.eq_i, Ru.eq_b, Ru.ne_b, Ru.ne_s, Ru.ne_i, Ru.in_2, Ru.atI_0, Ru.atI_1, Ru.atI_2, Ru.ix_t, Ru.ix_l, Ru.cut_1, E.wipeS, Ru.bind_some, Option.bind_none, Ru.map_some, Option.map_none, List.getElem?_cons_zero, List.getElem?_cons_succ, List.set_cons_zero, List.set_cons_succ, List.length_cons, List.length_nil, List.map_cons, List.map_nil, List.replicate, List.cons_append, List.nil_append, hi, isI, e2, hy2]⟩
      · exact ⟨.d (.int (i + 0)), p2, hp2, bent_d (by simp only [gd, decide_eq_true_eq]; omega) (by simp only [sz]; omega), by simp [r3_law_bent, -Option.bind_some, -Option.map_some, Ru.c_e, Ru.v_e, Ru.v_d, Ru.rv_e, Ru.rv_d, Ru.rv_l, Ru.nil_e, Ru.cons_e, Ru.cons_d, Ru.cons_l, Ru.cons_2, Ru.tup_e, Ru.tup_d, Ru.lst_e, Ru.lst_d, Ru.rd_e, Ru.rd_d, Ru.rd_l, Ru.op_e, Ru.op_1, Ru.op_2, Ru.op_3, Ru.un_e, Ru.un_1, Ru.isi_e, Ru.ite_e, Ru.ite_t, Ru.ite_f, Ru.ofB_e, Ru.ofB_1, Ru.toB_e, Ru.toB_1, Ru.and_e, Ru.and_t, Ru.and_f, Ru.or_e, Ru.or_t, Ru.or_f, Ru.not_e, Ru.not_1, Ru.px_e, Ru.px_1, Ru.px_2, Ru.oN_e, Ru.oS_e, Ru.oS_1, Ru.sl_e, Ru.sl_1, Ru.sl_2, Ru.sl_3, Ru.sl3_e, Ru.tl_1, Ru.tl_2, Ru.tl_3, Ru.tl_4, Ru.call_e, Ru.call_1, Ru.call_2, Ru.callP_e, Ru.callP_1, Ru.callP_2, Ru.chain_e, Ru.ch_1, Ru.ch_2, Ru.ch_t, Ru.ch_f, Ru.iL_e, Ru.iL_d, Ru.iL_l, Ru.iT_e, Ru.iT_d, Ru.iR1_e, Ru.iR1_1, Ru.lR_e, Ru.lR_1, Ru.tN_e, Ru.tT_2, Ru.yes_e, Ru.lc_e, Ru.lc_1, Ru.lc_2, Ru.seq_e, Ru.seq_nx, Ru.seq_rt, Ru.nop_e, Ru.set_e, Ru.set_d, Ru.set_l, Ru.setL_e, Ru.setL_l, Ru.ret_e, Ru.ret_1, Ru.retV_e, Ru.retV_l, Ru.retV_d, Ru.frz_e, Ru.frz_l, Ru.sIte_e, Ru.sIte_t, Ru.sIte_f, Ru.for_e, Ru.for_1, Ru.for_nil, Ru.for_cons, Ru.fK_1, Ru.fK_nx, Ru.fK_rt, Ru.append_e, Ru.append_1, Ru.append_d, Ru.append_l, Ru.extend_e, Ru.extend_1, Ru.extend_l, Ru.pop_e, Ru.pop_1, Ru.setIx_e, Ru.setIx_d, Ru.setP_e, Ru.setP_d, Ru.setP_1, Ru.par_e, Ru.par_1, Ru.stup_e, Ru.stup_d, Ru.wK_t, Ru.wK_f, Ru.wK_nx, Ru.wK_rt, Ru.runB_f, Ru.runB_t, Ru.rb_f, Ru.rb_t, Ru.rb_n, Ru.lt_i, Ru.le_i, Ru.gt_i, Ru.ge_i, Ru.sub_i, Ru.add_i, Ru.add_s, Ru.add_t, Ru.add_l, Ru.mul_i, Ru.div_i, Ru.mod_i, Ru.neg_i, Ru.is_n, Ru.isNot_n, Ru.non_n, Ru.non_i, Ru.non_b, Ru.non_s, Ru.non_l, Ru.non_t, Ru.len_l, Ru.len_t, Ru.len_s, Ru.list_l, Ru.list_t, Ru.tuple_l, Ru.tuple_t, Ru.int_i, Ru.gsl_l, Ru.gsl_t, Ru.gsl_s, Ru.eq_s, Ru.eq_i, Ru.eq_b, Ru.ne_b, Ru.ne_s, Ru.ne_i, Ru.in_2, Ru.atI_0, Ru.atI_1, Ru.atI_2, Ru.ix_t, Ru.ix_l, Ru.cut_1, E.wipeS, Ru.bind_some, Option.bind_none, Ru.map_some, Option.map_none, List.getElem?_cons_zero, List.getElem?_cons_succ, List.set_cons_zero, List.set_cons_succ, List.length_cons, List.length_nil, List.map_cons, List.map_nil, List.replicate, List.cons_append, List.nil_append, hi, isI, e2, hy2]⟩
    | str s =>
      obtain ⟨j, p2, hp2, j0, j1, e2⟩ := draw_ok (many := 5) (by decide) (by decide) hp1
      obtain ⟨y, hy, hy2⟩ := atI_mem (xs := [PyData.str (s ++ "a"), .str (cutS s (some 1) none), .str (s ++ "A"), .str (s ++ " "), .str (cutS s none (some 1))]) j0 j1
      have hl : s.length ≤ 16777216 := by simp only [sz] at hs; omega
      have hl1 : s.length + (Str.ofString "a").length ≤ 16777216 := by
        have : (Str.ofString "a").length = 1 := rfl
        simp only [sz] at hs; omega
      have hl2 : s.length + (Str.ofString "A").length ≤ 16777216 := by
        have : (Str.ofString "A").length = 1 := rfl
        simp only [sz] at hs; omega
      have hl3 : s.length + (Str.ofString " ").length ≤ 16777216 := by
        have : (Str.ofString " ").length = 1 := rfl
        simp only [sz] at hs; omega
      refine ⟨.d y, p2, hp2, ?_, ?_⟩
      · simp only [List.mem_cons, List.not_mem_nil, or_false] at hy
        rcases hy with rfl | rfl | rfl | rfl | rfl
        · refine bent_d (app_gd hmono gd_a) ?_
          have : (s ++ ("a" : Str)).length = s.length + 1 := by rw [strLen_append]; rfl
          simp only [sz, this]; omega
        · refine bent_d (cut_gd hmono) ?_
          have := cutS_length s (some 1) none
          simp only [sz]; omega
        · refine bent_d (app_gd hmono gd_A) ?_
          have : (s ++ ("A" : Str)).length = s.length + 1 := by rw [strLen_append]; rfl
          simp only [sz, this]; omega
        · refine bent_d (app_gd hmono gd_b) ?_
          have : (s ++ (" " : Str)).length = s.length + 1 := by rw [strLen_append]; rfl
          simp only [sz, this]; omega
        · refine bent_d (cut_gd hmono) ?_
          have := cutS_length s none (some 1)
          simp only [sz]; omega
      · simp [r3_law_bent, r4_law_bent, -Option.bind_some, -Option.map_some, Ru.c_e, Ru.v_e, Ru.v_d, Ru.rv_e, Ru.rv_d, Ru.rv_l, Ru.nil_e, Ru.cons_e, Ru.cons_d, Ru.cons_l, Ru.cons_2, Ru.tup_e, Ru.tup_d, Ru.lst_e, Ru.lst_d, Ru.rd_e, Ru.rd_d, Ru.rd_l, Ru.op_e, Ru.op_1, Ru.op_2, Ru.op_3, Ru.un_e, Ru.un_1, Ru.isi_e, Ru.ite_e, Ru.ite_t, Ru.ite_f, Ru.ofB_e, Ru.ofB_1, Ru.toB_e, Ru.toB_1, Ru.and_e, Ru.and_t, Ru.and_f, Ru.or_e, Ru.or_t, Ru.or_f, Ru.not_e, Ru.not_1, Ru.px_e, Ru.px_1, Ru.px_2, Ru.oN_e, Ru.oS_e, Ru.oS_1, Ru.sl_e, Ru.sl_1, Ru.sl_2, Ru.sl_3, Ru.sl3_e, Ru.tl_1, Ru.tl_2, Ru.tl_3, Ru.tl_4, Ru.call_e, Ru.call_1, Ru.call_2, Ru.callP_e, Ru.callP_1, Ru.callP_2, Ru.chain_e, Ru.ch_1, Ru.ch_2, Ru.ch_t, Ru.ch_f, Ru.iL_e, Ru.iL_d, Ru.iL_l, Ru.iT_e, Ru.iT_d, Ru.iR1_e, Ru.iR1_1, Ru.lR_e, Ru.lR_1, Ru.tN_e, Ru.tT_2, Ru.yes_e, Ru.lc_e, Ru.lc_1, Ru.lc_2, Ru.seq_e, Ru.seq_nx, Ru.seq_rt, Ru.nop_e, Ru.set_e, Ru.set_d, Ru.set_l, Ru.setL_e, Ru.setL_l, Ru.ret_e, Ru.ret_1, Ru.retV_e, Ru.retV_l, Ru.retV_d, Ru.frz_e, Ru.frz_l, Ru.sIte_e, Ru.sIte_t, Ru.sIte_f, Ru.for_e, Ru.for_1, Ru.for_nil, Ru.for_cons, Ru.fK_1, Ru.fK_nx, Ru.fK_rt, Ru.append_e, Ru.append_1, Ru.append_d, Ru.append_l, Ru.extend_e, Ru.extend_1, Ru.extend_l, Ru.pop_e, Ru.pop_1, Ru.setIx_e, Ru.setIx_d, Ru.setP_e, Ru.setP_d, Ru.setP_1, Ru.par_e, Ru.par_1, Ru.stup_e, Ru.stup_d, Ru.wK_t, Ru.wK_f, Ru.wK_nx, Ru.wK_rt, Ru.runB_f, Ru.runB_t, Ru.rb_f, Ru.rb_t, Ru.rb_n, Ru.lt_i, Ru.le_i, Ru.gt_i, Ru.ge_i, Ru.sub_i, Ru.add_i, Ru.add_s, Ru.add_t, Ru.add_l, Ru.mul_i, Ru.div_i, Ru.mod_i, Ru.neg_i, Ru.is_n, Ru.isNot_n, Ru.non_n, Ru.non_i, Ru.non_b, Ru.non_s, Ru.non_l, Ru.non_t, Ru.len_l, Ru.len_t, Ru.len_s, Ru.list_l, Ru.list_t, Ru.tuple_l, Ru.tuple_t, Ru.int_i, Ru.gsl_l, Ru.gsl_t, Ru.gsl_s, Ru.eq_s, Ru.eq_i, Ru.eq_b, Ru.ne_b, Ru.ne_s, Ru.ne_i, Ru.in_2, Ru.atI_0, Ru.atI_1, Ru.atI_2, Ru.ix_t, Ru.ix_l, Ru.cut_1, E.wipeS, Ru.bind_some, Option.bind_none, Ru.map_some, Option.map_none, List.getElem?_cons_zero, List.getElem?_cons_succ, List.set_cons_zero, List.set_cons_succ, List.length_cons, List.length_nil, List.map_cons, List.map_nil, List.replicate, List.cons_append, List.nil_append, hi, isI, hS, isS, hl, hl1, hl2, hl3, e2, hy2]
    | tuple xs =>
      have hS' : gIsT "str" (.tuple xs) = some (.d (.bool false)) := hS
      have hT' : gIsT "tuple" (.tuple xs) = some (.d (.bool true)) := hT
      have hi' : m_law_is_integer [.tuple xs] none = some (.d (.bool false), none) := hi
      have hxs := gd_tuple.mp hmono
      simp only [sz] at hs
      have hlen := szAll_len xs
      by_cases cl : xs.length = 0
      · have h0 : ((xs.length : Int) == 0) = true := by simp [cl]
        by_cases c5 : v < 5
        · exact ⟨_, _, hp1, bent_d (d := .tuple [.tuple xs, .int 0]) (by simp only [gd, gdAll, Bool.and_true, Bool.and_eq_true, decide_eq_true_eq] at hmono ⊢; exact ⟨hmono, by omega⟩) (by simp only [sz, szAll]; omega) (by simp only [PyData.depth, PyData.depthAll]; omega), by simp [r3_law_bent, r4_law_bent, r5_law_bent, -Option.bind_some, -Option.map_some, Ru.c_e, Ru.v_e, Ru.v_d, Ru.rv_e, Ru.rv_d, Ru.rv_l, Ru.nil_e, Ru.cons_e, Ru.cons_d, Ru.cons_l, Ru.cons_2, Ru.tup_e, Ru.tup_d, Ru.lst_e, Ru.lst_d, Ru.rd_e, Ru.rd_d, Ru.rd_l, Ru.op_e, Ru.op_1, Ru.op_2, Ru.op_3, Ru.un_e, Ru.un_1, Ru.isi_e, Ru.ite_e, Ru.ite_t, Ru.ite_f, Ru.ofB_e, Ru.ofB_1, Ru.toB_e, Ru.toB_1, Ru.and_e, Ru.and_t, Ru.and_f, Ru.or_e, Ru.or_t, Ru.or_f, Ru.not_e, Ru.not_1, Ru.px_e, Ru.px_1, Ru.px_2, Ru.oN_e, Ru.oS_e, Ru.oS_1, Ru.sl_e, Ru.sl_1, Ru.sl_2, Ru.sl_3, Ru.sl3_e, Ru.tl_1, Ru.tl_2, Ru.tl_3, Ru.tl_4, Ru.call_e, Ru.call_1, Ru.call_2, Ru.callP_e, Ru.callP_1, Ru.callP_2, Ru.chain_e, Ru.ch_1, Ru.ch_2, Ru.ch_t, Ru.ch_f, Ru.iL_e, Ru.iL_d, Ru.iL_l, Ru.iT_e, Ru.iT_d, Ru.iR1_e, Ru.iR1_1, Ru.lR_e, Ru.lR_1, Ru.tN_e, Ru.tT_2, Ru.yes_e, Ru.lc_e, Ru.lc_1, Ru.lc_2, Ru.seq_e, Ru.seq_nx, Ru.seq_rt, Ru.nop_e, Ru.set_e, Ru.set_d, Ru.set_l, Ru.setL_e, Ru.setL_l, Ru.ret_e, Ru.ret_1, Ru.retV_e, Ru.retV_l, Ru.retV_d, Ru.frz_e, Ru.frz_l, Ru.sIte_e, Ru.sIte_t, Ru.sIte_f, Ru.for_e, Ru.for_1, Ru.for_nil, Ru.for_cons, Ru.fK_1, Ru.fK_nx, Ru.fK_rt, Ru.append_e, Ru.append_1, Ru.append_d, Ru.append_l, Ru.extend_e, Ru.extend_1, Ru.extend_l, Ru.pop_e, Ru.pop_1, Ru.setIx_e, Ru.setIx_d, Ru.setP_e, Ru.setP_d, Ru.setP_1, Ru.par_e, Ru.par_1, Ru.stup_e, Ru.stup_d, Ru.wK_t, Ru.wK_f, Ru.wK_nx, Ru.wK_rt, Ru.runB_f, Ru.runB_t, Ru.rb_f, Ru.rb_t, Ru.rb_n, Ru.lt_i, Ru.le_i, Ru.gt_i, Ru.ge_i, Ru.sub_i, Ru.add_i, Ru.add_s, Ru.add_t, Ru.add_l, Ru.mul_i, Ru.div_i, Ru.mod_i, Ru.neg_i, Ru.is_n, Ru.isNot_n, Ru.non_n, Ru.non_i, Ru.non_b, Ru.non_s, Ru.non_l, Ru.non_t, Ru.len_l, Ru.len_t, Ru.len_s, Ru.list_l, Ru.list_t, Ru.tuple_l, Ru.tuple_t, Ru.int_i, Ru.gsl_l, Ru.gsl_t, Ru.gsl_s, Ru.eq_s, Ru.eq_i, Ru.eq_b, Ru.ne_b, Ru.ne_s, Ru.ne_i, Ru.in_2, Ru.atI_0, Ru.atI_1, Ru.atI_2, Ru.ix_t, Ru.ix_l, Ru.cut_1, E.wipeS, Ru.bind_some, Option.bind_none, Ru.map_some, Option.map_none, List.getElem?_cons_zero, List.getElem?_cons_succ, List.set_cons_zero, List.set_cons_succ, List.length_cons, List.length_nil, List.map_cons, List.map_nil, List.replicate, List.cons_append, List.nil_append, hi', hS', hT', h0, c5]⟩
        · exact ⟨_, _, hp1, bent_d (d := .tuple []) (by simp [gd, gdAll]) (by simp [sz, szAll]), by simp [r3_law_bent, r4_law_bent, r5_law_bent, -Option.bind_some, -Option.map_some, Ru.c_e, Ru.v_e, Ru.v_d, Ru.rv_e, Ru.rv_d, Ru.rv_l, Ru.nil_e, Ru.cons_e, Ru.cons_d, Ru.cons_l, Ru.cons_2, Ru.tup_e, Ru.tup_d, Ru.lst_e, Ru.lst_d, Ru.rd_e, Ru.rd_d, Ru.rd_l, Ru.op_e, Ru.op_1, Ru.op_2, Ru.op_3, Ru.un_e, Ru.un_1, Ru.isi_e, Ru.ite_e, Ru.ite_t, Ru.ite_f, Ru.ofB_e, Ru.ofB_1, Ru.toB_e, Ru.toB_1, Ru.and_e, Ru.and_t, Ru.and_f, Ru.or_e, Ru.or_t, Ru.or_f, Ru.not_e, Ru.not_1, Ru.px_e, Ru.px_1, Ru.px_2, Ru.oN_e, Ru.oS_e, Ru.oS_1, Ru.sl_e, Ru.sl_1, Ru.sl_2, Ru.sl_3, Ru.sl3_e, Ru.tl_1, Ru.tl_2, Ru.tl_3, Ru.tl_4, Ru.call_e, Ru.call_1, Ru.call_2, Ru.callP_e, Ru.callP_1, Ru.callP_2, Ru.chain_e, Ru.ch_1, Ru.ch_2, Ru.ch_t, Ru.ch_f, Ru.iL_e, Ru.iL_d, Ru.iL_l, Ru.iT_e, Ru.iT_d, Ru.iR1_e, Ru.iR1_1, Ru.lR_e, Ru.lR_1, Ru.tN_e, Ru.tT_2, Ru.yes_e, Ru.lc_e, Ru.lc_1, Ru.lc_2, Ru.seq_e, Ru.seq_nx, Ru.seq_rt, Ru.nop_e, Ru.set_e, Ru.set_d, Ru.set_l, Ru.setL_e, Ru.setL_l, Ru.ret_e, Ru.ret_1, Ru.retV_e, Ru.retV_l, Ru.retV_d, Ru.frz_e, Ru.frz_l, Ru.sIte_e, Ru.sIte_t, Ru.sIte_f, Ru.for_e, Ru.for_1, Ru.for_nil, Ru.for_cons, Ru.fK_1, Ru.fK_nx, Ru.fK_rt, Ru.append_e, Ru.append_1, Ru.append_d, Ru.append_l, Ru.extend_e, Ru.extend_1, Ru.extend_l, Ru.pop_e, Ru.pop_1, Ru.setIx_e, Ru.setIx_d, Ru.setP_e, Ru.setP_d, Ru.setP_1, Ru.par_e, Ru.par_1, Ru.stup_e, Ru.stup_d, Ru.wK_t, Ru.wK_f, Ru.wK_nx, Ru.wK_rt, Ru.runB_f, Ru.runB_t, Ru.rb_f, Ru.rb_t, Ru.rb_n, Ru.lt_i, Ru.le_i, Ru.gt_i, Ru.ge_i, Ru.sub_i, Ru.add_i, Ru.add_s, Ru.add_t, Ru.add_l, Ru.mul_i, Ru.div_i, Ru.mod_i, Ru.neg_i, Ru.is_n, Ru.isNot_n, Ru.non_n, Ru.non_i, Ru.non_b, Ru.non_s, Ru.non_l, Ru.non_t, Ru.len_l, Ru.len_t, Ru.len_s, Ru.list_l, Ru.list_t, Ru.tuple_l, Ru.tuple_t, Ru.int_i, Ru.gsl_l, Ru.gsl_t, Ru.gsl_s, Ru.eq_s, Ru.eq_i, Ru.eq_b, Ru.ne_b, Ru.ne_s, Ru.ne_i, Ru.in_2, Ru.atI_0, Ru.atI_1, Ru.atI_2, Ru.ix_t, Ru.ix_l, Ru.cut_1, E.wipeS, Ru.bind_some, Option.bind_none, Ru.map_some, Option.map_none, List.getElem?_cons_zero, List.getElem?_cons_succ, List.set_cons_zero, List.set_cons_succ, List.length_cons, List.length_nil, List.map_cons, List.map_nil, List.replicate, List.cons_append, List.nil_append, hi', hS', hT', h0, c5]⟩
      · have h0 : ((xs.length : Int) == 0) = false := beq_false_of_ne (by omega)
        obtain ⟨a, p2, hp2, a0, a1, e2⟩ := draw_ok (many := (xs.length : Int)) (by omega) (by omega) hp1
        obtain ⟨q2, rfl⟩ := hp2.some
        have step2 : r3_law_bent m_law_draw m_law_is_integer m ⟨[.pool, .d (.tuple xs), .un, .d (.int v), .un, .un], some q1⟩ =
            r7_law_bent m_law_draw m_law_is_integer m ⟨[.pool, .d (.tuple xs), .d (.int a), .d (.int v), .un, .un], some q2⟩ := by
          simp [r3_law_bent, r4_law_bent, r5_law_bent, r6_law_bent, -Option.bind_some, -Option.map_some, Ru.c_e, Ru.v_e, Ru.v_d, Ru.rv_e, Ru.rv_d, Ru.rv_l, Ru.nil_e, Ru.cons_e, Ru.cons_d, Ru.cons_l, Ru.cons_2, Ru.tup_e, Ru.tup_d, Ru.lst_e, Ru.lst_d, Ru.rd_e, Ru.rd_d, Ru.rd_l, Ru.op_e, Ru.op_1, Ru.op_2, Ru.op_3, Ru.un_e, Ru.un_1, Ru.isi_e, Ru.ite_e, Ru.ite_t, Ru.ite_f, Ru.ofB_e, Ru.ofB_1, Ru.toB_e, Ru.toB_1, Ru.and_e, Ru.and_t, Ru.and_f, Ru.or_e, Ru.or_t, Ru.or_f, Ru.not_e, Ru.not_1, Ru.px_e, Ru.px_1, Ru.px_2, Ru.oN_e, Ru.oS_e, Ru.oS_1, Ru.sl_e, Ru.sl_1, Ru.sl_2, Ru.sl_3, Ru.sl3_e, Ru.tl_1, Ru.tl_2, Ru.tl_3, Ru.tl_4, Ru.call_e, Ru.call_1, Ru.call_2, Ru.callP_e, Ru.callP_1, Ru.callP_2, Ru.chain_e, Ru.ch_1, Ru.ch_2, Ru.ch_t, Ru.ch_f, Ru.iL_e, Ru.iL_d, Ru.iL_l, Ru.iT_e, Ru.iT_d, Ru.iR1_e, Ru.iR1_1, Ru.lR_e, Ru.lR_1, Ru.tN_e, Ru.tT_2, Ru.yes_e, Ru.lc_e, Ru.lc_1, Ru.lc_2, Ru.seq_e, Ru.seq_nx, Ru.seq_rt, Ru.nop_e, Ru.set_e, Ru.set_d, Ru.set_l, Ru.setL_e, Ru.setL_l, Ru.ret_e, Ru.ret_1, Ru.retV_e, Ru.retV_l, Ru.retV_d, Ru.frz_e, Ru.frz_l, Ru.sIte_e, Ru.sIte_t, Ru.sIte_f, Ru.for_e, Ru.for_1, Ru.for_nil, Ru.for_cons, Ru.fK_1, Ru.fK_nx, Ru.fK_rt, Ru.append_e, Ru.append_1, Ru.append_d, Ru.append_l, Ru.extend_e, Ru.extend_1, Ru.extend_l, Ru.pop_e, Ru.pop_1, Ru.setIx_e, Ru.setIx_d, Ru.setP_e, Ru.setP_d, Ru.setP_1, Ru.par_e, Ru.par_1, Ru.stup_e, Ru.stup_d, Ru.wK_t, Ru.wK_f, Ru.wK_nx, Ru.wK_rt, Ru.runB_f, Ru.runB_t, Ru.rb_f, Ru.rb_t, Ru.rb_n, Ru.lt_i, Ru.le_i, Ru.gt_i, Ru.ge_i, Ru.sub_i, Ru.add_i, Ru.add_s, Ru.add_t, Ru.add_l, Ru.mul_i, Ru.div_i, Ru.mod_i, Ru.neg_i, Ru.is_n, Ru.isNot_n, Ru.non_n, Ru.non_i, Ru.non_b, Ru.non_s, Ru.non_l, Ru.non_t, Ru.len_l, Ru.len_t, Ru.len_s, Ru.list_l, Ru.list_t, Ru.tuple_l, Ru.tuple_t, Ru.int_i, Ru.gsl_l, Ru.gsl_t, Ru.gsl_s, Ru.eq_s, Ru.eq_i, Ru.eq_b, Ru.ne_b, Ru.ne_s, Ru.ne_i, Ru.in_2, Ru.atI_0, Ru.atI_1, Ru.atI_2, Ru.ix_t, Ru.ix_l, Ru.cut_1, E.wipeS, Ru.bind_some, Option.bind_none, Ru.map_some, Option.map_none, List.getElem?_cons_zero, List.getElem?_cons_succ, List.set_cons_zero, List.set_cons_succ, List.length_cons, List.length_nil, List.map_cons, List.map_nil, List.replicate, List.cons_append, List.nil_append, hi', hS', hT', h0, e2]
        rw [step2]
        have halt : a.toNat < xs.length := by omega
        have ha := atI_get a0 a1
        have t1 := cut_to xs a0 (by omega)
        have t2 := cut_from xs (v := a + 1) (by omega) (by omega)
        have t3 := cut_from xs a0 (by omega)
        have hsp := szAll_split xs a.toNat halt
        have ea : (a + 1).toNat = a.toNat + 1 := by omega
        rw [ea] at t2
        have l1 : (xs.take a.toNat).length + (xs.drop (a.toNat + 1)).length ≤ 16777216 := by rw [List.length_take, List.length_drop]; omega
        have l2 : (xs.take a.toNat).length + [xs[a.toNat]].length ≤ 16777216 := by rw [List.length_take, List.length_singleton]; omega
        have l3 : (xs.take a.toNat ++ [xs[a.toNat]]).length + (xs.drop a.toNat).length ≤ 16777216 := by rw [List.length_append, List.length_take, List.length_drop, List.length_singleton]; omega
        have hd1 : szAll (xs.drop a.toNat) = sz xs[a.toNat] + szAll (xs.drop (a.toNat + 1)) := by
          rw [List.drop_eq_getElem_cons halt]; simp only [szAll]
        by_cases c3 : v < 3
        · refine ⟨.d (.tuple (xs.take a.toNat ++ xs.drop (a.toNat + 1))), _, hp2, bent_d ?_ ?_ (Nat.le_succ_of_le (depth_tuple fun y hy => (List.mem_append.mp hy).elim (fun z => depth_mem (List.mem_of_mem_take z)) fun z => depth_mem (List.mem_of_mem_drop z))), ?_⟩
          · refine gd_tuple.mpr fun y hy => ?_
            rcases List.mem_append.mp hy with z | z
            · exact hxs y (List.mem_of_mem_take z)
            · exact hxs y (List.mem_of_mem_drop z)
          · simp only [sz, szAll_append]; omega
          · simp [r7_law_bent, -Option.bind_some, -Option.map_some, Ru.c_e, Ru.v_e, Ru.v_d, Ru.rv_e, Ru.rv_d, Ru.rv_l, Ru.nil_e, Ru.cons_e, Ru.cons_d, Ru.cons_l, Ru.cons_2, Ru.tup_e, Ru.tup_d, Ru.lst_e, Ru.lst_d, Ru.rd_e, Ru.rd_d, Ru.rd_l, Ru.op_e, Ru.op_1, Ru.op_2, Ru.op_3, Ru.un_e, Ru.un_1, Ru.isi_e, Ru.ite_e, Ru.ite_t, Ru.ite_f, Ru.ofB_e, Ru.ofB_1, Ru.toB_e, Ru.toB_1, Ru.and_e, Ru.and_t, Ru.and_f, Ru.or_e, Ru.or_t, Ru.or_f, Ru.not_e, Ru.not_1, Ru.px_e, Ru.px_1, Ru.px_2, Ru.oN_e, Ru.oS_e, Ru.oS_1, Ru.sl_e, Ru.sl_1, Ru.sl_2, Ru.sl_3, Ru.sl3_e, Ru.tl_1, Ru.tl_2, Ru.tl_3, Ru.tl_4, Ru.call_e, Ru.call_1, Ru.call_2, Ru.callP_e, Ru.callP_1, Ru.callP_2, Ru.chain_e, Ru.ch_1, Ru.ch_2, Ru.ch_t, Ru.ch_f, Ru.iL_e, Ru.iL_d, Ru.iL_l, Ru.iT_e, Ru.iT_d, Ru.iR1_e, Ru.iR1_1, Ru.lR_e, Ru.lR_1, Ru.tN_e, Ru.tT_2, Ru.yes_e, Ru.lc_e, Ru.lc_1, Ru.lc_2, Ru.seq_e, Ru.seq_nx, Ru.seq_rt, Ru.nop_e, Ru.set_e, Ru.set_d, Ru.set_l, Ru.setL_e, Ru.setL_l, Ru.ret_e, Ru.ret_1, Ru.retV_e, Ru.retV_l, Ru.retV_d, Ru.frz_e, Ru.frz_l, Ru.sIte_e, Ru.sIte_t, Ru.sIte_f, Ru.for_e, Ru.for_1, Ru.for_nil, Ru.for_cons, Ru.fK_1, Ru.fK_nx, Ru.fK_rt, Ru.append_e, Ru.append_1, Ru.append_d, Ru.append_l, Ru.extend_e, Ru.extend_1, Ru.extend_l, Ru.pop_e, Ru.pop_1, Ru.setIx_e, Ru.setIx_d, Ru.setP_e, Ru.setP_d, Ru.setP_1, Ru.par_e, Ru.par_1, Ru.stup_e, Ru.stup_d, Ru.wK_t, Ru.wK_f, Ru.wK_nx, Ru.wK_rt, Ru.runB_f, Ru.runB_t, Ru.rb_f, Ru.rb_t, Ru.rb_n, Ru.lt_i, Ru.le_i, Ru.gt_i, Ru.ge_i, Ru.sub_i, Ru.add_i, Ru.add_s, Ru.add_t, Ru.add_l, Ru.mul_i, Ru.div_i, Ru.mod_i, Ru.neg_i, Ru.is_n, Ru.isNot_n, Ru.non_n, Ru.non_i, Ru.non_b, Ru.non_s, Ru.non_l, Ru.non_t, Ru.len_l, Ru.len_t, Ru.len_s, Ru.list_l, Ru.list_t, Ru.tuple_l, Ru.tuple_t, Ru.int_i, Ru.gsl_l, Ru.gsl_t, Ru.gsl_s, Ru.eq_s, Ru.eq_i, Ru.eq_b, Ru.ne_b, Ru.ne_s, Ru.ne_i, Ru.in_2, Ru.atI_0, Ru.atI_1, Ru.atI_2, Ru.ix_t, Ru.ix_l, Ru.cut_1, E.wipeS, Ru.bind_some, Option.bind_none, Ru.map_some, Option.map_none, List.getElem?_cons_zero, List.getElem?_cons_succ, List.set_cons_zero, List.set_cons_succ, List.length_cons, List.length_nil, List.map_cons, List.map_nil, List.replicate, List.cons_append, List.nil_append, c3, t1, t2]
            rw [Ru.add_t l1]
            simp [-Option.bind_some, -Option.map_some, Ru.c_e, Ru.v_e, Ru.v_d, Ru.rv_e, Ru.rv_d, Ru.rv_l, Ru.nil_e, Ru.cons_e, Ru.cons_d, Ru.cons_l, Ru.cons_2, Ru.tup_e, Ru.tup_d, Ru.lst_e, Ru.lst_d, Ru.rd_e, Ru.rd_d, Ru.rd_l, Ru.op_e, Ru.op_1, Ru.op_2, Ru.op_3, Ru.un_e, Ru.un_1, Ru.isi_e, Ru.ite_e, Ru.ite_t, Ru.ite_f, Ru.ofB_e, Ru.ofB_1, Ru.toB_e, Ru.toB_1, Ru.and_e, Ru.and_t, Ru.and_f, Ru.or_e, Ru.or_t, Ru.or_f, Ru.not_e, Ru.not_1, Ru.px_e, Ru.px_1, Ru.px_2, Ru.oN_e, Ru.oS_e, Ru.oS_1, Ru.sl_e, Ru.sl_1, Ru.sl_2, Ru.sl_3, Ru.sl3_e, Ru.tl_1, Ru.tl_2, Ru.tl_3, Ru.tl_4, Ru.call_e, Ru.call_1, Ru.call_2, Ru.callP_e, Ru.callP_1, Ru.callP_2, Ru.chain_e, Ru.ch_1, Ru.ch_2, Ru.ch_t, Ru.ch_f, Ru.iL_e, Ru.iL_d, Ru.iL_l, Ru.iT_e, Ru.iT_d, Ru.iR1_e, Ru.iR1_1, Ru.lR_e, Ru.lR_1, Ru.tN_e, Ru.tT_2, Ru.yes_e, Ru.lc_e, Ru.lc_1, Ru.lc_2, Ru.seq_e, Ru.seq_nx, Ru.seq_rt, Ru.nop_e, Ru.set_e, Ru.set_d, Ru.set_l, Ru.setL_e, Ru.setL_l, Ru.ret_e, Ru.ret_1, Ru.retV_e, Ru.retV_l, Ru.retV_d, Ru.frz_e, Ru.frz_l, Ru.sIte_e, Ru.sIte_t, Ru.sIte_f, Ru.for_e, Ru.for_1, Ru.for_nil, Ru.for_cons, Ru.fK_1, Ru.fK_nx, Ru.fK_rt, Ru.append_e, Ru.append_1, Ru.append_d, Ru.append_l, Ru.extend_e, Ru.extend_1, Ru.extend_l, Ru.pop_e, Ru.pop_1, Ru.setIx_e, Ru.setIx_d, Ru.setP_e, Ru.setP_d, Ru.setP_1, Ru.par_e, Ru.par_1, Ru.stup_e, Ru.stup_d, Ru.wK_t, Ru.wK_f, Ru.wK_nx, Ru.wK_rt, Ru.runB_f, Ru.runB_t, Ru.rb_f, Ru.rb_t, Ru.rb_n, Ru.lt_i, Ru.le_i, Ru.gt_i, Ru.ge_i, Ru.sub_i, Ru.add_i, Ru.add_s, Ru.add_t, Ru.add_l, Ru.mul_i, Ru.div_i, Ru.mod_i, Ru.neg_i, Ru.is_n, Ru.isNot_n, Ru.non_n, Ru.non_i, Ru.non_b, Ru.non_s, Ru.non_l, Ru.non_t, Ru.len_l, Ru.len_t, Ru.len_s, Ru.list_l, Ru.list_t, Ru.tuple_l, Ru.tuple_t, Ru.int_i, Ru.gsl_l, Ru.gsl_t, Ru.gsl_s, Ru.eq_s, Ru.eq_i, Ru.eq_b, Ru.ne_b, Ru.ne_s, Ru.ne_i, Ru.in_2, Ru.atI_0, Ru.atI_1, Ru.atI_2, Ru.ix_t, Ru.ix_l, Ru.cut_1, E.wipeS, Ru.bind_some, Option.bind_none, Ru.map_some, Option.map_none, List.getElem?_cons_zero, List.getElem?_cons_succ, List.set_cons_zero, List.set_cons_succ, List.length_cons, List.length_nil, List.map_cons, List.map_nil, List.replicate, List.cons_append, List.nil_append]
        · by_cases c5 : v < 5
          · refine ⟨.d (.tuple ((xs.take a.toNat ++ [xs[a.toNat]]) ++ xs.drop a.toNat)), _, hp2, bent_d ?_ ?_ (Nat.le_succ_of_le (depth_tuple fun y hy => (List.mem_append.mp hy).elim (fun z => (List.mem_append.mp z).elim (fun z => depth_mem (List.mem_of_mem_take z)) fun z => by rw [List.mem_singleton.mp z]; exact depth_mem (List.getElem_mem _)) fun z => depth_mem (List.mem_of_mem_drop z))), ?_⟩
            · refine gd_tuple.mpr fun y hy => ?_
              rcases List.mem_append.mp hy with z | z
              · rcases List.mem_append.mp z with z | z
                · exact hxs y (List.mem_of_mem_take z)
                · rw [List.mem_singleton.mp z]; exact hxs _ (List.getElem_mem _)
              · exact hxs y (List.mem_of_mem_drop z)
            · simp only [sz, szAll_append, szAll, hd1]; omega
            · simp [r7_law_bent, r8_law_bent, -Option.bind_some, -Option.map_some, Ru.c_e, Ru.v_e, Ru.v_d, Ru.rv_e, Ru.rv_d, Ru.rv_l, Ru.nil_e, Ru.cons_e, Ru.cons_d, Ru.cons_l, Ru.cons_2, Ru.tup_e, Ru.tup_d, Ru.lst_e, Ru.lst_d, Ru.rd_e, Ru.rd_d, Ru.rd_l, Ru.op_e, Ru.op_1, Ru.op_2, Ru.op_3, Ru.un_e, Ru.un_1, Ru.isi_e, Ru.ite_e, Ru.ite_t, Ru.ite_f, Ru.ofB_e, Ru.ofB_1, Ru.toB_e, Ru.toB_1, Ru.and_e, Ru.and_t, Ru.and_f, Ru.or_e, Ru.or_t, Ru.or_f, Ru.not_e, Ru.not_1, Ru.px_e, Ru.px_1, Ru.px_2, Ru.oN_e, Ru.oS_e, Ru.oS_1, Ru.sl_e, Ru.sl_1, Ru.sl_2, Ru.sl_3, Ru.sl3_e, Ru.tl_1, Ru.tl_2, Ru.tl_3, Ru.tl_4, Ru.call_e, Ru.call_1, Ru.call_2, Ru.callP_e, Ru.callP_1, Ru.callP_2, Ru.chain_e, Ru.ch_1, Ru.ch_2, Ru.ch_t, Ru.ch_f, Ru.iL_e, Ru.iL_d, Ru.iL_l, Ru.iT_e, Ru.iT_d, Ru.iR1_e, Ru.iR1_1, Ru.lR_e, Ru.lR_1, Ru.tN_e, Ru.tT_2, Ru.yes_e, Ru.lc_e, Ru.lc_1, Ru.lc_2, Ru.seq_e, Ru.seq_nx, Ru.seq_rt, Ru.nop_e, Ru.set_e, Ru.set_d, Ru.set_l, Ru.setL_e, Ru.setL_l, Ru.ret_e, Ru.ret_1, Ru.retV_e, Ru.retV_l, Ru.retV_d, Ru.frz_e, Ru.frz_l, Ru.sIte_e, Ru.sIte_t, Ru.sIte_f, Ru.for_e, Ru.for_1, Ru.for_nil, Ru.for_cons, Ru.fK_1, Ru.fK_nx, Ru.fK_rt, Ru.append_e, Ru.append_1, Ru.append_d, Ru.append_l, Ru.extend_e, Ru.extend_1, Ru.extend_l, Ru.pop_e, Ru.pop_1, Ru.setIx_e, Ru.setIx_d, Ru.setP_e, Ru.setP_d, Ru.setP_1, Ru.par_e, Ru.par_1, Ru.stup_e, Ru.stup_d, Ru.wK_t, Ru.wK_f, Ru.wK_nx, Ru.wK_rt, Ru.runB_f, Ru.runB_t, Ru.rb_f, Ru.rb_t, Ru.rb_n, Ru.lt_i, Ru.le_i, Ru.gt_i, Ru.ge_i, Ru.sub_i, Ru.add_i, Ru.add_s, Ru.add_t, Ru.add_l, Ru.mul_i, Ru.div_i, Ru.mod_i, Ru.neg_i, Ru.is_n, Ru.isNot_n, Ru.non_n, Ru.non_i, Ru.non_b, Ru.non_s, Ru.non_l, Ru.non_t, Ru.len_l, Ru.len_t, Ru.len_s, Ru.list_l, Ru.list_t, Ru.tuple_l, Ru.tuple_t, Ru.int_i, Ru.gsl_l, Ru.gsl_t, Ru.gsl_s, Ru.eq_s, Ru.eq_i, Ru.eq_b, Ru.ne_b, Ru.ne_s, Ru.ne_i, Ru.in_2, Ru.atI_0, Ru.atI_1, Ru.atI_2, Ru.ix_t, Ru.ix_l, Ru.cut_1, E.wipeS, Ru.bind_some, Option.bind_none, Ru.map_some, Option.map_none, List.getElem?_cons_zero, List.getElem?_cons_succ, List.set_cons_zero, List.set_cons_succ, List.length_cons, List.length_nil, List.map_cons, List.map_nil, List.replicate, List.cons_append, List.nil_append, c3, c5, t1, t3, ha]
              rw [Ru.add_t l2]
              simp only [Ru.bind_some, Ru.op_3, Ru.rd_d, Ru.op_1, Ru.sl_e, Ru.rv_e, Ru.rd_e, List.getElem?_cons_zero, List.getElem?_cons_succ, Ru.rv_d, Ru.sl_1, Ru.oS_e, Ru.v_e, Ru.v_d, Ru.oS_1, Ru.sl_2, Ru.oN_e, Ru.sl_3, Ru.gsl_t, t3, Ru.op_2]
              rw [Ru.add_t l3]
              simp [-Option.bind_some, -Option.map_some, Ru.c_e, Ru.v_e, Ru.v_d, Ru.rv_e, Ru.rv_d, Ru.rv_l, Ru.nil_e, Ru.cons_e, Ru.cons_d, Ru.cons_l, Ru.cons_2, Ru.tup_e, Ru.tup_d, Ru.lst_e, Ru.lst_d, Ru.rd_e, Ru.rd_d, Ru.rd_l, Ru.op_e, Ru.op_1, Ru.op_2, Ru.op_3, Ru.un_e, Ru.un_1, Ru.isi_e, Ru.ite_e, Ru.ite_t, Ru.ite_f, Ru.ofB_e, Ru.ofB_1, Ru.toB_e, Ru.toB_1, Ru.and_e, Ru.and_t, Ru.and_f, Ru.or_e, Ru.or_t, Ru.or_f, Ru.not_e, Ru.not_1, Ru.px_e, Ru.px_1, Ru.px_2, Ru.oN_e, Ru.oS_e, Ru.oS_1, Ru.sl_e, Ru.sl_1, Ru.sl_2, Ru.sl_3, Ru.sl3_e, Ru.tl_1, Ru.tl_2, Ru.tl_3, Ru.tl_4, Ru.call_e, Ru.call_1, Ru.call_2, Ru.callP_e, Ru.callP_1, Ru.callP_2, Ru.chain_e, Ru.ch_1, Ru.ch_2, Ru.ch_t, Ru.ch_f, Ru.iL_e, Ru.iL_d, Ru.iL_l, Ru.iT_e, Ru.iT_d, Ru.iR1_e, Ru.iR1_1, Ru.lR_e, Ru.lR_1, Ru.tN_e, Ru.tT_2, Ru.yes_e, Ru.lc_e, Ru.lc_1, Ru.lc_2, Ru.seq_e, Ru.seq_nx, Ru.seq_rt, Ru.nop_e, Ru.set_e, Ru.set_d, Ru.set_l, Ru.setL_e, Ru.setL_l, Ru.ret_e, Ru.ret_1, Ru.retV_e, Ru.retV_l, Ru.retV_d, Ru.frz_e, Ru.frz_l, Ru.sIte_e, Ru.sIte_t, Ru.sIte_f, Ru.for_e, Ru.for_1, Ru.for_nil, Ru.for_cons, Ru.fK_1, Ru.fK_nx, Ru.fK_rt, Ru.append_e, Ru.append_1, Ru.append_d, Ru.append_l, Ru.extend_e, Ru.extend_1, Ru.extend_l, Ru.pop_e, Ru.pop_1, Ru.setIx_e, Ru.setIx_d, Ru.setP_e, Ru.setP_d, Ru.setP_1, Ru.par_e, Ru.par_1, Ru.stup_e, Ru.stup_d, Ru.wK_t, Ru.wK_f, Ru.wK_nx, Ru.wK_rt, Ru.runB_f, Ru.runB_t, Ru.rb_f, Ru.rb_t, Ru.rb_n, Ru.lt_i, Ru.le_i, Ru.gt_i, Ru.ge_i, Ru.sub_i, Ru.add_i, Ru.add_s, Ru.add_t, Ru.add_l, Ru.mul_i, Ru.div_i, Ru.mod_i, Ru.neg_i, Ru.is_n, Ru.isNot_n, Ru.non_n, Ru.non_i, Ru.non_b, Ru.non_s, Ru.non_l, Ru.non_t, Ru.len_l, Ru.len_t, Ru.len_s, Ru.list_l, Ru.list_t, Ru.tuple_l, Ru.tuple_t, Ru.int_i, Ru.gsl_l, Ru.gsl_t, Ru.gsl_s, Ru.eq_s, Ru.eq_i, Ru.eq_b, Ru.ne_b, Ru.ne_s, Ru.ne_i, Ru.in_2, Ru.atI_0, Ru.atI_1, Ru.atI_2, Ru.ix_t, Ru.ix_l, Ru.cut_1, E.wipeS, Ru.bind_some, Option.bind_none, Ru.map_some, Option.map_none, List.getElem?_cons_zero, List.getElem?_cons_succ, List.set_cons_zero, List.set_cons_succ, List.length_cons, List.length_nil, List.map_cons, List.map_nil, List.replicate, List.cons_append, List.nil_append]
          · by_cases c6 : v = 5
            · subst c6
              refine ⟨.l xs, _, hp2, ⟨.list xs, rfl, gd_list.mpr hxs, by simp only [sz]; omega, Nat.le_succ_of_le (Nat.le_refl _)⟩, ?_⟩
              simp [r7_law_bent, r8_law_bent, r9_law_bent, -Option.bind_some, -Option.map_some, Ru.c_e, Ru.v_e, Ru.v_d, Ru.rv_e, Ru.rv_d, Ru.rv_l, Ru.nil_e, Ru.cons_e, Ru.cons_d, Ru.cons_l, Ru.cons_2, Ru.tup_e, Ru.tup_d, Ru.lst_e, Ru.lst_d, Ru.rd_e, Ru.rd_d, Ru.rd_l, Ru.op_e, Ru.op_1, Ru.op_2, Ru.op_3, Ru.un_e, Ru.un_1, Ru.isi_e, Ru.ite_e, Ru.ite_t, Ru.ite_f, Ru.ofB_e, Ru.ofB_1, Ru.toB_e, Ru.toB_1, Ru.and_e, Ru.and_t, Ru.and_f, Ru.or_e, Ru.or_t, Ru.or_f, Ru.not_e, Ru.not_1, Ru.px_e, Ru.px_1, Ru.px_2, Ru.oN_e, Ru.oS_e, Ru.oS_1, Ru.sl_e, Ru.sl_1, Ru.sl_2, Ru.sl_3, Ru.sl3_e, Ru.tl_1, Ru.tl_2, Ru.tl_3, Ru.tl_4, Ru.call_e, Ru.call_1, Ru.call_2, Ru.callP_e, Ru.callP_1, Ru.callP_2, Ru.chain_e, Ru.ch_1, Ru.ch_2, Ru.ch_t, Ru.ch_f, Ru.iL_e, Ru.iL_d, Ru.iL_l, Ru.iT_e, Ru.iT_d, Ru.iR1_e, Ru.iR1_1, Ru.lR_e, Ru.lR_1, Ru.tN_e, Ru.tT_2, Ru.yes_e, Ru.lc_e, Ru.lc_1, Ru.lc_2, Ru.seq_e, Ru.seq_nx, Ru.seq_rt, Ru.nop_e, Ru.set_e, Ru.set_d, Ru.set_l, Ru.setL_e, Ru.setL_l, Ru.ret_e, Ru.ret_1, Ru.retV_e, Ru.retV_l, Ru.retV_d, Ru.frz_e, Ru.frz_l, Ru.sIte_e, Ru.sIte_t, Ru.sIte_f, Ru.for_e, Ru.for_1, Ru.for_nil, Ru.for_cons, Ru.fK_1, Ru.fK_nx, Ru.fK_rt, Ru.append_e, Ru.append_1, Ru.append_d, Ru.append_l, Ru.extend_e, Ru.extend_1, Ru.extend_l, Ru.pop_e, Ru.pop_1, Ru.setIx_e, Ru.setIx_d, Ru.setP_e, Ru.setP_d, Ru.setP_1, Ru.par_e, Ru.par_1, Ru.stup_e, Ru.stup_d, Ru.wK_t, Ru.wK_f, Ru.wK_nx, Ru.wK_rt, Ru.runB_f, Ru.runB_t, Ru.rb_f, Ru.rb_t, Ru.rb_n, Ru.lt_i, Ru.le_i, Ru.gt_i, Ru.ge_i, Ru.sub_i, Ru.add_i, Ru.add_s, Ru.add_t, Ru.add_l, Ru.mul_i, Ru.div_i, Ru.mod_i, Ru.neg_i, Ru.is_n, Ru.isNot_n, Ru.non_n, Ru.non_i, Ru.non_b, Ru.non_s, Ru.non_l, Ru.non_t, Ru.len_l, Ru.len_t, Ru.len_s, Ru.list_l, Ru.list_t, Ru.tuple_l, Ru.tuple_t, Ru.int_i, Ru.gsl_l, Ru.gsl_t, Ru.gsl_s, Ru.eq_s, Ru.eq_i, Ru.eq_b, Ru.ne_b, Ru.ne_s, Ru.ne_i, Ru.in_2, Ru.atI_0, Ru.atI_1, Ru.atI_2, Ru.ix_t, Ru.ix_l, Ru.cut_1, E.wipeS, Ru.bind_some, Option.bind_none, Ru.map_some, Option.map_none, List.getElem?_cons_zero, List.getElem?_cons_succ, List.set_cons_zero, List.set_cons_succ, List.length_cons, List.length_nil, List.map_cons, List.map_nil, List.replicate, List.cons_append, List.nil_append]
            · have c6' : (v == 5) = false := beq_false_of_ne c6
              obtain ⟨b, p3, hp3, b0, b1, e3⟩ := draw_ok (many := (xs.length : Int)) (by omega) (by omega) hp2
              obtain ⟨q3, rfl⟩ := hp3.some
              have hblt : b.toNat < xs.length := by omega
              have hb := atI_get b0 b1
              have ia : ixN xs.length a = some a.toNat := by
                unfold ixN
                rw [if_pos a0, if_pos a1]
              have ib : ixN xs.length b = some b.toNat := by
                unfold ixN
                rw [if_pos b0, if_pos b1]
              refine ⟨.d (.tuple ((xs.set a.toNat xs[b.toNat]).set b.toNat xs[a.toNat])), _, hp3, bent_d ?_ ?_ (Nat.le_succ_of_le (depth_tuple fun y hy => (List.mem_or_eq_of_mem_set hy).elim (fun z => (List.mem_or_eq_of_mem_set z).elim (fun z => depth_mem z) fun z => by rw [z]; exact depth_mem (List.getElem_mem _)) fun z => by rw [z]; exact depth_mem (List.getElem_mem _))), ?_⟩
              · refine gd_tuple.mpr fun y hy => ?_
                rcases List.mem_or_eq_of_mem_set hy with z | rfl
                · rcases List.mem_or_eq_of_mem_set z with z | rfl
                  · exact hxs y z
                  · exact hxs _ (List.getElem_mem _)
                · exact hxs _ (List.getElem_mem _)
              · have z1 := szAll_set (xs.set a.toNat xs[b.toNat]) b.toNat xs[a.toNat]
                have z2 := szAll_set xs a.toNat xs[b.toNat]
                have z3 := sz_mem (List.getElem_mem (l := xs) (n := a.toNat) halt)
                have z4 := sz_mem (List.getElem_mem (l := xs) (n := b.toNat) hblt)
                simp only [sz]; omega
              · simp [r7_law_bent, r8_law_bent, r9_law_bent, r10_law_bent, r11_law_bent, r12_law_bent, r13_law_bent, r14_law_bent, -Option.bind_some, -Option.map_some, Ru.c_e, Ru.v_e, Ru.v_d, Ru.rv_e, Ru.rv_d, Ru.rv_l, Ru.nil_e, Ru.cons_e, Ru.cons_d, Ru.cons_l, Ru.cons_2, Ru.tup_e, Ru.tup_d, Ru.lst_e, Ru.lst_d, Ru.rd_e, Ru.rd_d, Ru.rd_l, Ru.op_e, Ru.op_1, Ru.op_2, Ru.op_3, Ru.un_e, Ru.un_1, Ru.isi_e, Ru.ite_e, Ru.ite_t, Ru.ite_f, Ru.ofB_e, Ru.ofB_1, Ru.toB_e, Ru.toB_1, Ru.and_e, Ru.and_t, Ru.and_f, Ru.or_e, Ru.or_t, Ru.or_f, Ru.not_e, Ru.not_1, Ru.px_e, Ru.px_1, Ru.px_2, Ru.oN_e, Ru.oS_e, Ru.oS_1, Ru.sl_e, Ru.sl_1, Ru.sl_2, Ru.sl_3, Ru.sl3_e, Ru.tl_1, Ru.tl_2, Ru.tl_3, Ru.tl_4, Ru.call_e, Ru.call_1, Ru.call_2, Ru.callP_e, Ru.callP_1, Ru.callP_2, Ru.chain_e, Ru.ch_1, Ru.ch_2, Ru.ch_t, Ru.ch_f, Ru.iL_e, Ru.iL_d, Ru.iL_l, Ru.iT_e, Ru.iT_d, Ru.iR1_e, Ru.iR1_1, Ru.lR_e, Ru.lR_1, Ru.tN_e, Ru.tT_2, Ru.yes_e, Ru.lc_e, Ru.lc_1, Ru.lc_2, Ru.seq_e, Ru.seq_nx, Ru.seq_rt, Ru.nop_e, Ru.set_e, Ru.set_d, Ru.set_l, Ru.setL_e, Ru.setL_l, Ru.ret_e, Ru.ret_1, Ru.retV_e, Ru.retV_l, Ru.retV_d, Ru.frz_e, Ru.frz_l, Ru.sIte_e, Ru.sIte_t, Ru.sIte_f, Ru.for_e, Ru.for_1, Ru.for_nil, Ru.for_cons, Ru.fK_1, Ru.fK_nx, Ru.fK_rt, Ru.append_e, Ru.append_1, Ru.append_d, Ru.append_l, Ru.extend_e, Ru.extend_1, Ru.extend_l, Ru.pop_e, Ru.pop_1, Ru.setIx_e, Ru.setIx_d, Ru.setP_e, Ru.setP_d, Ru.setP_1, Ru.par_e, Ru.par_1, Ru.stup_e, Ru.stup_d, Ru.wK_t, Ru.wK_f, Ru.wK_nx, Ru.wK_rt, Ru.runB_f, Ru.runB_t, Ru.rb_f, Ru.rb_t, Ru.rb_n, Ru.lt_i, Ru.le_i, Ru.gt_i, Ru.ge_i, Ru.sub_i, Ru.add_i, Ru.add_s, Ru.add_t, Ru.add_l, Ru.mul_i, Ru.div_i, Ru.mod_i, Ru.neg_i, Ru.is_n, Ru.isNot_n, Ru.non_n, Ru.non_i, Ru.non_b, Ru.non_s, Ru.non_l, Ru.non_t, Ru.len_l, Ru.len_t, Ru.len_s, Ru.list_l, Ru.list_t, Ru.tuple_l, Ru.tuple_t, Ru.int_i, Ru.gsl_l, Ru.gsl_t, Ru.gsl_s, Ru.eq_s, Ru.eq_i, Ru.eq_b, Ru.ne_b, Ru.ne_s, Ru.ne_i, Ru.in_2, Ru.atI_0, Ru.atI_1, Ru.atI_2, Ru.ix_t, Ru.ix_l, Ru.cut_1, E.wipeS, Ru.bind_some, Option.bind_none, Ru.map_some, Option.map_none, List.getElem?_cons_zero, List.getElem?_cons_succ, List.set_cons_zero, List.set_cons_succ, List.length_cons, List.length_nil, List.map_cons, List.map_nil, List.replicate, List.cons_append, List.nil_append, c3, c5, c6', e3, ha, hb, Ru.ixK2, ia, ib]
    | dict kvs => simp [gd] at hg
    | none =>
      by_cases c5 : v < 5
      · exact ⟨_, _, hp1, bent_d (d := .tuple [.none, .int 0]) (by simp [gd, gdAll]; omega) (by simp [sz, szAll]), by simp [r3_law_bent, r4_law_bent, r5_law_bent, -Option.bind_some, -Option.map_some, Ru.c_e, Ru.v_e, Ru.v_d, Ru.rv_e, Ru.rv_d, Ru.rv_l, Ru.nil_e, Ru.cons_e, Ru.cons_d, Ru.cons_l, Ru.cons_2, Ru.tup_e, Ru.tup_d, Ru.lst_e, Ru.lst_d, Ru.rd_e, Ru.rd_d, Ru.rd_l, Ru.op_e, Ru.op_1, Ru.op_2, Ru.op_3, Ru.un_e, Ru.un_1, Ru.isi_e, Ru.ite_e, Ru.ite_t, Ru.ite_f, Ru.ofB_e, Ru.ofB_1, Ru.toB_e, Ru.toB_1, Ru.and_e, Ru.and_t, Ru.and_f, Ru.or_e, Ru.or_t, Ru.or_f, Ru.not_e, Ru.not_1, Ru.px_e, Ru.px_1, Ru.px_2, Ru.oN_e, Ru.oS_e, Ru.oS_1, Ru.sl_e, Ru.sl_1, Ru.sl_2, Ru.sl_3, Ru.sl3_e, Ru.tl_1, Ru.tl_2, Ru.tl_3, Ru.tl_4, Ru.call_e, Ru.call_1, Ru.call_2, Ru.callP_e, Ru.callP_1, Ru.callP_2, Ru.chain_e, Ru.ch_1, Ru.ch_2, Ru.ch_t, Ru.ch_f, Ru.iL_e, Ru.iL_d, Ru.iL_l, Ru.iT_e, Ru.iT_d, Ru.iR1_e, Ru.iR1_1, Ru.lR_e, Ru.lR_1, Ru.tN_e, Ru.tT_2, Ru.yes_e, Ru.lc_e, Ru.lc_1, Ru.lc_2, Ru.seq_e, Ru.seq_nx, Ru.seq_rt, Ru.nop_e, Ru.set_e, Ru.set_d, Ru.set_l, Ru.setL_e, Ru.setL_l, Ru.ret_e, Ru.ret_1, Ru.retV_e, Ru.retV_l, Ru.retV_d, Ru.frz_e, Ru.frz_l, Ru.sIte_e, Ru.sIte_t, Ru.sIte_f, Ru.for_e, Ru.for_1, Ru.for_nil, Ru.for_cons, Ru.fK_1, Ru.fK_nx, Ru.fK_rt, Ru.append_e, Ru.append_1, Ru.append_d, Ru.append_l, Ru.extend_e, Ru.extend_1, Ru.extend_l, Ru.pop_e, Ru.pop_1, Ru.setIx_e, Ru.setIx_d, Ru.setP_e, Ru.setP_d, Ru.setP_1, Ru.par_e, Ru.par_1, Ru.stup_e, Ru.stup_d, Ru.wK_t, Ru.wK_f, Ru.wK_nx, Ru.wK_rt, Ru.runB_f, Ru.runB_t, Ru.rb_f, Ru.rb_t, Ru.rb_n, Ru.lt_i, Ru.le_i, Ru.gt_i, Ru.ge_i, Ru.sub_i, Ru.add_i, Ru.add_s, Ru.add_t, Ru.add_l, Ru.mul_i, Ru.div_i, Ru.mod_i, Ru.neg_i, Ru.is_n, Ru.isNot_n, Ru.non_n, Ru.non_i, Ru.non_b, Ru.non_s, Ru.non_l, Ru.non_t, Ru.len_l, Ru.len_t, Ru.len_s, Ru.list_l, Ru.list_t, Ru.tuple_l, Ru.tuple_t, Ru.int_i, Ru.gsl_l, Ru.gsl_t, Ru.gsl_s, Ru.eq_s, Ru.eq_i, Ru.eq_b, Ru.ne_b, Ru.ne_s, Ru.ne_i, Ru.in_2, Ru.atI_0, Ru.atI_1, Ru.atI_2, Ru.ix_t, Ru.ix_l, Ru.cut_1, E.wipeS, Ru.bind_some, Option.bind_none, Ru.map_some, Option.map_none, List.getElem?_cons_zero, List.getElem?_cons_succ, List.set_cons_zero, List.set_cons_succ, List.length_cons, List.length_nil, List.map_cons, List.map_nil, List.replicate, List.cons_append, List.nil_append, hi, isI, hS, isS, hT, isTu, c5]⟩
      · exact ⟨_, _, hp1, bent_d (d := .tuple []) (by simp [gd, gdAll]) (by simp [sz, szAll]), by simp [r3_law_bent, r4_law_bent, r5_law_bent, -Option.bind_some, -Option.map_some, Ru.c_e, Ru.v_e, Ru.v_d, Ru.rv_e, Ru.rv_d, Ru.rv_l, Ru.nil_e, Ru.cons_e, Ru.cons_d, Ru.cons_l, Ru.cons_2, Ru.tup_e, Ru.tup_d, Ru.lst_e, Ru.lst_d, Ru.rd_e, Ru.rd_d, Ru.rd_l, Ru.op_e, Ru.op_1, Ru.op_2, Ru.op_3, Ru.un_e, Ru.un_1, Ru.isi_e, Ru.ite_e, Ru.ite_t, Ru.ite_f, Ru.ofB_e, Ru.ofB_1, Ru.toB_e, Ru.toB_1, Ru.and_e, Ru.and_t, Ru.and_f, Ru.or_e, Ru.or_t, Ru.or_f, Ru.not_e, Ru.not_1, Ru.px_e, Ru.px_1, Ru.px_2, Ru.oN_e, Ru.oS_e, Ru.oS_1, Ru.sl_e, Ru.sl_1, Ru.sl_2, Ru.sl_3, Ru.sl3_e, Ru.tl_1, Ru.tl_2, Ru.tl_3, Ru.tl_4, Ru.call_e, Ru.call_1, Ru.call_2, Ru.callP_e, Ru.callP_1, Ru.callP_2, Ru.chain_e, Ru.ch_1, Ru.ch_2, Ru.ch_t, Ru.ch_f, Ru.iL_e, Ru.iL_d, Ru.iL_l, Ru.iT_e, Ru.iT_d, Ru.iR1_e, Ru.iR1_1, Ru.lR_e, Ru.lR_1, Ru.tN_e, Ru.tT_2, Ru.yes_e, Ru.lc_e, Ru.lc_1, Ru.lc_2, Ru.seq_e, Ru.seq_nx, Ru.seq_rt, Ru.nop_e, Ru.set_e, Ru.set_d, Ru.set_l, Ru.setL_e, Ru.setL_l, Ru.ret_e, Ru.ret_1, Ru.retV_e, Ru.retV_l, Ru.retV_d, Ru.frz_e, Ru.frz_l, Ru.sIte_e, Ru.sIte_t, Ru.sIte_f, Ru.for_e, Ru.for_1, Ru.for_nil, Ru.for_cons, Ru.fK_1, Ru.fK_nx, Ru.fK_rt, Ru.append_e, Ru.append_1, Ru.append_d, Ru.append_l, Ru.extend_e, Ru.extend_1, Ru.extend_l, Ru.pop_e, Ru.pop_1, Ru.setIx_e, Ru.setIx_d, Ru.setP_e, Ru.setP_d, Ru.setP_1, Ru.par_e, Ru.par_1, Ru.stup_e, Ru.stup_d, Ru.wK_t, Ru.wK_f, Ru.wK_nx, Ru.wK_rt, Ru.runB_f, Ru.runB_t, Ru.rb_f, Ru.rb_t, Ru.rb_n, Ru.lt_i, Ru.le_i, Ru.gt_i, Ru.ge_i, Ru.sub_i, Ru.add_i, Ru.add_s, Ru.add_t, Ru.add_l, Ru.mul_i, Ru.div_i, Ru.mod_i, Ru.neg_i, Ru.is_n, Ru.isNot_n, Ru.non_n, Ru.non_i, Ru.non_b, Ru.non_s, Ru.non_l, Ru.non_t, Ru.len_l, Ru.len_t, Ru.len_s, Ru.list_l, Ru.list_t, Ru.tuple_l, Ru.tuple_t, Ru.int_i, Ru.gsl_l, Ru.gsl_t, Ru.gsl_s, Ru.eq_s, Ru.eq_i, Ru.eq_b, Ru.ne_b, Ru.ne_s, Ru.ne_i, Ru.in_2, Ru.atI_0, Ru.atI_1, Ru.atI_2, Ru.ix_t, Ru.ix_l, Ru.cut_1, E.wipeS, Ru.bind_some, Option.bind_none, Ru.map_some, Option.map_none, List.getElem?_cons_zero, List.getElem?_cons_succ, List.set_cons_zero, List.set_cons_succ, List.length_cons, List.length_nil, List.map_cons, List.map_nil, List.replicate, List.cons_append, List.nil_append, hi, isI, hS, isS, hT, isTu, c5]⟩
    | bool b =>
      by_cases c5 : v < 5
      · exact ⟨_, _, hp1, bent_d (d := .tuple [.bool b, .int 0]) (by simp [gd, gdAll]; omega) (by simp [sz, szAll]), by simp [r3_law_bent, r4_law_bent, r5_law_bent, -Option.bind_some, -Option.map_some, Ru.c_e, Ru.v_e, Ru.v_d, Ru.rv_e, Ru.rv_d, Ru.rv_l, Ru.nil_e, Ru.cons_e, Ru.cons_d, Ru.cons_l, Ru.cons_2, Ru.tup_e, Ru.tup_d, Ru.lst_e, Ru.lst_d, Ru.rd_e, Ru.rd_d, Ru.rd_l, Ru.op_e, Ru.op_1, Ru.op_2, Ru.op_3, Ru.un_e, Ru.un_1, Ru.isi_e, Ru.ite_e, Ru.ite_t, Ru.ite_f, Ru.ofB_e, Ru.ofB_1, Ru.toB_e, Ru.toB_1, Ru.and_e, Ru.and_t, Ru.and_f, Ru.or_e, Ru.or_t, Ru.or_f, Ru.not_e, Ru.not_1, Ru.px_e, Ru.px_1, Ru.px_2, Ru.oN_e, Ru.oS_e, Ru.oS_1, Ru.sl_e, Ru.sl_1, Ru.sl_2, Ru.sl_3, Ru.sl3_e, Ru.tl_1, Ru.tl_2, Ru.tl_3, Ru.tl_4, Ru.call_e, Ru.call_1, Ru.call_2, Ru.callP_e, Ru.callP_1, Ru.callP_2, Ru.chain_e, Ru.ch_1, Ru.ch_2, Ru.ch_t, Ru.ch_f, Ru.iL_e, Ru.iL_d, Ru.iL_l, Ru.iT_e, Ru.iT_d, Ru.iR1_e, Ru.iR1_1, Ru.lR_e, Ru.lR_1, Ru.tN_e, Ru.tT_2, Ru.yes_e, Ru.lc_e, Ru.lc_1, Ru.lc_2, Ru.seq_e, Ru.seq_nx, Ru.seq_rt, Ru.nop_e, Ru.set_e, Ru.set_d, Ru.set_l, Ru.setL_e, Ru.setL_l, Ru.ret_e, Ru.ret_1, Ru.retV_e, Ru.retV_l, Ru.retV_d, Ru.frz_e, Ru.frz_l, Ru.sIte_e, Ru.sIte_t, Ru.sIte_f, Ru.for_e, Ru.for_1, Ru.for_nil, Ru.for_cons, Ru.fK_1, Ru.fK_nx, Ru.fK_rt, Ru.append_e, Ru.append_1, Ru.append_d, Ru.append_l, Ru.extend_e, Ru.extend_1, Ru.extend_l, Ru.pop_e, Ru.pop_1, Ru.setIx_e, Ru.setIx_d, Ru.setP_e, Ru.setP_d, Ru.setP_1, Ru.par_e, Ru.par_1, Ru.stup_e, Ru.stup_d, Ru.wK_t, Ru.wK_f, Ru.wK_nx, Ru.wK_rt, Ru.runB_f, Ru.runB_t, Ru.rb_f, Ru.rb_t, Ru.rb_n, Ru.lt_i, Ru.le_i, Ru.gt_i, Ru.ge_i, Ru.sub_i, Ru.add_i, Ru.add_s, Ru.add_t, Ru.add_l, Ru.mul_i, Ru.div_i, Ru.mod_i, Ru.neg_i, Ru.is_n, Ru.isNot_n, Ru.non_n, Ru.non_i, Ru.non_b, Ru.non_s, Ru.non_l, Ru.non_t, Ru.len_l, Ru.len_t, Ru.len_s, Ru.list_l, Ru.list_t, Ru.tuple_l, Ru.tuple_t, Ru.int_i, Ru.gsl_l, Ru.gsl_t, Ru.gsl_s, Ru.eq_s, Ru.eq_i, Ru.eq_b, Ru.ne_b, Ru.ne_s, Ru.ne_i, Ru.in_2, Ru.atI_0, Ru.atI_1, Ru.atI_2, Ru.ix_t, Ru.ix_l, Ru.cut_1, E.wipeS, Ru.bind_some, Option.bind_none, Ru.map_some, Option.map_none, List.getElem?_cons_zero, List.getElem?_cons_succ, List.set_cons_zero, List.set_cons_succ, List.length_cons, List.length_nil, List.map_cons, List.map_nil, List.replicate, List.cons_append, List.nil_append, hi, isI, hS, isS, hT, isTu, c5]⟩
      · exact ⟨_, _, hp1, bent_d (d := .tuple []) (by simp [gd, gdAll]) (by simp [sz, szAll]), by simp [r3_law_bent, r4_law_bent, r5_law_bent, -Option.bind_some, -Option.map_some, Ru.c_e, Ru.v_e, Ru.v_d, Ru.rv_e, Ru.rv_d, Ru.rv_l, Ru.nil_e, Ru.cons_e, Ru.cons_d, Ru.cons_l, Ru.cons_2, Ru.tup_e, Ru.tup_d, Ru.lst_e, Ru.lst_d, Ru.rd_e, Ru.rd_d, Ru.rd_l, Ru.op_e, Ru.op_1, Ru.op_2, Ru.op_3, Ru.un_e, Ru.un_1, Ru.isi_e, Ru.ite_e, Ru.ite_t, Ru.ite_f, Ru.ofB_e, Ru.ofB_1, Ru.toB_e, Ru.toB_1, Ru.and_e, Ru.and_t, Ru.and_f, Ru.or_e, Ru.or_t, Ru.or_f, Ru.not_e, Ru.not_1, Ru.px_e, Ru.px_1, Ru.px_2, Ru.oN_e, Ru.oS_e, Ru.oS_1, Ru.sl_e, Ru.sl_1, Ru.sl_2, Ru.sl_3, Ru.sl3_e, Ru.tl_1, Ru.tl_2, Ru.tl_3, Ru.tl_4, Ru.call_e, Ru.call_1, Ru.call_2, Ru.callP_e, Ru.callP_1, Ru.callP_2, Ru.chain_e, Ru.ch_1, Ru.ch_2, Ru.ch_t, Ru.ch_f, Ru.iL_e, Ru.iL_d, Ru.iL_l, Ru.iT_e, Ru.iT_d, Ru.iR1_e, Ru.iR1_1, Ru.lR_e, Ru.lR_1, Ru.tN_e, Ru.tT_2, Ru.yes_e, Ru.lc_e, Ru.lc_1, Ru.lc_2, Ru.seq_e, Ru.seq_nx, Ru.seq_rt, Ru.nop_e, Ru.set_e, Ru.set_d, Ru.set_l, Ru.setL_e, Ru.setL_l, Ru.ret_e, Ru.ret_1, Ru.retV_e, Ru.retV_l, Ru.retV_d, Ru.frz_e, Ru.frz_l, Ru.sIte_e, Ru.sIte_t, Ru.sIte_f, Ru.for_e, Ru.for_1, Ru.for_nil, Ru.for_cons, Ru.fK_1, Ru.fK_nx, Ru.fK_rt, Ru.append_e, Ru.append_1, Ru.append_d, Ru.append_l, Ru.extend_e, Ru.extend_1, Ru.extend_l, Ru.pop_e, Ru.pop_1, Ru.setIx_e, Ru.setIx_d, Ru.setP_e, Ru.setP_d, Ru.setP_1, Ru.par_e, Ru.par_1, Ru.stup_e, Ru.stup_d, Ru.wK_t, Ru.wK_f, Ru.wK_nx, Ru.wK_rt, Ru.runB_f, Ru.runB_t, Ru.rb_f, Ru.rb_t, Ru.rb_n, Ru.lt_i, Ru.le_i, Ru.gt_i, Ru.ge_i, Ru.sub_i, Ru.add_i, Ru.add_s, Ru.add_t, Ru.add_l, Ru.mul_i, Ru.div_i, Ru.mod_i, Ru.neg_i, Ru.is_n, Ru.isNot_n, Ru.non_n, Ru.non_i, Ru.non_b, Ru.non_s, Ru.non_l, Ru.non_t, Ru.len_l, Ru.len_t, Ru.len_s, Ru.list_l, Ru.list_t, Ru.tuple_l, Ru.tuple_t, Ru.int_i, Ru.gsl_l, Ru.gsl_t, Ru.gsl_s, Ru.eq_s, Ru.eq_i, Ru.eq_b, Ru.ne_b, Ru.ne_s, Ru.ne_i, Ru.in_2, Ru.atI_0, Ru.atI_1, Ru.atI_2, Ru.ix_t, Ru.ix_l, Ru.cut_1, E.wipeS, Ru.bind_some, Option.bind_none, Ru.map_some, Option.map_none, List.getElem?_cons_zero, List.getElem?_cons_succ, List.set_cons_zero, List.set_cons_succ, List.length_cons, List.length_nil, List.map_cons, List.map_nil, List.replicate, List.cons_append, List.nil_append, hi, isI, hS, isS, hT, isTu, c5]⟩
    | list xs =>
      by_cases c5 : v < 5
      · exact ⟨_, _, hp1, bent_d (d := .tuple [.list xs, .int 0]) (by simp only [gd, gdAll, Bool.and_true, Bool.and_eq_true, decide_eq_true_eq] at hmono ⊢; exact ⟨hmono, by omega⟩) (by simp only [sz, szAll]; omega) (by simp only [PyData.depth, PyData.depthAll]; omega), by simp [r3_law_bent, r4_law_bent, r5_law_bent, -Option.bind_some, -Option.map_some, Ru.c_e, Ru.v_e, Ru.v_d, Ru.rv_e, Ru.rv_d, Ru.rv_l, Ru.nil_e, Ru.cons_e, Ru.cons_d, Ru.cons_l, Ru.cons_2, Ru.tup_e, Ru.tup_d, Ru.lst_e, Ru.lst_d, Ru.rd_e, Ru.rd_d, Ru.rd_l, Ru.op_e, Ru.op_1, Ru.op_2, Ru.op_3, Ru.un_e, Ru.un_1, Ru.isi_e, Ru.ite_e, Ru.ite_t, Ru.ite_f, Ru.ofB_e, Ru.ofB_1, Ru.toB_e, Ru.toB_1, Ru.and_e, Ru.and_t, Ru.and_f, Ru.or_e, Ru.or_t, Ru.or_f, Ru.not_e, Ru.not_1, Ru.px_e, Ru.px_1, Ru.px_2, Ru.oN_e, Ru.oS_e, Ru.oS_1, Ru.sl_e, Ru.sl_1, Ru.sl_2, Ru.sl_3, Ru.sl3_e, Ru.tl_1, Ru.tl_2, Ru.tl_3, Ru.tl_4, Ru.call_e, Ru.call_1, Ru.call_2, Ru.callP_e, Ru.callP_1, Ru.callP_2, Ru.chain_e, Ru.ch_1, Ru.ch_2, Ru.ch_t, Ru.ch_f, Ru.iL_e, Ru.iL_d, Ru.iL_l, Ru.iT_e, Ru.iT_d, Ru.iR1_e, Ru.iR1_1, Ru.lR_e, Ru.lR_1, Ru.tN_e, Ru.tT_2, Ru.yes_e, Ru.lc_e, Ru.lc_1, Ru.lc_2, Ru.seq_e, Ru.seq_nx, Ru.seq_rt, Ru.nop_e, Ru.set_e, Ru.set_d, Ru.set_l, Ru.setL_e, Ru.setL_l, Ru.ret_e, Ru.ret_1, Ru.retV_e, Ru.retV_l, Ru.retV_d, Ru.frz_e, Ru.frz_l, Ru.sIte_e, Ru.sIte_t, Ru.sIte_f, Ru.for_e, Ru.for_1, Ru.for_nil, Ru.for_cons, Ru.fK_1, Ru.fK_nx, Ru.fK_rt, Ru.append_e, Ru.append_1, Ru.append_d, Ru.append_l, Ru.extend_e, Ru.extend_1, Ru.extend_l, Ru.pop_e, Ru.pop_1, Ru.setIx_e, Ru.setIx_d, Ru.setP_e, Ru.setP_d, Ru.setP_1, Ru.par_e, Ru.par_1, Ru.stup_e, Ru.stup_d, Ru.wK_t, Ru.wK_f, Ru.wK_nx, Ru.wK_rt, Ru.runB_f, Ru.runB_t, Ru.rb_f, Ru.rb_t, Ru.rb_n, Ru.lt_i, Ru.le_i, Ru.gt_i, Ru.ge_i, Ru.sub_i, Ru.add_i, Ru.add_s, Ru.add_t, Ru.add_l, Ru.mul_i, Ru.div_i, Ru.mod_i, Ru.neg_i, Ru.is_n, Ru.isNot_n, Ru.non_n, Ru.non_i, Ru.non_b, Ru.non_s, Ru.non_l, Ru.non_t, Ru.len_l, Ru.len_t, Ru.len_s, Ru.list_l, Ru.list_t, Ru.tuple_l, Ru.tuple_t, Ru.int_i, Ru.gsl_l, Ru.gsl_t, Ru.gsl_s, Ru.eq_s, Ru.eq_i, Ru.eq_b, Ru.ne_b, Ru.ne_s, Ru.ne_i, Ru.in_2, Ru.atI_0, Ru.atI_1, Ru.atI_2, Ru.ix_t, Ru.ix_l, Ru.cut_1, E.wipeS, Ru.bind_some, Option.bind_none, Ru.map_some, Option.map_none, List.getElem?_cons_zero, List.getElem?_cons_succ, List.set_cons_zero, List.set_cons_succ, List.length_cons, List.length_nil, List.map_cons, List.map_nil, List.replicate, List.cons_append, List.nil_append, hi, isI, hS, isS, hT, isTu, c5]⟩
      · exact ⟨_, _, hp1, bent_d (d := .tuple []) (by simp [gd, gdAll]) (by simp [sz, szAll]), by simp [r3_law_bent, r4_law_bent, r5_law_bent, -Option.bind_some, -Option.map_some, Ru.c_e, Ru.v_e, Ru.v_d, Ru.rv_e, Ru.rv_d, Ru.rv_l, Ru.nil_e, Ru.cons_e, Ru.cons_d, Ru.cons_l, Ru.cons_2, Ru.tup_e, Ru.tup_d, Ru.lst_e, Ru.lst_d, Ru.rd_e, Ru.rd_d, Ru.rd_l, Ru.op_e, Ru.op_1, Ru.op_2, Ru.op_3, Ru.un_e, Ru.un_1, Ru.isi_e, Ru.ite_e, Ru.ite_t, Ru.ite_f, Ru.ofB_e, Ru.ofB_1, Ru.toB_e, Ru.toB_1, Ru.and_e, Ru.and_t, Ru.and_f, Ru.or_e, Ru.or_t, Ru.or_f, Ru.not_e, Ru.not_1, Ru.px_e, Ru.px_1, Ru.px_2, Ru.oN_e, Ru.oS_e, Ru.oS_1, Ru.sl_e, Ru.sl_1, Ru.sl_2, Ru.sl_3, Ru.sl3_e, Ru.tl_1, Ru.tl_2, Ru.tl_3, Ru.tl_4, Ru.call_e, Ru.call_1, Ru.call_2, Ru.callP_e, Ru.callP_1, Ru.callP_2, Ru.chain_e, Ru.ch_1, Ru.ch_2, Ru.ch_t, Ru.ch_f, Ru.iL_e, Ru.iL_d, Ru.iL_l, Ru.iT_e, Ru.iT_d, Ru.iR1_e, Ru.iR1_1, Ru.lR_e, Ru.lR_1, Ru.tN_e, Ru.tT_2, Ru.yes_e, Ru.lc_e, Ru.lc_1, Ru.lc_2, Ru.seq_e, Ru.seq_nx, Ru.seq_rt, Ru.nop_e, Ru.set_e, Ru.set_d, Ru.set_l, Ru.setL_e, Ru.setL_l, Ru.ret_e, Ru.ret_1, Ru.retV_e, Ru.retV_l, Ru.retV_d, Ru.frz_e, Ru.frz_l, Ru.sIte_e, Ru.sIte_t, Ru.sIte_f, Ru.for_e, Ru.for_1, Ru.for_nil, Ru.for_cons, Ru.fK_1, Ru.fK_nx, Ru.fK_rt, Ru.append_e, Ru.append_1, Ru.append_d, Ru.append_l, Ru.extend_e, Ru.extend_1, Ru.extend_l, Ru.pop_e, Ru.pop_1, Ru.setIx_e, Ru.setIx_d, Ru.setP_e, Ru.setP_d, Ru.setP_1, Ru.par_e, Ru.par_1, Ru.stup_e, Ru.stup_d, Ru.wK_t, Ru.wK_f, Ru.wK_nx, Ru.wK_rt, Ru.runB_f, Ru.runB_t, Ru.rb_f, Ru.rb_t, Ru.rb_n, Ru.lt_i, Ru.le_i, Ru.gt_i, Ru.ge_i, Ru.sub_i, Ru.add_i, Ru.add_s, Ru.add_t, Ru.add_l, Ru.mul_i, Ru.div_i, Ru.mod_i, Ru.neg_i, Ru.is_n, Ru.isNot_n, Ru.non_n, Ru.non_i, Ru.non_b, Ru.non_s, Ru.non_l, Ru.non_t, Ru.len_l, Ru.len_t, Ru.len_s, Ru.list_l, Ru.list_t, Ru.tuple_l, Ru.tuple_t, Ru.int_i, Ru.gsl_l, Ru.gsl_t, Ru.gsl_s, Ru.eq_s, Ru.eq_i, Ru.eq_b, Ru.ne_b, Ru.ne_s, Ru.ne_i, Ru.in_2, Ru.atI_0, Ru.atI_1, Ru.atI_2, Ru.ix_t, Ru.ix_l, Ru.cut_1, E.wipeS, Ru.bind_some, Option.bind_none, Ru.map_some, Option.map_none, List.getElem?_cons_zero, List.getElem?_cons_succ, List.set_cons_zero, List.set_cons_succ, List.length_cons, List.length_nil, List.map_cons, List.map_nil, List.replicate, List.cons_append, List.nil_append, hi, isI, hS, isS, hT, isTu, c5]⟩
/-! ### bent -/
def m_law_bent : Nat → MF
  | 0 => fun _ _ => none
  | n + 1 => runB 6 true 2 (b_law_bent m_law_draw m_law_is_integer (m_law_bent n))
theorem e_bent {k : Int} (hk : 1 ≤ k) : ∀ (n : Nat) (x : D), gd k x = true → sz x ≤ 100000 → x.depth < n → ∀ {p : Pl}, VP p →
    ∃ (r : RV) (p' : Pl), VP p' ∧ Bent k x r ∧ m_law_bent n [x] p = some (r, p') := by
  intro n
  induction n with
  | zero => intro x _ _ h; omega
  | succ n ih =>
    intro x hg hs hd p hp
    have hpl := gd_plain x hg
    have hT := isT_tuple hpl
    -- the way past the first test
    have past : ∀ q1, VP (some q1) → (∀ q, p = some q → S.ite (E.and (E.toB (E.isi "tuple" (E.rv 1))) (E.and (E.toB (E.op gGt (E.rd (E.un gLen (E.rv 1))) (E.rd (E.c (.int 0))))) (E.toB (E.op gGt (E.rd (E.callP 0 m_law_draw (E.cons (E.c (.int 3)) E.nil))) (E.rd (E.c (.int 0))))))) (S.seq (S.set 2 (E.callP 0 m_law_draw (E.cons (E.un gLen (E.rv 1)) E.nil))) (S.ret (E.op gAdd (E.rd (E.op gAdd (E.rd (E.sl (E.rv 1) E.oN (E.oS (E.v 2)))) (E.rd (E.tup (E.cons (E.callP 0 (m_law_bent n) (E.cons (E.op gIx (E.rv 1) (E.rv 2)) E.nil)) E.nil))))) (E.rd (E.sl (E.rv 1) (E.oS (E.op gAdd (E.rv 2) (E.rd (E.c (.int 1))))) E.oN))))) S.nop
        ⟨[.pool, .d x, .un, .un, .un, .un], some q⟩ = some (.nx ⟨[.pool, .d x, .un, .un, .un, .un], some q1⟩)) →
        ∃ (r : RV) (p' : Pl), VP p' ∧ Bent k x r ∧ m_law_bent (n + 1) [x] p = some (r, p') := by
      intro q1 hq1 h1
      obtain ⟨r, p', hp', hb, e⟩ := tail_ok hk (m := m_law_bent n) hg hs hq1
      obtain ⟨q, rfl⟩ := hp.some
      refine ⟨r, p', hp', hb, ?_⟩
      unfold m_law_bent
      rw [Ru.runB_t (by simp)]
      unfold b_law_bent
      rw [Ru.seq_e]
      have h2 := h1 q rfl
      simp only [List.map_cons, List.map_nil, List.cons_append, List.nil_append, Nat.reduceSub, List.replicate]
      rw [h2]
      simp only [Ru.bind_some, Ru.seq_nx]
      have e' : r1_law_bent m_law_draw m_law_is_integer (m_law_bent n) ⟨[.pool, .d x, .un, .un, .un, .un], some q1⟩ = some (.rt r p') := e
      rw [e']
      rfl
    by_cases ht : isTu x = true
    · cases x with
      | tuple xs =>
        have hT' : gIsT "tuple" (.tuple xs) = some (.d (.bool true)) := hT
        simp only [sz] at hs
        have hlen := szAll_len xs
        by_cases cl : xs.length = 0
        · obtain ⟨q, rfl⟩ := hp.some
          refine past q hp fun q' e => ?_
          cases e
          simp [-Option.bind_some, -Option.map_some, Ru.c_e, Ru.v_e, Ru.v_d, Ru.rv_e, Ru.rv_d, Ru.rv_l, Ru.nil_e, Ru.cons_e, Ru.cons_d, Ru.cons_l, Ru.cons_2, Ru.tup_e, Ru.tup_d, Ru.lst_e, Ru.lst_d, Ru.rd_e, Ru.rd_d, Ru.rd_l, Ru.op_e, Ru.op_1, Ru.op_2, Ru.op_3, Ru.un_e, Ru.un_1, Ru.isi_e, Ru.ite_e, Ru.ite_t, Ru.ite_f, Ru.ofB_e, Ru.ofB_1, Ru.toB_e, Ru.toB_1, Ru.and_e, Ru.and_t, Ru.and_f, Ru.or_e, Ru.or_t, Ru.or_f, Ru.not_e, Ru.not_1, Ru.px_e, Ru.px_1, Ru.px_2, Ru.oN_e, Ru.oS_e, Ru.oS_1, Ru.sl_e, Ru.sl_1, Ru.sl_2, Ru.sl_3, Ru.sl3_e, Ru.tl_1, Ru.tl_2, Ru.tl_3, Ru.tl_4, Ru.call_e, Ru.call_1, Ru.call_2, Ru.callP_e, Ru.callP_1, Ru.callP_2, Ru.chain_e, Ru.ch_1, Ru.ch_2, Ru.ch_t, Ru.ch_f, Ru.iL_e, Ru.iL_d, Ru.iL_l, Ru.iT_e, Ru.iT_d, Ru.iR1_e, Ru.iR1_1, Ru.lR_e, Ru.lR_1, Ru.tN_e, Ru.tT_2, Ru.yes_e, Ru.lc_e, Ru.lc_1, Ru.lc_2, Ru.seq_e, Ru.seq_nx, Ru.seq_rt, Ru.nop_e, Ru.set_e, Ru.set_d, Ru.set_l, Ru.setL_e, Ru.setL_l, Ru.ret_e, Ru.ret_1, Ru.retV_e, Ru.retV_l, Ru.retV_d, Ru.frz_e, Ru.frz_l, Ru.sIte_e, Ru.sIte_t, Ru.sIte_f, Ru.for_e, Ru.for_1, Ru.for_nil, Ru.for_cons, Ru.fK_1, Ru.fK_nx, Ru.fK_rt, Ru.append_e, Ru.append_1, Ru.append_d, Ru.append_l, Ru.extend_e, Ru.extend_1, Ru.extend_l, Ru.pop_e, Ru.pop_1, Ru.setIx_e, Ru.setIx_d, Ru.setP_e, Ru.setP_d, Ru.setP_1, Ru.par_e, Ru.par_1, Ru.stup_e, Ru.stup_d, Ru.wK_t, Ru.wK_f, Ru.wK_nx, Ru.wK_rt, Ru.runB_f, Ru.runB_t, Ru.rb_f, Ru.rb_t, Ru.rb_n, Ru.lt_i, Ru.le_i, Ru.gt_i, Ru.ge_i, Ru.sub_i, Ru.add_i, Ru.add_s, Ru.add_t, Ru.add_l, Ru.mul_i, Ru.div_i, Ru.mod_i, Ru.neg_i, Ru.is_n, Ru.isNot_n, Ru.non_n, Ru.non_i, Ru.non_b, Ru.non_s, Ru.non_l, Ru.non_t, Ru.len_l, Ru.len_t, Ru.len_s, Ru.list_l, Ru.list_t, Ru.tuple_l, Ru.tuple_t, Ru.int_i, Ru.gsl_l, Ru.gsl_t, Ru.gsl_s, Ru.eq_s, Ru.eq_i, Ru.eq_b, Ru.ne_b, Ru.ne_s, Ru.ne_i, Ru.in_2, Ru.atI_0, Ru.atI_1, Ru.atI_2, Ru.ix_t, Ru.ix_l, Ru.cut_1, E.wipeS, Ru.bind_some, Option.bind_none, Ru.map_some, Option.map_none, List.getElem?_cons_zero, List.getElem?_cons_succ, List.set_cons_zero, List.set_cons_succ, List.length_cons, List.length_nil, List.map_cons, List.map_nil, List.replicate, List.cons_append, List.nil_append, hT', cl]
        · have hl0 : 0 < xs.length := by omega
          obtain ⟨q, rfl⟩ := hp.some
          obtain ⟨v, p1, hp1, v0, v1, e1⟩ := draw_ok (many := 3) (by decide) (by decide) hp
          obtain ⟨q1, rfl⟩ := hp1.some
          by_cases cv : 0 < v
          · obtain ⟨a, p2, hp2, a0, a1, e2⟩ := draw_ok (many := (xs.length : Int)) (by omega) (by omega) hp1
            obtain ⟨q2, rfl⟩ := hp2.some
            have halt : a.toNat < xs.length := by omega
            have ha := atI_get a0 a1
            have t1 := cut_to xs a0 (by omega)
            have t2 := cut_from xs (v := a + 1) (by omega) (by omega)
            have ea : (a + 1).toNat = a.toNat + 1 := by omega
            rw [ea] at t2
            have hsp := szAll_split xs a.toNat halt
            have hmem := List.getElem_mem (l := xs) (n := a.toNat) halt
            have hgi := gd_tuple.mp hg _ hmem
            have hdi : (xs[a.toNat]).depth < n := by
              have := depth_mem hmem
              simp only [PyData.depth] at hd
              omega
            obtain ⟨r, p3, hp3, ⟨d, hd1, hd2, hd3, hd4⟩, e3⟩ := ih (xs[a.toNat]) hgi (by omega) hdi hp2
            obtain ⟨q3, rfl⟩ := hp3.some
            have hxs := gd_tuple.mp (gd_mono (show k ≤ k + 2 by omega) _ hg)
            have l1 : (xs.take a.toNat).length + [d].length ≤ 16777216 := by rw [List.length_take, List.length_singleton]; omega
            have l2 : (xs.take a.toNat ++ [d]).length + (xs.drop (a.toNat + 1)).length ≤ 16777216 := by rw [List.length_append, List.length_take, List.length_drop, List.length_singleton]; omega
            refine ⟨.d (.tuple ((xs.take a.toNat ++ [d]) ++ xs.drop (a.toNat + 1))), _, hp3, bent_d ?_ ?_ (depth_tuple fun y hy => (List.mem_append.mp hy).elim (fun z => (List.mem_append.mp z).elim (fun z => Nat.le_succ_of_le (depth_mem (List.mem_of_mem_take z))) fun z => by rw [List.mem_singleton.mp z]; exact Nat.le_trans hd4 (Nat.add_le_add_right (depth_mem hmem) 1)) fun z => Nat.le_succ_of_le (depth_mem (List.mem_of_mem_drop z))), ?_⟩
            · refine gd_tuple.mpr fun y hy => ?_
              rcases List.mem_append.mp hy with z | z
              · rcases List.mem_append.mp z with z | z
                · exact hxs y (List.mem_of_mem_take z)
                · rw [List.mem_singleton.mp z]; exact hd2
              · exact hxs y (List.mem_of_mem_drop z)
            · simp only [sz, szAll_append, szAll]; omega
            · have hk1 : ∀ g r' q', Ru.consK g r' (r, q') = (g ⟨r', q'⟩).bind (Ru.consK2 d) := fun g r' q' => consK_to hd1
              simp [m_law_bent, b_law_bent, -Option.bind_some, -Option.map_some, Ru.c_e, Ru.v_e, Ru.v_d, Ru.rv_e, Ru.rv_d, Ru.rv_l, Ru.nil_e, Ru.cons_e, Ru.cons_d, Ru.cons_l, Ru.cons_2, Ru.tup_e, Ru.tup_d, Ru.lst_e, Ru.lst_d, Ru.rd_e, Ru.rd_d, Ru.rd_l, Ru.op_e, Ru.op_1, Ru.op_2, Ru.op_3, Ru.un_e, Ru.un_1, Ru.isi_e, Ru.ite_e, Ru.ite_t, Ru.ite_f, Ru.ofB_e, Ru.ofB_1, Ru.toB_e, Ru.toB_1, Ru.and_e, Ru.and_t, Ru.and_f, Ru.or_e, Ru.or_t, Ru.or_f, Ru.not_e, Ru.not_1, Ru.px_e, Ru.px_1, Ru.px_2, Ru.oN_e, Ru.oS_e, Ru.oS_1, Ru.sl_e, Ru.sl_1, Ru.sl_2, Ru.sl_3, Ru.sl3_e, Ru.tl_1, Ru.tl_2, Ru.tl_3, Ru.tl_4, Ru.call_e, Ru.call_1, Ru.call_2, Ru.callP_e, Ru.callP_1, Ru.callP_2, Ru.chain_e, Ru.ch_1, Ru.ch_2, Ru.ch_t, Ru.ch_f, Ru.iL_e, Ru.iL_d, Ru.iL_l, Ru.iT_e, Ru.iT_d, Ru.iR1_e, Ru.iR1_1, Ru.lR_e, Ru.lR_1, Ru.tN_e, Ru.tT_2, Ru.yes_e, Ru.lc_e, Ru.lc_1, Ru.lc_2, Ru.seq_e, Ru.seq_nx, Ru.seq_rt, Ru.nop_e, Ru.set_e, Ru.set_d, Ru.set_l, Ru.setL_e, Ru.setL_l, Ru.ret_e, Ru.ret_1, Ru.retV_e, Ru.retV_l, Ru.retV_d, Ru.frz_e, Ru.frz_l, Ru.sIte_e, Ru.sIte_t, Ru.sIte_f, Ru.for_e, Ru.for_1, Ru.for_nil, Ru.for_cons, Ru.fK_1, Ru.fK_nx, Ru.fK_rt, Ru.append_e, Ru.append_1, Ru.append_d, Ru.append_l, Ru.extend_e, Ru.extend_1, Ru.extend_l, Ru.pop_e, Ru.pop_1, Ru.setIx_e, Ru.setIx_d, Ru.setP_e, Ru.setP_d, Ru.setP_1, Ru.par_e, Ru.par_1, Ru.stup_e, Ru.stup_d, Ru.wK_t, Ru.wK_f, Ru.wK_nx, Ru.wK_rt, Ru.runB_f, Ru.runB_t, Ru.rb_f, Ru.rb_t, Ru.rb_n, Ru.lt_i, Ru.le_i, Ru.gt_i, Ru.ge_i, Ru.sub_i, Ru.add_i, Ru.add_s, Ru.add_t, Ru.add_l, Ru.mul_i, Ru.div_i, Ru.mod_i, Ru.neg_i, Ru.is_n, Ru.isNot_n, Ru.non_n, Ru.non_i, Ru.non_b, Ru.non_s, Ru.non_l, Ru.non_t, Ru.len_l, Ru.len_t, Ru.len_s, Ru.list_l, Ru.list_t, Ru.tuple_l, Ru.tuple_t, Ru.int_i, Ru.gsl_l, Ru.gsl_t, Ru.gsl_s, Ru.eq_s, Ru.eq_i, Ru.eq_b, Ru.ne_b, Ru.ne_s, Ru.ne_i, Ru.in_2, Ru.atI_0, Ru.atI_1, Ru.atI_2, Ru.ix_t, Ru.ix_l, Ru.cut_1, E.wipeS, Ru.bind_some, Option.bind_none, Ru.map_some, Option.map_none, List.getElem?_cons_zero, List.getElem?_cons_succ, List.set_cons_zero, List.set_cons_succ, List.length_cons, List.length_nil, List.map_cons, List.map_nil, List.replicate, List.cons_append, List.nil_append, hT', hl0, e1, cv, e2, t1, ha, e3, hk1]
              rw [Ru.add_t l1]
              simp only [Ru.bind_some, Ru.op_3, Ru.rd_d, Ru.op_1, Ru.sl_e, Ru.rv_e, Ru.rd_e, List.getElem?_cons_zero, List.getElem?_cons_succ, Ru.rv_d, Ru.sl_1, Ru.oS_e, Ru.op_e, Ru.v_e, Ru.v_d, Ru.c_e, Ru.add_i, Ru.oS_1, Ru.sl_2, Ru.oN_e, Ru.sl_3, Ru.gsl_t, t2, Ru.op_2]
              rw [Ru.add_t l2]
              simp [-Option.bind_some, -Option.map_some, Ru.c_e, Ru.v_e, Ru.v_d, Ru.rv_e, Ru.rv_d, Ru.rv_l, Ru.nil_e, Ru.cons_e, Ru.cons_d, Ru.cons_l, Ru.cons_2, Ru.tup_e, Ru.tup_d, Ru.lst_e, Ru.lst_d, Ru.rd_e, Ru.rd_d, Ru.rd_l, Ru.op_e, Ru.op_1, Ru.op_2, Ru.op_3, Ru.un_e, Ru.un_1, Ru.isi_e, Ru.ite_e, Ru.ite_t, Ru.ite_f, Ru.ofB_e, Ru.ofB_1, Ru.toB_e, Ru.toB_1, Ru.and_e, Ru.and_t, Ru.and_f, Ru.or_e, Ru.or_t, Ru.or_f, Ru.not_e, Ru.not_1, Ru.px_e, Ru.px_1, Ru.px_2, Ru.oN_e, Ru.oS_e, Ru.oS_1, Ru.sl_e, Ru.sl_1, Ru.sl_2, Ru.sl_3, Ru.sl3_e, Ru.tl_1, Ru.tl_2, Ru.tl_3, Ru.tl_4, Ru.call_e, Ru.call_1, Ru.call_2, Ru.callP_e, Ru.callP_1, Ru.callP_2, Ru.chain_e, Ru.ch_1, Ru.ch_2, Ru.ch_t, Ru.ch_f, Ru.iL_e, Ru.iL_d, Ru.iL_l, Ru.iT_e, Ru.iT_d, Ru.iR1_e, Ru.iR1_1, Ru.lR_e, Ru.lR_1, Ru.tN_e, Ru.tT_2, Ru.yes_e, Ru.lc_e, Ru.lc_1, Ru.lc_2, Ru.seq_e, Ru.seq_nx, Ru.seq_rt, Ru.nop_e, Ru.set_e, Ru.set_d, Ru.set_l, Ru.setL_e, Ru.setL_l, Ru.ret_e, Ru.ret_1, Ru.retV_e, Ru.retV_l, Ru.retV_d, Ru.frz_e, Ru.frz_l, Ru.sIte_e, Ru.sIte_t, Ru.sIte_f, Ru.for_e, Ru.for_1, Ru.for_nil, Ru.for_cons, Ru.fK_1, Ru.fK_nx, Ru.fK_rt, Ru.append_e, Ru.append_1, Ru.append_d, Ru.append_l, Ru.extend_e, Ru.extend_1, Ru.extend_l, Ru.pop_e, Ru.pop_1, Ru.setIx_e, Ru.setIx_d, Ru.setP_e, Ru.setP_d, Ru.setP_1, Ru.par_e, Ru.par_1, Ru.stup_e, Ru.stup_d, Ru.wK_t, Ru.wK_f, Ru.wK_nx, Ru.wK_rt, Ru.runB_f, Ru.runB_t, Ru.rb_f, Ru.rb_t, Ru.rb_n, Ru.lt_i, Ru.le_i, Ru.gt_i, Ru.ge_i, Ru.sub_i, Ru.add_i, Ru.add_s, Ru.add_t, Ru.add_l, Ru.mul_i, Ru.div_i, Ru.mod_i, Ru.neg_i, Ru.is_n, Ru.isNot_n, Ru.non_n, Ru.non_i, Ru.non_b, Ru.non_s, Ru.non_l, Ru.non_t, Ru.len_l, Ru.len_t, Ru.len_s, Ru.list_l, Ru.list_t, Ru.tuple_l, Ru.tuple_t, Ru.int_i, Ru.gsl_l, Ru.gsl_t, Ru.gsl_s, Ru.eq_s, Ru.eq_i, Ru.eq_b, Ru.ne_b, Ru.ne_s, Ru.ne_i, Ru.in_2, Ru.atI_0, Ru.atI_1, Ru.atI_2, Ru.ix_t, Ru.ix_l, Ru.cut_1, E.wipeS, Ru.bind_some, Option.bind_none, Ru.map_some, Option.map_none, List.getElem?_cons_zero, List.getElem?_cons_succ, List.set_cons_zero, List.set_cons_succ, List.length_cons, List.length_nil, List.map_cons, List.map_nil, List.replicate, List.cons_append, List.nil_append]
          · refine past q1 hp1 fun q' e => ?_
            cases e
            simp [-Option.bind_some, -Option.map_some, Ru.c_e, Ru.v_e, Ru.v_d, Ru.rv_e, Ru.rv_d, Ru.rv_l, Ru.nil_e, Ru.cons_e, Ru.cons_d, Ru.cons_l, Ru.cons_2, Ru.tup_e, Ru.tup_d, Ru.lst_e, Ru.lst_d, Ru.rd_e, Ru.rd_d, Ru.rd_l, Ru.op_e, Ru.op_1, Ru.op_2, Ru.op_3, Ru.un_e, Ru.un_1, Ru.isi_e, Ru.ite_e, Ru.ite_t, Ru.ite_f, Ru.ofB_e, Ru.ofB_1, Ru.toB_e, Ru.toB_1, Ru.and_e, Ru.and_t, Ru.and_f, Ru.or_e, Ru.or_t, Ru.or_f, Ru.not_e, Ru.not_1, Ru.px_e, Ru.px_1, Ru.px_2, Ru.oN_e, Ru.oS_e, Ru.oS_1, Ru.sl_e, Ru.sl_1, Ru.sl_2, Ru.sl_3, Ru.sl3_e, Ru.tl_1, Ru.tl_2, Ru.tl_3, Ru.tl_4, Ru.call_e, Ru.call_1, Ru.call_2, Ru.callP_e, Ru.callP_1, Ru.callP_2, Ru.chain_e, Ru.ch_1, Ru.ch_2, Ru.ch_t, Ru.ch_f, Ru.iL_e, Ru.iL_d, Ru.iL_l, Ru.iT_e, Ru.iT_d, Ru.iR1_e, Ru.iR1_1, Ru.lR_e, Ru.lR_1, Ru.tN_e, Ru.tT_2, Ru.yes_e, Ru.lc_e, Ru.lc_1, Ru.lc_2, Ru.seq_e, Ru.seq_nx, Ru.seq_rt, Ru.nop_e, Ru.set_e, Ru.set_d, Ru.set_l, Ru.setL_e, Ru.setL_l, Ru.ret_e, Ru.ret_1, Ru.retV_e, Ru.retV_l, Ru.retV_d, Ru.frz_e, Ru.frz_l, Ru.sIte_e, Ru.sIte_t, Ru.sIte_f, Ru.for_e, Ru.for_1, Ru.for_nil, Ru.for_cons, Ru.fK_1, Ru.fK_nx, Ru.fK_rt, Ru.append_e, Ru.append_1, Ru.append_d, Ru.append_l, Ru.extend_e, Ru.extend_1, Ru.extend_l, Ru.pop_e, Ru.pop_1, Ru.setIx_e, Ru.setIx_d, Ru.setP_e, Ru.setP_d, Ru.setP_1, Ru.par_e, Ru.par_1, Ru.stup_e, Ru.stup_d, Ru.wK_t, Ru.wK_f, Ru.wK_nx, Ru.wK_rt, Ru.runB_f, Ru.runB_t, Ru.rb_f, Ru.rb_t, Ru.rb_n, Ru.lt_i, Ru.le_i, Ru.gt_i, Ru.ge_i, Ru.sub_i, Ru.add_i, Ru.add_s, Ru.add_t, Ru.add_l, Ru.mul_i, Ru.div_i, Ru.mod_i, Ru.neg_i, Ru.is_n, Ru.isNot_n, Ru.non_n, Ru.non_i, Ru.non_b, Ru.non_s, Ru.non_l, Ru.non_t, Ru.len_l, Ru.len_t, Ru.len_s, Ru.list_l, Ru.list_t, Ru.tuple_l, Ru.tuple_t, Ru.int_i, Ru.gsl_l, Ru.gsl_t, Ru.gsl_s, Ru.eq_s, Ru.eq_i, Ru.eq_b, Ru.ne_b, Ru.ne_s, Ru.ne_i, Ru.in_2, Ru.atI_0, Ru.atI_1, Ru.atI_2, Ru.ix_t, Ru.ix_l, Ru.cut_1, E.wipeS, Ru.bind_some, Option.bind_none, Ru.map_some, Option.map_none, List.getElem?_cons_zero, List.getElem?_cons_succ, List.set_cons_zero, List.set_cons_succ, List.length_cons, List.length_nil, List.map_cons, List.map_nil, List.replicate, List.cons_append, List.nil_append, hT', hl0, e1, cv]
      | _ => cases ht
    · obtain ⟨q, rfl⟩ := hp.some
      refine past q hp fun q' e => ?_
      cases e
      have hf : isTu x = false := by simpa using ht
      rw [hf] at hT
      simp [-Option.bind_some, -Option.map_some, Ru.c_e, Ru.v_e, Ru.v_d, Ru.rv_e, Ru.rv_d, Ru.rv_l, Ru.nil_e, Ru.cons_e, Ru.cons_d, Ru.cons_l, Ru.cons_2, Ru.tup_e, Ru.tup_d, Ru.lst_e, Ru.lst_d, Ru.rd_e, Ru.rd_d, Ru.rd_l, Ru.op_e, Ru.op_1, Ru.op_2, Ru.op_3, Ru.un_e, Ru.un_1, Ru.isi_e, Ru.ite_e, Ru.ite_t, Ru.ite_f, Ru.ofB_e, Ru.ofB_1, Ru.toB_e, Ru.toB_1, Ru.and_e, Ru.and_t, Ru.and_f, Ru.or_e, Ru.or_t, Ru.or_f, Ru.not_e, Ru.not_1, Ru.px_e, Ru.px_1, Ru.px_2, Ru.oN_e, Ru.oS_e, Ru.oS_1, Ru.sl_e, Ru.sl_1, Ru.sl_2, Ru.sl_3, Ru.sl3_e, Ru.tl_1, Ru.tl_2, Ru.tl_3, Ru.tl_4, Ru.call_e, Ru.call_1, Ru.call_2, Ru.callP_e, Ru.callP_1, Ru.callP_2, Ru.chain_e, Ru.ch_1, Ru.ch_2, Ru.ch_t, Ru.ch_f, Ru.iL_e, Ru.iL_d, Ru.iL_l, Ru.iT_e, Ru.iT_d, Ru.iR1_e, Ru.iR1_1, Ru.lR_e, Ru.lR_1, Ru.tN_e, Ru.tT_2, Ru.yes_e, Ru.lc_e, Ru.lc_1, Ru.lc_2, Ru.seq_e, Ru.seq_nx, Ru.seq_rt, Ru.nop_e, Ru.set_e, Ru.set_d, Ru.set_l, Ru.setL_e, Ru.setL_l, Ru.ret_e, Ru.ret_1, Ru.retV_e, Ru.retV_l, Ru.retV_d, Ru.frz_e, Ru.frz_l, Ru.sIte_e, Ru.sIte_t, Ru.sIte_f, Ru.for_e, Ru.for_1, Ru.for_nil, Ru.for_cons, Ru.fK_1, Ru.fK_nx, Ru.fK_rt, Ru.append_e, Ru.append_1, Ru.append_d, Ru.append_l, Ru.extend_e, Ru.extend_1, Ru.extend_l, Ru.pop_e, Ru.pop_1, Ru.setIx_e, Ru.setIx_d, Ru.setP_e, Ru.setP_d, Ru.setP_1, Ru.par_e, Ru.par_1, Ru.stup_e, Ru.stup_d, Ru.wK_t, Ru.wK_f, Ru.wK_nx, Ru.wK_rt, Ru.runB_f, Ru.runB_t, Ru.rb_f, Ru.rb_t, Ru.rb_n, Ru.lt_i, Ru.le_i, Ru.gt_i, Ru.ge_i, Ru.sub_i, Ru.add_i, Ru.add_s, Ru.add_t, Ru.add_l, Ru.mul_i, Ru.div_i, Ru.mod_i, Ru.neg_i, Ru.is_n, Ru.isNot_n, Ru.non_n, Ru.non_i, Ru.non_b, Ru.non_s, Ru.non_l, Ru.non_t, Ru.len_l, Ru.len_t, Ru.len_s, Ru.list_l, Ru.list_t, Ru.tuple_l, Ru.tuple_t, Ru.int_i, Ru.gsl_l, Ru.gsl_t, Ru.gsl_s, Ru.eq_s, Ru.eq_i, Ru.eq_b, Ru.ne_b, Ru.ne_s, Ru.ne_i, Ru.in_2, Ru.atI_0, Ru.atI_1, Ru.atI_2, Ru.ix_t, Ru.ix_l, Ru.cut_1, E.wipeS, Ru.bind_some, Option.bind_none, Ru.map_some, Option.map_none, List.getElem?_cons_zero, List.getElem?_cons_succ, List.set_cons_zero, List.set_cons_succ, List.length_cons, List.length_nil, List.map_cons, List.map_nil, List.replicate, List.cons_append, List.nil_append, hT]
end K1

/-! deedsagain k01: the same value; the text of a value. -/
namespace K1
open PySem PySem.Spec L2 Dg
open Dg.Ru (isI isB isS isTu isLi isT_int isT_bool isT_str isT_list isT_tuple)
set_option maxHeartbeats 0
def m_law_same : Nat → MF
  | 0 => fun _ _ => none
  | n + 1 => runB 3 false 2 (b_law_same (m_law_same n))
theorem upTo_get {xs : List D} {d : D} (h : d ∈ Ru.upTo xs.length) : ∃ (j : Nat) (hj : j < xs.length), d = .int (j : Int) := by
  obtain ⟨j, hj, rfl⟩ := List.mem_map.mp h
  exact ⟨j, List.mem_range.mp hj, rfl⟩
theorem atI_nat' {xs : List D} {j : Nat} (h : j < xs.length) : atI xs (j : Int) = some xs[j] := by
  have := atI_get (xs := xs) (v := (j : Int)) (by omega) (by omega)
  simpa using this
theorem same_lc {n : Nat} {y : D} {xs : List D} (hx : ∀ i : Int, gIx y (.int i) = (atI xs i).bind fun x => some (.d x)) (hs : xs.length ≤ 1000000) (ih : ∀ x ∈ xs, m_law_same n [x, x] none = some (.d (.bool true), none)) :
    E.lcL (E.tN 2) (E.not (E.toB (E.call (m_law_same n) (E.cons (E.op gIx (E.rv 0) (E.rv 2)) (E.cons (E.op gIx (E.rv 1) (E.rv 2)) E.nil))))) (E.v 2) [.d y, .d y, .un] (Ru.upTo xs.length) none [] = some ([], none) := by
  rw [Ru.lc_pure (fun _ => false) id _ []]
  · simp
  · intro d hd
    obtain ⟨j, hj, rfl⟩ := upTo_get hd
    refine ⟨_, rfl, ?_, fun z => by cases z⟩
    have e := atI_nat' hj
    have i := ih _ (List.getElem_mem hj)
    simp [-Option.bind_some, -Option.map_some, Ru.c_e, Ru.v_e, Ru.v_d, Ru.rv_e, Ru.rv_d, Ru.rv_l, Ru.nil_e, Ru.cons_e, Ru.cons_d, Ru.cons_l, Ru.cons_2, Ru.tup_e, Ru.tup_d, Ru.lst_e, Ru.lst_d, Ru.rd_e, Ru.rd_d, Ru.rd_l, Ru.op_e, Ru.op_1, Ru.op_2, Ru.op_3, Ru.un_e, Ru.un_1, Ru.isi_e, Ru.ite_e, Ru.ite_t, Ru.ite_f, Ru.ofB_e, Ru.ofB_1, Ru.toB_e, Ru.toB_1, Ru.and_e, Ru.and_t, Ru.and_f, Ru.or_e, Ru.or_t, Ru.or_f, Ru.not_e, Ru.not_1, Ru.px_e, Ru.px_1, Ru.px_2, Ru.oN_e, Ru.oS_e, Ru.oS_1, Ru.sl_e, Ru.sl_1, Ru.sl_2, Ru.sl_3, Ru.sl3_e, Ru.tl_1, Ru.tl_2, Ru.tl_3, Ru.tl_4, Ru.call_e, Ru.call_1, Ru.call_2, Ru.callP_e, Ru.callP_1, Ru.callP_2, Ru.chain_e, Ru.ch_1, Ru.ch_2, Ru.ch_t, Ru.ch_f, Ru.iL_e, Ru.iL_d, Ru.iL_l, Ru.iT_e, Ru.iT_d, Ru.iR1_e, Ru.iR1_1, Ru.lR_e, Ru.lR_1, Ru.tN_e, Ru.tT_2, Ru.yes_e, Ru.lc_e, Ru.lc_1, Ru.lc_2, Ru.seq_e, Ru.seq_nx, Ru.seq_rt, Ru.nop_e, Ru.set_e, Ru.set_d, Ru.set_l, Ru.setL_e, Ru.setL_l, Ru.ret_e, Ru.ret_1, Ru.retV_e, Ru.retV_l, Ru.retV_d, Ru.frz_e, Ru.frz_l, Ru.sIte_e, Ru.sIte_t, Ru.sIte_f, Ru.for_e, Ru.for_1, Ru.for_nil, Ru.for_cons, Ru.fK_1, Ru.fK_nx, Ru.fK_rt, Ru.append_e, Ru.append_1, Ru.append_d, Ru.append_l, Ru.extend_e, Ru.extend_1, Ru.extend_l, Ru.pop_e, Ru.pop_1, Ru.setIx_e, Ru.setIx_d, Ru.setP_e, Ru.setP_d, Ru.setP_1, Ru.par_e, Ru.par_1, Ru.stup_e, Ru.stup_d, Ru.wK_t, Ru.wK_f, Ru.wK_nx, Ru.wK_rt, Ru.runB_f, Ru.runB_t, Ru.rb_f, Ru.rb_t, Ru.rb_n, Ru.lt_i, Ru.le_i, Ru.gt_i, Ru.ge_i, Ru.sub_i, Ru.add_i, Ru.add_s, Ru.add_t, Ru.add_l, Ru.mul_i, Ru.div_i, Ru.mod_i, Ru.neg_i, Ru.is_n, Ru.isNot_n, Ru.non_n, Ru.non_i, Ru.non_b, Ru.non_s, Ru.non_l, Ru.non_t, Ru.len_l, Ru.len_t, Ru.len_s, Ru.list_l, Ru.list_t, Ru.tuple_l, Ru.tuple_t, Ru.int_i, Ru.gsl_l, Ru.gsl_t, Ru.gsl_s, Ru.eq_s, Ru.eq_i, Ru.eq_b, Ru.ne_b, Ru.ne_s, Ru.ne_i, Ru.in_2, Ru.atI_0, Ru.atI_1, Ru.atI_2, Ru.ix_t, Ru.ix_l, Ru.cut_1, E.wipeS, Ru.bind_some, Option.bind_none, Ru.map_some, Option.map_none, List.getElem?_cons_zero, List.getElem?_cons_succ, List.set_cons_zero, List.set_cons_succ, List.length_cons, List.length_nil, List.map_cons, List.map_nil, List.replicate, List.cons_append, List.nil_append, hx, e, i, -Ru.ix_t, -Ru.ix_l]
theorem e_same : ∀ (n : Nat) (x : D), x.plain = true → sz x ≤ 1000000 → x.depth < n → m_law_same n [x, x] none = some (.d (.bool true), none) := by
  intro n
  induction n with
  | zero => intro x _ _ h; omega
  | succ n ih =>
    intro x hp hs hd
    have hT := isT_tuple hp
    have hL := isT_list hp
    have hB := isT_bool hp
    have hI := isT_int hp
    have hS := isT_str hp
    cases x with
    | tuple xs =>
      have hT' : gIsT "tuple" (.tuple xs) = some (.d (.bool true)) := hT
      have hL' : gIsT "list" (.tuple xs) = some (.d (.bool false)) := hL
      simp only [sz] at hs
      have hlen := szAll_len xs
      have hpa : ∀ x ∈ xs, x.plain = true := plainAll_mem (by simpa [PyData.plain] using hp)
      have hlc := same_lc (n := n) (y := .tuple xs) (xs := xs) (fun i => Ru.ix_t) (by omega) fun x hx => ih x (hpa x hx) (by have := sz_mem hx; omega) (by
        have := depth_mem hx
        simp only [PyData.depth] at hd
        omega)
      have hr : Ru.iR1K ([.int (xs.length : Int)], none) = some (Ru.upTo xs.length, none) := by
        rw [Ru.iR1_1 (by omega) (by omega), Int.toNat_natCast]
      have hup : (Ru.upTo xs.length).length ≤ 16777216 := by
        unfold Ru.upTo
        rw [List.length_map, List.length_range]; omega
      simp [m_law_same, b_law_same, r1_law_same, -Option.bind_some, -Option.map_some, Ru.c_e, Ru.v_e, Ru.v_d, Ru.rv_e, Ru.rv_d, Ru.rv_l, Ru.nil_e, Ru.cons_e, Ru.cons_d, Ru.cons_l, Ru.cons_2, Ru.tup_e, Ru.tup_d, Ru.lst_e, Ru.lst_d, Ru.rd_e, Ru.rd_d, Ru.rd_l, Ru.op_e, Ru.op_1, Ru.op_2, Ru.op_3, Ru.un_e, Ru.un_1, Ru.isi_e, Ru.ite_e, Ru.ite_t, Ru.ite_f, Ru.ofB_e, Ru.ofB_1, Ru.toB_e, Ru.toB_1, Ru.and_e, Ru.and_t, Ru.and_f, Ru.or_e, Ru.or_t, Ru.or_f, Ru.not_e, Ru.not_1, Ru.px_e, Ru.px_1, Ru.px_2, Ru.oN_e, Ru.oS_e, Ru.oS_1, Ru.sl_e, Ru.sl_1, Ru.sl_2, Ru.sl_3, Ru.sl3_e, Ru.tl_1, Ru.tl_2, Ru.tl_3, Ru.tl_4, Ru.call_e, Ru.call_1, Ru.call_2, Ru.callP_e, Ru.callP_1, Ru.callP_2, Ru.chain_e, Ru.ch_1, Ru.ch_2, Ru.ch_t, Ru.ch_f, Ru.iL_e, Ru.iL_d, Ru.iL_l, Ru.iT_e, Ru.iT_d, Ru.iR1_e, Ru.iR1_1, Ru.lR_e, Ru.lR_1, Ru.tN_e, Ru.tT_2, Ru.yes_e, Ru.lc_e, Ru.lc_1, Ru.lc_2, Ru.seq_e, Ru.seq_nx, Ru.seq_rt, Ru.nop_e, Ru.set_e, Ru.set_d, Ru.set_l, Ru.setL_e, Ru.setL_l, Ru.ret_e, Ru.ret_1, Ru.retV_e, Ru.retV_l, Ru.retV_d, Ru.frz_e, Ru.frz_l, Ru.sIte_e, Ru.sIte_t, Ru.sIte_f, Ru.for_e, Ru.for_1, Ru.for_nil, Ru.for_cons, Ru.fK_1, Ru.fK_nx, Ru.fK_rt, Ru.append_e, Ru.append_1, Ru.append_d, Ru.append_l, Ru.extend_e, Ru.extend_1, Ru.extend_l, Ru.pop_e, Ru.pop_1, Ru.setIx_e, Ru.setIx_d, Ru.setP_e, Ru.setP_d, Ru.setP_1, Ru.par_e, Ru.par_1, Ru.stup_e, Ru.stup_d, Ru.wK_t, Ru.wK_f, Ru.wK_nx, Ru.wK_rt, Ru.runB_f, Ru.runB_t, Ru.rb_f, Ru.rb_t, Ru.rb_n, Ru.lt_i, Ru.le_i, Ru.gt_i, Ru.ge_i, Ru.sub_i, Ru.add_i, Ru.add_s, Ru.add_t, Ru.add_l, Ru.mul_i, Ru.div_i, Ru.mod_i, Ru.neg_i, Ru.is_n, Ru.isNot_n, Ru.non_n, Ru.non_i, Ru.non_b, Ru.non_s, Ru.non_l, Ru.non_t, Ru.len_l, Ru.len_t, Ru.len_s, Ru.list_l, Ru.list_t, Ru.tuple_l, Ru.tuple_t, Ru.int_i, Ru.gsl_l, Ru.gsl_t, Ru.gsl_s, Ru.eq_s, Ru.eq_i, Ru.eq_b, Ru.ne_b, Ru.ne_s, Ru.ne_i, Ru.in_2, Ru.atI_0, Ru.atI_1, Ru.atI_2, Ru.ix_t, Ru.ix_l, Ru.cut_1, E.wipeS, Ru.bind_some, Option.bind_none, Ru.map_some, Option.map_none, List.getElem?_cons_zero, List.getElem?_cons_succ, List.set_cons_zero, List.set_cons_succ, List.length_cons, List.length_nil, List.map_cons, List.map_nil, List.replicate, List.cons_append, List.nil_append, hT', hL', hr, hup, hlc, -Ru.iR1_1]
    | list xs =>
      have hT' : gIsT "tuple" (.list xs) = some (.d (.bool false)) := hT
      have hL' : gIsT "list" (.list xs) = some (.d (.bool true)) := hL
      simp only [sz] at hs
      have hlen := szAll_len xs
      have hpa : ∀ x ∈ xs, x.plain = true := plainAll_mem (by simpa [PyData.plain] using hp)
      have hlc := same_lc (n := n) (y := .list xs) (xs := xs) (fun i => Ru.ix_l) (by omega) fun x hx => ih x (hpa x hx) (by have := sz_mem hx; omega) (by
        have := depth_mem hx
        simp only [PyData.depth] at hd
        omega)
      have hr : Ru.iR1K ([.int (xs.length : Int)], none) = some (Ru.upTo xs.length, none) := by
        rw [Ru.iR1_1 (by omega) (by omega), Int.toNat_natCast]
      have hup : (Ru.upTo xs.length).length ≤ 16777216 := by
        unfold Ru.upTo
        rw [List.length_map, List.length_range]; omega
      simp [m_law_same, b_law_same, r1_law_same, -Option.bind_some, -Option.map_some, Ru.c_e, Ru.v_e, Ru.v_d, Ru.rv_e, Ru.rv_d, Ru.rv_l, Ru.nil_e, Ru.cons_e, Ru.cons_d, Ru.cons_l, Ru.cons_2, Ru.tup_e, Ru.tup_d, Ru.lst_e, Ru.lst_d, Ru.rd_e, Ru.rd_d, Ru.rd_l, Ru.op_e, Ru.op_1, Ru.op_2, Ru.op_3, Ru.un_e, Ru.un_1, Ru.isi_e, Ru.ite_e, Ru.ite_t, Ru.ite_f, Ru.ofB_e, Ru.ofB_1, Ru.toB_e, Ru.toB_1, Ru.and_e, Ru.and_t, Ru.and_f, Ru.or_e, Ru.or_t, Ru.or_f, Ru.not_e, Ru.not_1, Ru.px_e, Ru.px_1, Ru.px_2, Ru.oN_e, Ru.oS_e, Ru.oS_1, Ru.sl_e, Ru.sl_1, Ru.sl_2, Ru.sl_3, Ru.sl3_e, Ru.tl_1, Ru.tl_2, Ru.tl_3, Ru.tl_4, Ru.call_e, Ru.call_1, Ru.call_2, Ru.callP_e, Ru.callP_1, Ru.callP_2, Ru.chain_e, Ru.ch_1, Ru.ch_2, Ru.ch_t, Ru.ch_f, Ru.iL_e, Ru.iL_d, Ru.iL_l, Ru.iT_e, Ru.iT_d, Ru.iR1_e, Ru.iR1_1, Ru.lR_e, Ru.lR_1, Ru.tN_e, Ru.tT_2, Ru.yes_e, Ru.lc_e, Ru.lc_1, Ru.lc_2, Ru.seq_e, Ru.seq_nx, Ru.seq_rt, Ru.nop_e, Ru.set_e, Ru.set_d, Ru.set_l, Ru.setL_e, Ru.setL_l, Ru.ret_e, Ru.ret_1, Ru.retV_e, Ru.retV_l, Ru.retV_d, Ru.frz_e, Ru.frz_l, Ru.sIte_e, Ru.sIte_t, Ru.sIte_f, Ru.for_e, Ru.for_1, Ru.for_nil, Ru.for_cons, Ru.fK_1, Ru.fK_nx, Ru.fK_rt, Ru.append_e, Ru.append_1, Ru.append_d, Ru.append_l, Ru.extend_e, Ru.extend_1, Ru.extend_l, Ru.pop_e, Ru.pop_1, Ru.setIx_e, Ru.setIx_d, Ru.setP_e, Ru.setP_d, Ru.setP_1, Ru.par_e, Ru.par_1, Ru.stup_e, Ru.stup_d, Ru.wK_t, Ru.wK_f, Ru.wK_nx, Ru.wK_rt, Ru.runB_f, Ru.runB_t, Ru.rb_f, Ru.rb_t, Ru.rb_n, Ru.lt_i, Ru.le_i, Ru.gt_i, Ru.ge_i, Ru.sub_i, Ru.add_i, Ru.add_s, Ru.add_t, Ru.add_l, Ru.mul_i, Ru.div_i, Ru.mod_i, Ru.neg_i, Ru.is_n, Ru.isNot_n, Ru.non_n, Ru.non_i, Ru.non_b, Ru.non_s, Ru.non_l, Ru.non_t, Ru.len_l, Ru.len_t, Ru.len_s, Ru.list_l, Ru.list_t, Ru.tuple_l, Ru.tuple_t, Ru.int_i, Ru.gsl_l, Ru.gsl_t, Ru.gsl_s, Ru.eq_s, Ru.eq_i, Ru.eq_b, Ru.ne_b, Ru.ne_s, Ru.ne_i, Ru.in_2, Ru.atI_0, Ru.atI_1, Ru.atI_2, Ru.ix_t, Ru.ix_l, Ru.cut_1, E.wipeS, Ru.bind_some, Option.bind_none, Ru.map_some, Option.map_none, List.getElem?_cons_zero, List.getElem?_cons_succ, List.set_cons_zero, List.set_cons_succ, List.length_cons, List.length_nil, List.map_cons, List.map_nil, List.replicate, List.cons_append, List.nil_append, hT', hL', hr, hup, hlc, -Ru.iR1_1]
    | dict kvs => simp [PyData.plain] at hp
    | none => simp [m_law_same, b_law_same, r1_law_same, -Option.bind_some, -Option.map_some, Ru.c_e, Ru.v_e, Ru.v_d, Ru.rv_e, Ru.rv_d, Ru.rv_l, Ru.nil_e, Ru.cons_e, Ru.cons_d, Ru.cons_l, Ru.cons_2, Ru.tup_e, Ru.tup_d, Ru.lst_e, Ru.lst_d, Ru.rd_e, Ru.rd_d, Ru.rd_l, Ru.op_e, Ru.op_1, Ru.op_2, Ru.op_3, Ru.un_e, Ru.un_1, Ru.isi_e, Ru.ite_e, Ru.ite_t, Ru.ite_f, Ru.ofB_e, Ru.ofB_1, Ru.toB_e, Ru.toB_1, Ru.and_e, Ru.and_t, Ru.and_f, Ru.or_e, Ru.or_t, Ru.or_f, Ru.not_e, Ru.not_1, Ru.px_e, Ru.px_1, Ru.px_2, Ru.oN_e, Ru.oS_e, Ru.oS_1, Ru.sl_e, Ru.sl_1, Ru.sl_2, Ru.sl_3, Ru.sl3_e, Ru.tl_1, Ru.tl_2, Ru.tl_3, Ru.tl_4, Ru.call_e, Ru.call_1, Ru.call_2, Ru.callP_e, Ru.callP_1, Ru.callP_2, Ru.chain_e, Ru.ch_1, Ru.ch_2, Ru.ch_t, Ru.ch_f, Ru.iL_e, Ru.iL_d, Ru.iL_l, Ru.iT_e, Ru.iT_d, Ru.iR1_e, Ru.iR1_1, Ru.lR_e, Ru.lR_1, Ru.tN_e, Ru.tT_2, Ru.yes_e, Ru.lc_e, Ru.lc_1, Ru.lc_2, Ru.seq_e, Ru.seq_nx, Ru.seq_rt, Ru.nop_e, Ru.set_e, Ru.set_d, Ru.set_l, Ru.setL_e, Ru.setL_l, Ru.ret_e, Ru.ret_1, Ru.retV_e, Ru.retV_l, Ru.retV_d, Ru.frz_e, Ru.frz_l, Ru.sIte_e, Ru.sIte_t, Ru.sIte_f, Ru.for_e, Ru.for_1, Ru.for_nil, Ru.for_cons, Ru.fK_1, Ru.fK_nx, Ru.fK_rt, Ru.append_e, Ru.append_1, Ru.append_d, Ru.append_l, Ru.extend_e, Ru.extend_1, Ru.extend_l, Ru.pop_e, Ru.pop_1, Ru.setIx_e, Ru.setIx_d, Ru.setP_e, Ru.setP_d, Ru.setP_1, Ru.par_e, Ru.par_1, Ru.stup_e, Ru.stup_d, Ru.wK_t, Ru.wK_f, Ru.wK_nx, Ru.wK_rt, Ru.runB_f, Ru.runB_t, Ru.rb_f, Ru.rb_t, Ru.rb_n, Ru.lt_i, Ru.le_i, Ru.gt_i, Ru.ge_i, Ru.sub_i, Ru.add_i, Ru.add_s, Ru.add_t, Ru.add_l, Ru.mul_i, Ru.div_i, Ru.mod_i, Ru.neg_i, Ru.is_n, Ru.isNot_n, Ru.non_n, Ru.non_i, Ru.non_b, Ru.non_s, Ru.non_l, Ru.non_t, Ru.len_l, Ru.len_t, Ru.len_s, Ru.list_l, Ru.list_t, Ru.tuple_l, Ru.tuple_t, Ru.int_i, Ru.gsl_l, Ru.gsl_t, Ru.gsl_s, Ru.eq_s, Ru.eq_i, Ru.eq_b, Ru.ne_b, Ru.ne_s, Ru.ne_i, Ru.in_2, Ru.atI_0, Ru.atI_1, Ru.atI_2, Ru.ix_t, Ru.ix_l, Ru.cut_1, E.wipeS, Ru.bind_some, Option.bind_none, Ru.map_some, Option.map_none, List.getElem?_cons_zero, List.getElem?_cons_succ, List.set_cons_zero, List.set_cons_succ, List.length_cons, List.length_nil, List.map_cons, List.map_nil, List.replicate, List.cons_append, List.nil_append, hT, hL, isTu, isLi]
    | bool b => simp [m_law_same, b_law_same, r1_law_same, r2_law_same, -Option.bind_some, -Option.map_some, Ru.c_e, Ru.v_e, Ru.v_d, Ru.rv_e, Ru.rv_d, Ru.rv_l, Ru.nil_e, Ru.cons_e, Ru.cons_d, Ru.cons_l, Ru.cons_2, Ru.tup_e, Ru.tup_d, Ru.lst_e, Ru.lst_d, Ru.rd_e, Ru.rd_d, Ru.rd_l, Ru.op_e, Ru.op_1, Ru.op_2, Ru.op_3, Ru.un_e, Ru.un_1, Ru.isi_e, Ru.ite_e, Ru.ite_t, Ru.ite_f, Ru.ofB_e, Ru.ofB_1, Ru.toB_e, Ru.toB_1, Ru.and_e, Ru.and_t, Ru.and_f, Ru.or_e, Ru.or_t, Ru.or_f, Ru.not_e, Ru.not_1, Ru.px_e, Ru.px_1, Ru.px_2, Ru.oN_e, Ru.oS_e, Ru.oS_1, Ru.sl_e, Ru.sl_1, Ru.sl_2, Ru.sl_3, Ru.sl3_e, Ru.tl_1, Ru.tl_2, Ru.tl_3, Ru.tl_4, Ru.call_e, Ru.call_1, Ru.call_2, Ru.callP_e, Ru.callP_1, Ru.callP_2, Ru.chain_e, Ru.ch_1, Ru.ch_2, Ru.ch_t, Ru.ch_f, Ru.iL_e, Ru.iL_d, Ru.iL_l, Ru.iT_e, Ru.iT_d, Ru.iR1_e, Ru.iR1_1, Ru.lR_e, Ru.lR_1, Ru.tN_e, Ru.tT_2, Ru.yes_e, Ru.lc_e, Ru.lc_1, Ru.lc_2, Ru.seq_e, Ru.seq_nx, Ru.seq_rt, Ru.nop_e, Ru.set_e, Ru.set_d, Ru.set_l, Ru.setL_e, Ru.setL_l, Ru.ret_e, Ru.ret_1, Ru.retV_e, Ru.retV_l, Ru.retV_d, Ru.frz_e, Ru.frz_l, Ru.sIte_e, Ru.sIte_t, Ru.sIte_f, Ru.for_e, Ru.for_1, Ru.for_nil, Ru.for_cons, Ru.fK_1, Ru.fK_nx, Ru.fK_rt, Ru.append_e, Ru.append_1, Ru.append_d, Ru.append_l, Ru.extend_e, Ru.extend_1, Ru.extend_l, Ru.pop_e, Ru.pop_1, Ru.setIx_e, Ru.setIx_d, Ru.setP_e, Ru.setP_d, Ru.setP_1, Ru.par_e, Ru.par_1, Ru.stup_e, Ru.stup_d, Ru.wK_t, Ru.wK_f, Ru.wK_nx, Ru.wK_rt, Ru.runB_f, Ru.runB_t, Ru.rb_f, Ru.rb_t, Ru.rb_n, Ru.lt_i, Ru.le_i, Ru.gt_i, Ru.ge_i, Ru.sub_i, Ru.add_i, Ru.add_s, Ru.add_t, Ru.add_l, Ru.mul_i, Ru.div_i, Ru.mod_i, Ru.neg_i, Ru.is_n, Ru.isNot_n, Ru.non_n, Ru.non_i, Ru.non_b, Ru.non_s, Ru.non_l, Ru.non_t, Ru.len_l, Ru.len_t, Ru.len_s, Ru.list_l, Ru.list_t, Ru.tuple_l, Ru.tuple_t, Ru.int_i, Ru.gsl_l, Ru.gsl_t, Ru.gsl_s, Ru.eq_s, Ru.eq_i, Ru.eq_b, Ru.ne_b, Ru.ne_s, Ru.ne_i, Ru.in_2, Ru.atI_0, Ru.atI_1, Ru.atI_2, Ru.ix_t, Ru.ix_l, Ru.cut_1, E.wipeS, Ru.bind_some, Option.bind_none, Ru.map_some, Option.map_none, List.getElem?_cons_zero, List.getElem?_cons_succ, List.set_cons_zero, List.set_cons_succ, List.length_cons, List.length_nil, List.map_cons, List.map_nil, List.replicate, List.cons_append, List.nil_append, hT, hL, hB, isTu, isLi, isB]
    | int i => simp [m_law_same, b_law_same, r1_law_same, r2_law_same, r3_law_same, -Option.bind_some, -Option.map_some, Ru.c_e, Ru.v_e, Ru.v_d, Ru.rv_e, Ru.rv_d, Ru.rv_l, Ru.nil_e, Ru.cons_e, Ru.cons_d, Ru.cons_l, Ru.cons_2, Ru.tup_e, Ru.tup_d, Ru.lst_e, Ru.lst_d, Ru.rd_e, Ru.rd_d, Ru.rd_l, Ru.op_e, Ru.op_1, Ru.op_2, Ru.op_3, Ru.un_e, Ru.un_1, Ru.isi_e, Ru.ite_e, Ru.ite_t, Ru.ite_f, Ru.ofB_e, Ru.ofB_1, Ru.toB_e, Ru.toB_1, Ru.and_e, Ru.and_t, Ru.and_f, Ru.or_e, Ru.or_t, Ru.or_f, Ru.not_e, Ru.not_1, Ru.px_e, Ru.px_1, Ru.px_2, Ru.oN_e, Ru.oS_e, Ru.oS_1, Ru.sl_e, Ru.sl_1, Ru.sl_2, Ru.sl_3, Ru.sl3_e, Ru.tl_1, Ru.tl_2, Ru.tl_3, Ru.tl_4, Ru.call_e, Ru.call_1, Ru.call_2, Ru.callP_e, Ru.callP_1, Ru.callP_2, Ru.chain_e, Ru.ch_1, Ru.ch_2, Ru.ch_t, Ru.ch_f, Ru.iL_e, Ru.iL_d, Ru.iL_l, Ru.iT_e, Ru.iT_d, Ru.iR1_e, Ru.iR1_1, Ru.lR_e, Ru.lR_1, Ru.tN_e, Ru.tT_2, Ru.yes_e, Ru.lc_e, Ru.lc_1, Ru.lc_2, Ru.seq_e, Ru.seq_nx, Ru.seq_rt, Ru.nop_e, Ru.set_e, Ru.set_d, Ru.set_l, Ru.setL_e, Ru.setL_l, Ru.ret_e, Ru.ret_1, Ru.retV_e, Ru.retV_l, Ru.retV_d, Ru.frz_e, Ru.frz_l, Ru.sIte_e, Ru.sIte_t, Ru.sIte_f, Ru.for_e, Ru.for_1, Ru.for_nil, Ru.for_cons, Ru.fK_1, Ru.fK_nx, Ru.fK_rt, Ru.append_e, Ru.append_1, Ru.append_d, Ru.append_l, Ru.extend_e, Ru.extend_1, Ru.extend_l, Ru.pop_e, Ru.pop_1, Ru.setIx_e, Ru.setIx_d, Ru.setP_e, Ru.setP_d, Ru.setP_1, Ru.par_e, Ru.par_1, Ru.stup_e, Ru.stup_d, Ru.wK_t, Ru.wK_f, Ru.wK_nx, Ru.wK_rt, Ru.runB_f, Ru.runB_t, Ru.rb_f, Ru.rb_t, Ru.rb_n, Ru.lt_i, Ru.le_i, Ru.gt_i, Ru.ge_i, Ru.sub_i, Ru.add_i, Ru.add_s, Ru.add_t, Ru.add_l, Ru.mul_i, Ru.div_i, Ru.mod_i, Ru.neg_i, Ru.is_n, Ru.isNot_n, Ru.non_n, Ru.non_i, Ru.non_b, Ru.non_s, Ru.non_l, Ru.non_t, Ru.len_l, Ru.len_t, Ru.len_s, Ru.list_l, Ru.list_t, Ru.tuple_l, Ru.tuple_t, Ru.int_i, Ru.gsl_l, Ru.gsl_t, Ru.gsl_s, Ru.eq_s, Ru.eq_i, Ru.eq_b, Ru.ne_b, Ru.ne_s, Ru.ne_i, Ru.in_2, Ru.atI_0, Ru.atI_1, Ru.atI_2, Ru.ix_t, Ru.ix_l, Ru.cut_1, E.wipeS, Ru.bind_some, Option.bind_none, Ru.map_some, Option.map_none, List.getElem?_cons_zero, List.getElem?_cons_succ, List.set_cons_zero, List.set_cons_succ, List.length_cons, List.length_nil, List.map_cons, List.map_nil, List.replicate, List.cons_append, List.nil_append, hT, hL, hB, hI, isTu, isLi, isB, isI]
    | str s => simp [m_law_same, b_law_same, r1_law_same, r2_law_same, r3_law_same, r4_law_same, -Option.bind_some, -Option.map_some, Ru.c_e, Ru.v_e, Ru.v_d, Ru.rv_e, Ru.rv_d, Ru.rv_l, Ru.nil_e, Ru.cons_e, Ru.cons_d, Ru.cons_l, Ru.cons_2, Ru.tup_e, Ru.tup_d, Ru.lst_e, Ru.lst_d, Ru.rd_e, Ru.rd_d, Ru.rd_l, Ru.op_e, Ru.op_1, Ru.op_2, Ru.op_3, Ru.un_e, Ru.un_1, Ru.isi_e, Ru.ite_e, Ru.ite_t, Ru.ite_f, Ru.ofB_e, Ru.ofB_1, Ru.toB_e, Ru.toB_1, Ru.and_e, Ru.and_t, Ru.and_f, Ru.or_e, Ru.or_t, Ru.or_f, Ru.not_e, Ru.not_1, Ru.px_e, Ru.px_1, Ru.px_2, Ru.oN_e, Ru.oS_e, Ru.oS_1, Ru.sl_e, Ru.sl_1, Ru.sl_2, Ru.sl_3, Ru.sl3_e, Ru.tl_1, Ru.tl_2, Ru.tl_3, Ru.tl_4, Ru.call_e, Ru.call_1, Ru.call_2, Ru.callP_e, Ru.callP_1, Ru.callP_2, Ru.chain_e, Ru.ch_1, Ru.ch_2, Ru.ch_t, Ru.ch_f, Ru.iL_e, Ru.iL_d, Ru.iL_l, Ru.iT_e, Ru.iT_d, Ru.iR1_e, Ru.iR1_1, Ru.lR_e, Ru.lR_1, Ru.tN_e, Ru.tT_2, Ru.yes_e, Ru.lc_e, Ru.lc_1, Ru.lc_2, Ru.seq_e, Ru.seq_nx, Ru.seq_rt, Ru.nop_e, Ru.set_e, Ru.set_d, Ru.set_l, Ru.setL_e, Ru.setL_l, Ru.ret_e, Ru.ret_1, Ru.retV_e, Ru.retV_l, Ru.retV_d, Ru.frz_e, Ru.frz_l, Ru.sIte_e, Ru.sIte_t, Ru.sIte_f, Ru.for_e, Ru.for_1, Ru.for_nil, Ru.for_cons, Ru.fK_1, Ru.fK_nx, Ru.fK_rt, Ru.append_e, Ru.append_1, Ru.append_d, Ru.append_l, Ru.extend_e, Ru.extend_1, Ru.extend_l, Ru.pop_e, Ru.pop_1, Ru.setIx_e, Ru.setIx_d, Ru.setP_e, Ru.setP_d, Ru.setP_1, Ru.par_e, Ru.par_1, Ru.stup_e, Ru.stup_d, Ru.wK_t, Ru.wK_f, Ru.wK_nx, Ru.wK_rt, Ru.runB_f, Ru.runB_t, Ru.rb_f, Ru.rb_t, Ru.rb_n, Ru.lt_i, Ru.le_i, Ru.gt_i, Ru.ge_i, Ru.sub_i, Ru.add_i, Ru.add_s, Ru.add_t, Ru.add_l, Ru.mul_i, Ru.div_i, Ru.mod_i, Ru.neg_i, Ru.is_n, Ru.isNot_n, Ru.non_n, Ru.non_i, Ru.non_b, Ru.non_s, Ru.non_l, Ru.non_t, Ru.len_l, Ru.len_t, Ru.len_s, Ru.list_l, Ru.list_t, Ru.tuple_l, Ru.tuple_t, Ru.int_i, Ru.gsl_l, Ru.gsl_t, Ru.gsl_s, Ru.eq_s, Ru.eq_i, Ru.eq_b, Ru.ne_b, Ru.ne_s, Ru.ne_i, Ru.in_2, Ru.atI_0, Ru.atI_1, Ru.atI_2, Ru.ix_t, Ru.ix_l, Ru.cut_1, E.wipeS, Ru.bind_some, Option.bind_none, Ru.map_some, Option.map_none, List.getElem?_cons_zero, List.getElem?_cons_succ, List.set_cons_zero, List.set_cons_succ, List.length_cons, List.length_nil, List.map_cons, List.map_nil, List.replicate, List.cons_append, List.nil_append, hT, hL, hB, hI, hS, isTu, isLi, isB, isI, isS]
/-! ### repr -/
theorem piled_list (ts : List Str) : (listText ts).length ≤ piled ts + 2 := by
  cases ts with
  | nil => exact Nat.le_refl _
  | cons t r =>
    have h := textFrom_length_pos r 1 (("[" : Str) ++ (if (0 : Nat) > 0 then ", " else "" : String) ++ t) (Nat.succ_pos 0)
    have e : ((("[" : Str) ++ (if (0 : Nat) > 0 then ", " else "" : String) ++ t)).length = 1 + t.length := by
      rw [strLen_append, strLen_append]
      rfl
    have e2 : (listText (t :: r)).length = (textFrom 1 (("[" : Str) ++ (if (0 : Nat) > 0 then ", " else "" : String) ++ t) r).length + 1 := by
      show (textFrom 0 "[" (t :: r) ++ ("]" : Str)).length = _
      rw [strLen_append]
      rfl
    rw [e2, h, e, piled_cons]
    omega
theorem piled_tuple (ts : List Str) : (tupleText ts).length ≤ piled ts + 3 := by
  unfold tupleText
  rw [strLen_append, strLen_append]
  have e1 : ((("(" : String) : Str)).length = 1 := rfl
  have e3 : (((if ts.length == 1 then ",)" else ")" : String) : Str)).length ≤ 2 := by split <;> decide
  have e2 : (Str.join ", " ts).length ≤ piled ts := by
    cases ts with
    | nil => exact Nat.zero_le _
    | cons t r =>
      have := join_length_add (t :: r) (by simp)
      omega
  omega
theorem int_short : ∀ i : Int, -10 ≤ i → i ≤ 10 → (Str.ofString (toString i)).length ≤ 4 := by
  intro i h1 h2
  have key : ∀ n : Fin 21, (Str.ofString (toString ((n.1 : Int) - 10))).length ≤ 4 := by decide +kernel
  have := key ⟨(i + 10).toNat, by omega⟩
  have e : (((i + 10).toNat : Nat) : Int) - 10 = i := by omega
  simp only [e] at this
  exact this
theorem int_small : ∀ i : Int, -10 ≤ i → i ≤ 10 → i.natAbs.log2 < 1920 := by
  intro i h1 h2
  have key : ∀ n : Fin 11, n.1.log2 < 1920 := by decide +kernel
  exact key ⟨i.natAbs, by omega⟩
mutual
theorem gd_show : ∀ d : D, gd 10 d = true → d.showable = true ∧ d.hasDict = false ∧ d.shown.length + 4 ≤ 14 * sz d
  | .none, _ => ⟨by simp [PyData.showable], by simp [PyData.hasDict], by simp only [PyData.shown, sz]; decide⟩
  | .bool b, _ => ⟨by simp [PyData.showable], by simp [PyData.hasDict], by cases b <;> simp only [PyData.shown, sz] <;> decide⟩
  | .int i, h => by
    simp only [gd, decide_eq_true_eq] at h
    refine ⟨by simp only [PyData.showable, decide_eq_true_eq]; exact int_small i h.1 h.2, by simp [PyData.hasDict], ?_⟩
    have := int_short i h.1 h.2
    simp only [PyData.shown, sz]
    omega
  | .str s, h => by
    refine ⟨by simp [PyData.showable], by simp [PyData.hasDict], ?_⟩
    have := PySem.StrLaws.reprText_len s fun c hc => by
      simp only [gd, List.all_eq_true, decide_eq_true_eq] at h
      exact h c hc
    simp only [PyData.shown, sz]
    omega
  | .list xs, h => by
    obtain ⟨h1, h2, h3⟩ := gdAll_show xs (by simpa [gd] using h)
    have := piled_list (PyData.shownAll xs)
    refine ⟨by simpa [PyData.showable] using h1, by simpa [PyData.hasDict] using h2, ?_⟩
    simp only [PyData.shown, sz]
    omega
  | .tuple xs, h => by
    obtain ⟨h1, h2, h3⟩ := gdAll_show xs (by simpa [gd] using h)
    have := piled_tuple (PyData.shownAll xs)
    refine ⟨by simpa [PyData.showable] using h1, by simpa [PyData.hasDict] using h2, ?_⟩
    simp only [PyData.shown, sz]
    omega
  | .dict _, h => by simp [gd] at h
theorem gdAll_show : ∀ xs : List D, gdAll 10 xs = true → PyData.showableAll xs = true ∧ PyData.hasDictAll xs = false ∧ piled (PyData.shownAll xs) ≤ 14 * szAll xs
  | [], _ => ⟨by simp [PyData.showableAll], by simp [PyData.hasDictAll], by simp [PyData.shownAll, piled]⟩
  | x :: xs, h => by
    simp only [gdAll, Bool.and_eq_true] at h
    obtain ⟨a1, a2, a3⟩ := gd_show x h.1
    obtain ⟨b1, b2, b3⟩ := gdAll_show xs h.2
    refine ⟨by simp [PyData.showableAll, a1, b1], by simp [PyData.hasDictAll, a2, b2], ?_⟩
    simp only [PyData.shownAll, piled_cons, szAll]
    omega
end
theorem e_repr {d : D} (h : gd 10 d = true) (hs : sz d ≤ 100000) (hd : d.depth ≤ 60) : E.gRepr d = some (.d (.str d.shown)) := by
  obtain ⟨h1, h2, h3⟩ := gd_show d h
  unfold E.gRepr
  rw [if_pos ⟨h1, h2, by rw [sizeLine_eq]; omega, hd⟩]
end K1

/-! deedsagain k01: facts for the law. -/
namespace K1
open PySem PySem.Spec L2 Dg
open Dg.Ru (isI isB isS isTu isLi isT_int isT_bool isT_str isT_list isT_tuple)
set_option maxHeartbeats 0
/-! ### is_world -/
def inW : D → Bool
  | .int i => decide (1 ≤ i) && decide (i ≤ 3)
  | _ => false
def isW : D → Bool
  | .tuple [a, b] => inW a && inW b
  | _ => false
def m_is_world : MF := runB 2 false 1 (b_is_world m_is_whole)
theorem all_2 {a b : Bool} : gAll (.list [.bool a, .bool b]) = some (.d (.bool (a && b))) := by
  simp [gAll, boolsOf]
theorem e_is_world {x : D} (hp : x.plain = true) : m_is_world [x] none = some (.d (.bool (isW x)), none) := by
  have hT := isT_tuple hp
  by_cases ht : isTu x = true
  · cases x with
    | tuple xs =>
      have hT' : gIsT "tuple" (.tuple xs) = some (.d (.bool true)) := hT
      match xs, hp with
      | [], _ => simp [m_is_world, b_is_world, -Option.bind_some, -Option.map_some, Ru.c_e, Ru.v_e, Ru.v_d, Ru.rv_e, Ru.rv_d, Ru.rv_l, Ru.nil_e, Ru.cons_e, Ru.cons_d, Ru.cons_l, Ru.cons_2, Ru.tup_e, Ru.tup_d, Ru.lst_e, Ru.lst_d, Ru.rd_e, Ru.rd_d, Ru.rd_l, Ru.op_e, Ru.op_1, Ru.op_2, Ru.op_3, Ru.un_e, Ru.un_1, Ru.isi_e, Ru.ite_e, Ru.ite_t, Ru.ite_f, Ru.ofB_e, Ru.ofB_1, Ru.toB_e, Ru.toB_1, Ru.and_e, Ru.and_t, Ru.and_f, Ru.or_e, Ru.or_t, Ru.or_f, Ru.not_e, Ru.not_1, Ru.px_e, Ru.px_1, Ru.px_2, Ru.oN_e, Ru.oS_e, Ru.oS_1, Ru.sl_e, Ru.sl_1, Ru.sl_2, Ru.sl_3, Ru.sl3_e, Ru.tl_1, Ru.tl_2, Ru.tl_3, Ru.tl_4, Ru.call_e, Ru.call_1, Ru.call_2, Ru.callP_e, Ru.callP_1, Ru.callP_2, Ru.chain_e, Ru.ch_1, Ru.ch_2, Ru.ch_t, Ru.ch_f, Ru.iL_e, Ru.iL_d, Ru.iL_l, Ru.iT_e, Ru.iT_d, Ru.iR1_e, Ru.iR1_1, Ru.lR_e, Ru.lR_1, Ru.tN_e, Ru.tT_2, Ru.yes_e, Ru.lc_e, Ru.lc_1, Ru.lc_2, Ru.seq_e, Ru.seq_nx, Ru.seq_rt, Ru.nop_e, Ru.set_e, Ru.set_d, Ru.set_l, Ru.setL_e, Ru.setL_l, Ru.ret_e, Ru.ret_1, Ru.retV_e, Ru.retV_l, Ru.retV_d, Ru.frz_e, Ru.frz_l, Ru.sIte_e, Ru.sIte_t, Ru.sIte_f, Ru.for_e, Ru.for_1, Ru.for_nil, Ru.for_cons, Ru.fK_1, Ru.fK_nx, Ru.fK_rt, Ru.append_e, Ru.append_1, Ru.append_d, Ru.append_l, Ru.extend_e, Ru.extend_1, Ru.extend_l, Ru.pop_e, Ru.pop_1, Ru.setIx_e, Ru.setIx_d, Ru.setP_e, Ru.setP_d, Ru.setP_1, Ru.par_e, Ru.par_1, Ru.stup_e, Ru.stup_d, Ru.wK_t, Ru.wK_f, Ru.wK_nx, Ru.wK_rt, Ru.runB_f, Ru.runB_t, Ru.rb_f, Ru.rb_t, Ru.rb_n, Ru.lt_i, Ru.le_i, Ru.gt_i, Ru.ge_i, Ru.sub_i, Ru.add_i, Ru.add_s, Ru.add_t, Ru.add_l, Ru.mul_i, Ru.div_i, Ru.mod_i, Ru.neg_i, Ru.is_n, Ru.isNot_n, Ru.non_n, Ru.non_i, Ru.non_b, Ru.non_s, Ru.non_l, Ru.non_t, Ru.len_l, Ru.len_t, Ru.len_s, Ru.list_l, Ru.list_t, Ru.tuple_l, Ru.tuple_t, Ru.int_i, Ru.gsl_l, Ru.gsl_t, Ru.gsl_s, Ru.eq_s, Ru.eq_i, Ru.eq_b, Ru.ne_b, Ru.ne_s, Ru.ne_i, Ru.in_2, Ru.atI_0, Ru.atI_1, Ru.atI_2, Ru.ix_t, Ru.ix_l, Ru.cut_1, E.wipeS, Ru.bind_some, Option.bind_none, Ru.map_some, Option.map_none, List.getElem?_cons_zero, List.getElem?_cons_succ, List.set_cons_zero, List.set_cons_succ, List.length_cons, List.length_nil, List.map_cons, List.map_nil, List.replicate, List.cons_append, List.nil_append, hT', isW]
      | [a], _ => simp [m_is_world, b_is_world, -Option.bind_some, -Option.map_some, Ru.c_e, Ru.v_e, Ru.v_d, Ru.rv_e, Ru.rv_d, Ru.rv_l, Ru.nil_e, Ru.cons_e, Ru.cons_d, Ru.cons_l, Ru.cons_2, Ru.tup_e, Ru.tup_d, Ru.lst_e, Ru.lst_d, Ru.rd_e, Ru.rd_d, Ru.rd_l, Ru.op_e, Ru.op_1, Ru.op_2, Ru.op_3, Ru.un_e, Ru.un_1, Ru.isi_e, Ru.ite_e, Ru.ite_t, Ru.ite_f, Ru.ofB_e, Ru.ofB_1, Ru.toB_e, Ru.toB_1, Ru.and_e, Ru.and_t, Ru.and_f, Ru.or_e, Ru.or_t, Ru.or_f, Ru.not_e, Ru.not_1, Ru.px_e, Ru.px_1, Ru.px_2, Ru.oN_e, Ru.oS_e, Ru.oS_1, Ru.sl_e, Ru.sl_1, Ru.sl_2, Ru.sl_3, Ru.sl3_e, Ru.tl_1, Ru.tl_2, Ru.tl_3, Ru.tl_4, Ru.call_e, Ru.call_1, Ru.call_2, Ru.callP_e, Ru.callP_1, Ru.callP_2, Ru.chain_e, Ru.ch_1, Ru.ch_2, Ru.ch_t, Ru.ch_f, Ru.iL_e, Ru.iL_d, Ru.iL_l, Ru.iT_e, Ru.iT_d, Ru.iR1_e, Ru.iR1_1, Ru.lR_e, Ru.lR_1, Ru.tN_e, Ru.tT_2, Ru.yes_e, Ru.lc_e, Ru.lc_1, Ru.lc_2, Ru.seq_e, Ru.seq_nx, Ru.seq_rt, Ru.nop_e, Ru.set_e, Ru.set_d, Ru.set_l, Ru.setL_e, Ru.setL_l, Ru.ret_e, Ru.ret_1, Ru.retV_e, Ru.retV_l, Ru.retV_d, Ru.frz_e, Ru.frz_l, Ru.sIte_e, Ru.sIte_t, Ru.sIte_f, Ru.for_e, Ru.for_1, Ru.for_nil, Ru.for_cons, Ru.fK_1, Ru.fK_nx, Ru.fK_rt, Ru.append_e, Ru.append_1, Ru.append_d, Ru.append_l, Ru.extend_e, Ru.extend_1, Ru.extend_l, Ru.pop_e, Ru.pop_1, Ru.setIx_e, Ru.setIx_d, Ru.setP_e, Ru.setP_d, Ru.setP_1, Ru.par_e, Ru.par_1, Ru.stup_e, Ru.stup_d, Ru.wK_t, Ru.wK_f, Ru.wK_nx, Ru.wK_rt, Ru.runB_f, Ru.runB_t, Ru.rb_f, Ru.rb_t, Ru.rb_n, Ru.lt_i, Ru.le_i, Ru.gt_i, Ru.ge_i, Ru.sub_i, Ru.add_i, Ru.add_s, Ru.add_t, Ru.add_l, Ru.mul_i, Ru.div_i, Ru.mod_i, Ru.neg_i, Ru.is_n, Ru.isNot_n, Ru.non_n, Ru.non_i, Ru.non_b, Ru.non_s, Ru.non_l, Ru.non_t, Ru.len_l, Ru.len_t, Ru.len_s, Ru.list_l, Ru.list_t, Ru.tuple_l, Ru.tuple_t, Ru.int_i, Ru.gsl_l, Ru.gsl_t, Ru.gsl_s, Ru.eq_s, Ru.eq_i, Ru.eq_b, Ru.ne_b, Ru.ne_s, Ru.ne_i, Ru.in_2, Ru.atI_0, Ru.atI_1, Ru.atI_2, Ru.ix_t, Ru.ix_l, Ru.cut_1, E.wipeS, Ru.bind_some, Option.bind_none, Ru.map_some, Option.map_none, List.getElem?_cons_zero, List.getElem?_cons_succ, List.set_cons_zero, List.set_cons_succ, List.length_cons, List.length_nil, List.map_cons, List.map_nil, List.replicate, List.cons_append, List.nil_append, hT', isW]
      | [a, b], hp =>
        have hpa : a.plain = true ∧ b.plain = true := by
          simp only [PyData.plain, PyData.plainAll, Bool.and_true, Bool.and_eq_true] at hp
          exact hp
        have hlc := Ru.lc_map (t := E.tN 1) (c := E.yes) (f := E.ofB (E.and (E.toB (E.call m_is_whole (E.cons (E.v 1) E.nil))) (E.toB (E.chain gLe gLe (E.rd (E.c (.int 1))) (E.rv 1) (E.rd (E.c (.int 3))))))) (r := [.d (.tuple [a, b]), .un]) (p := none) (fun y => .bool (inW y)) [a, b] [] fun y hy => by
          have hy' : y.plain = true := by
            simp only [List.mem_cons, List.not_mem_nil, or_false] at hy
            rcases hy with rfl | rfl
            · exact hpa.1
            · exact hpa.2
          have hw := e_is_whole hy'
          refine ⟨_, rfl, rfl, .d (.bool (inW y)), ?_, rfl⟩
          cases y with
          | int i =>
            by_cases c1 : 1 ≤ i <;> by_cases c2 : i ≤ 3 <;> simp [-Option.bind_some, -Option.map_some, Ru.c_e, Ru.v_e, Ru.v_d, Ru.rv_e, Ru.rv_d, Ru.rv_l, Ru.nil_e, Ru.cons_e, Ru.cons_d, Ru.cons_l, Ru.cons_2, Ru.tup_e, Ru.tup_d, Ru.lst_e, Ru.lst_d, Ru.rd_e, Ru.rd_d, Ru.rd_l, Ru.op_e, Ru.op_1, Ru.op_2, Ru.op_3, Ru.un_e, Ru.un_1, Ru.isi_e, Ru.ite_e, Ru.ite_t, Ru.ite_f, Ru.ofB_e, Ru.ofB_1, Ru.toB_e, Ru.toB_1, Ru.and_e, Ru.and_t, Ru.and_f, Ru.or_e, Ru.or_t, Ru.or_f, Ru.not_e, Ru.not_1, Ru.px_e, Ru.px_1, Ru.px_2, Ru.oN_e, Ru.oS_e, Ru.oS_1, Ru.sl_e, Ru.sl_1, Ru.sl_2, Ru.sl_3, Ru.sl3_e, Ru.tl_1, Ru.tl_2, Ru.tl_3, Ru.tl_4, Ru.call_e, Ru.call_1, Ru.call_2, Ru.callP_e, Ru.callP_1, Ru.callP_2, Ru.chain_e, Ru.ch_1, Ru.ch_2, Ru.ch_t, Ru.ch_f, Ru.iL_e, Ru.iL_d, Ru.iL_l, Ru.iT_e, Ru.iT_d, Ru.iR1_e, Ru.iR1_1, Ru.lR_e, Ru.lR_1, Ru.tN_e, Ru.tT_2, Ru.yes_e, Ru.lc_e, Ru.lc_1, Ru.lc_2, Ru.seq_e, Ru.seq_nx, Ru.seq_rt, Ru.nop_e, Ru.set_e, Ru.set_d, Ru.set_l, Ru.setL_e, Ru.setL_l, Ru.ret_e, Ru.ret_1, Ru.retV_e, Ru.retV_l, Ru.retV_d, Ru.frz_e, Ru.frz_l, Ru.sIte_e, Ru.sIte_t, Ru.sIte_f, Ru.for_e, Ru.for_1, Ru.for_nil, Ru.for_cons, Ru.fK_1, Ru.fK_nx, Ru.fK_rt, Ru.append_e, Ru.append_1, Ru.append_d, Ru.append_l, Ru.extend_e, Ru.extend_1, Ru.extend_l, Ru.pop_e, Ru.pop_1, Ru.setIx_e, Ru.setIx_d, Ru.setP_e, Ru.setP_d, Ru.setP_1, Ru.par_e, Ru.par_1, Ru.stup_e, Ru.stup_d, Ru.wK_t, Ru.wK_f, Ru.wK_nx, Ru.wK_rt, Ru.runB_f, Ru.runB_t, Ru.rb_f, Ru.rb_t, Ru.rb_n, Ru.lt_i, Ru.le_i, Ru.gt_i, Ru.ge_i, Ru.sub_i, Ru.add_i, Ru.add_s, Ru.add_t, Ru.add_l, Ru.mul_i, Ru.div_i, Ru.mod_i, Ru.neg_i, Ru.is_n, Ru.isNot_n, Ru.non_n, Ru.non_i, Ru.non_b, Ru.non_s, Ru.non_l, Ru.non_t, Ru.len_l, Ru.len_t, Ru.len_s, Ru.list_l, Ru.list_t, Ru.tuple_l, Ru.tuple_t, Ru.int_i, Ru.gsl_l, Ru.gsl_t, Ru.gsl_s, Ru.eq_s, Ru.eq_i, Ru.eq_b, Ru.ne_b, Ru.ne_s, Ru.ne_i, Ru.in_2, Ru.atI_0, Ru.atI_1, Ru.atI_2, Ru.ix_t, Ru.ix_l, Ru.cut_1, E.wipeS, Ru.bind_some, Option.bind_none, Ru.map_some, Option.map_none, List.getElem?_cons_zero, List.getElem?_cons_succ, List.set_cons_zero, List.set_cons_succ, List.length_cons, List.length_nil, List.map_cons, List.map_nil, List.replicate, List.cons_append, List.nil_append, hw, isI, inW, c1, c2]
          | _ => simp [-Option.bind_some, -Option.map_some, Ru.c_e, Ru.v_e, Ru.v_d, Ru.rv_e, Ru.rv_d, Ru.rv_l, Ru.nil_e, Ru.cons_e, Ru.cons_d, Ru.cons_l, Ru.cons_2, Ru.tup_e, Ru.tup_d, Ru.lst_e, Ru.lst_d, Ru.rd_e, Ru.rd_d, Ru.rd_l, Ru.op_e, Ru.op_1, Ru.op_2, Ru.op_3, Ru.un_e, Ru.un_1, Ru.isi_e, Ru.ite_e, Ru.ite_t, Ru.ite_f, Ru.ofB_e, Ru.ofB_1, Ru.toB_e, Ru.toB_1, Ru.and_e, Ru.and_t, Ru.and_f, Ru.or_e, Ru.or_t, Ru.or_f, Ru.not_e, Ru.not_1, Ru.px_e, Ru.px_1, Ru.px_2, Ru.oN_e, Ru.oS_e, Ru.oS_1, Ru.sl_e, Ru.sl_1, Ru.sl_2, Ru.sl_3, Ru.sl3_e, Ru.tl_1, Ru.tl_2, Ru.tl_3, Ru.tl_4, Ru.call_e, Ru.call_1, Ru.call_2, Ru.callP_e, Ru.callP_1, Ru.callP_2, Ru.chain_e, Ru.ch_1, Ru.ch_2, Ru.ch_t, Ru.ch_f, Ru.iL_e, Ru.iL_d, Ru.iL_l, Ru.iT_e, Ru.iT_d, Ru.iR1_e, Ru.iR1_1, Ru.lR_e, Ru.lR_1, Ru.tN_e, Ru.tT_2, Ru.yes_e, Ru.lc_e, Ru.lc_1, Ru.lc_2, Ru.seq_e, Ru.seq_nx, Ru.seq_rt, Ru.nop_e, Ru.set_e, Ru.set_d, Ru.set_l, Ru.setL_e, Ru.setL_l, Ru.ret_e, Ru.ret_1, Ru.retV_e, Ru.retV_l, Ru.retV_d, Ru.frz_e, Ru.frz_l, Ru.sIte_e, Ru.sIte_t, Ru.sIte_f, Ru.for_e, Ru.for_1, Ru.for_nil, Ru.for_cons, Ru.fK_1, Ru.fK_nx, Ru.fK_rt, Ru.append_e, Ru.append_1, Ru.append_d, Ru.append_l, Ru.extend_e, Ru.extend_1, Ru.extend_l, Ru.pop_e, Ru.pop_1, Ru.setIx_e, Ru.setIx_d, Ru.setP_e, Ru.setP_d, Ru.setP_1, Ru.par_e, Ru.par_1, Ru.stup_e, Ru.stup_d, Ru.wK_t, Ru.wK_f, Ru.wK_nx, Ru.wK_rt, Ru.runB_f, Ru.runB_t, Ru.rb_f, Ru.rb_t, Ru.rb_n, Ru.lt_i, Ru.le_i, Ru.gt_i, Ru.ge_i, Ru.sub_i, Ru.add_i, Ru.add_s, Ru.add_t, Ru.add_l, Ru.mul_i, Ru.div_i, Ru.mod_i, Ru.neg_i, Ru.is_n, Ru.isNot_n, Ru.non_n, Ru.non_i, Ru.non_b, Ru.non_s, Ru.non_l, Ru.non_t, Ru.len_l, Ru.len_t, Ru.len_s, Ru.list_l, Ru.list_t, Ru.tuple_l, Ru.tuple_t, Ru.int_i, Ru.gsl_l, Ru.gsl_t, Ru.gsl_s, Ru.eq_s, Ru.eq_i, Ru.eq_b, Ru.ne_b, Ru.ne_s, Ru.ne_i, Ru.in_2, Ru.atI_0, Ru.atI_1, Ru.atI_2, Ru.ix_t, Ru.ix_l, Ru.cut_1, E.wipeS, Ru.bind_some, Option.bind_none, Ru.map_some, Option.map_none, List.getElem?_cons_zero, List.getElem?_cons_succ, List.set_cons_zero, List.set_cons_succ, List.length_cons, List.length_nil, List.map_cons, List.map_nil, List.replicate, List.cons_append, List.nil_append, hw, isI, inW]
        simp at hlc
        simp [m_is_world, b_is_world, -Option.bind_some, -Option.map_some, Ru.c_e, Ru.v_e, Ru.v_d, Ru.rv_e, Ru.rv_d, Ru.rv_l, Ru.nil_e, Ru.cons_e, Ru.cons_d, Ru.cons_l, Ru.cons_2, Ru.tup_e, Ru.tup_d, Ru.lst_e, Ru.lst_d, Ru.rd_e, Ru.rd_d, Ru.rd_l, Ru.op_e, Ru.op_1, Ru.op_2, Ru.op_3, Ru.un_e, Ru.un_1, Ru.isi_e, Ru.ite_e, Ru.ite_t, Ru.ite_f, Ru.ofB_e, Ru.ofB_1, Ru.toB_e, Ru.toB_1, Ru.and_e, Ru.and_t, Ru.and_f, Ru.or_e, Ru.or_t, Ru.or_f, Ru.not_e, Ru.not_1, Ru.px_e, Ru.px_1, Ru.px_2, Ru.oN_e, Ru.oS_e, Ru.oS_1, Ru.sl_e, Ru.sl_1, Ru.sl_2, Ru.sl_3, Ru.sl3_e, Ru.tl_1, Ru.tl_2, Ru.tl_3, Ru.tl_4, Ru.call_e, Ru.call_1, Ru.call_2, Ru.callP_e, Ru.callP_1, Ru.callP_2, Ru.chain_e, Ru.ch_1, Ru.ch_2, Ru.ch_t, Ru.ch_f, Ru.iL_e, Ru.iL_d, Ru.iL_l, Ru.iT_e, Ru.iT_d, Ru.iR1_e, Ru.iR1_1, Ru.lR_e, Ru.lR_1, Ru.tN_e, Ru.tT_2, Ru.yes_e, Ru.lc_e, Ru.lc_1, Ru.lc_2, Ru.seq_e, Ru.seq_nx, Ru.seq_rt, Ru.nop_e, Ru.set_e, Ru.set_d, Ru.set_l, Ru.setL_e, Ru.setL_l, Ru.ret_e, Ru.ret_1, Ru.retV_e, Ru.retV_l, Ru.retV_d, Ru.frz_e, Ru.frz_l, Ru.sIte_e, Ru.sIte_t, Ru.sIte_f, Ru.for_e, Ru.for_1, Ru.for_nil, Ru.for_cons, Ru.fK_1, Ru.fK_nx, Ru.fK_rt, Ru.append_e, Ru.append_1, Ru.append_d, Ru.append_l, Ru.extend_e, Ru.extend_1, Ru.extend_l, Ru.pop_e, Ru.pop_1, Ru.setIx_e, Ru.setIx_d, Ru.setP_e, Ru.setP_d, Ru.setP_1, Ru.par_e, Ru.par_1, Ru.stup_e, Ru.stup_d, Ru.wK_t, Ru.wK_f, Ru.wK_nx, Ru.wK_rt, Ru.runB_f, Ru.runB_t, Ru.rb_f, Ru.rb_t, Ru.rb_n, Ru.lt_i, Ru.le_i, Ru.gt_i, Ru.ge_i, Ru.sub_i, Ru.add_i, Ru.add_s, Ru.add_t, Ru.add_l, Ru.mul_i, Ru.div_i, Ru.mod_i, Ru.neg_i, Ru.is_n, Ru.isNot_n, Ru.non_n, Ru.non_i, Ru.non_b, Ru.non_s, Ru.non_l, Ru.non_t, Ru.len_l, Ru.len_t, Ru.len_s, Ru.list_l, Ru.list_t, Ru.tuple_l, Ru.tuple_t, Ru.int_i, Ru.gsl_l, Ru.gsl_t, Ru.gsl_s, Ru.eq_s, Ru.eq_i, Ru.eq_b, Ru.ne_b, Ru.ne_s, Ru.ne_i, Ru.in_2, Ru.atI_0, Ru.atI_1, Ru.atI_2, Ru.ix_t, Ru.ix_l, Ru.cut_1, E.wipeS, Ru.bind_some, Option.bind_none, Ru.map_some, Option.map_none, List.getElem?_cons_zero, List.getElem?_cons_succ, List.set_cons_zero, List.set_cons_succ, List.length_cons, List.length_nil, List.map_cons, List.map_nil, List.replicate, List.cons_append, List.nil_append, hT', isW, hlc, all_2]
      | a :: b :: c :: r, _ =>
        have l2 : ((r.length : Int) + 1 + 1 + 1 == 2) = false := beq_false_of_ne (by omega)
        simp [m_is_world, b_is_world, -Option.bind_some, -Option.map_some, Ru.c_e, Ru.v_e, Ru.v_d, Ru.rv_e, Ru.rv_d, Ru.rv_l, Ru.nil_e, Ru.cons_e, Ru.cons_d, Ru.cons_l, Ru.cons_2, Ru.tup_e, Ru.tup_d, Ru.lst_e, Ru.lst_d, Ru.rd_e, Ru.rd_d, Ru.rd_l, Ru.op_e, Ru.op_1, Ru.op_2, Ru.op_3, Ru.un_e, Ru.un_1, Ru.isi_e, Ru.ite_e, Ru.ite_t, Ru.ite_f, Ru.ofB_e, Ru.ofB_1, Ru.toB_e, Ru.toB_1, Ru.and_e, Ru.and_t, Ru.and_f, Ru.or_e, Ru.or_t, Ru.or_f, Ru.not_e, Ru.not_1, Ru.px_e, Ru.px_1, Ru.px_2, Ru.oN_e, Ru.oS_e, Ru.oS_1, Ru.sl_e, Ru.sl_1, Ru.sl_2, Ru.sl_3, Ru.sl3_e, Ru.tl_1, Ru.tl_2, Ru.tl_3, Ru.tl_4, Ru.call_e, Ru.call_1, Ru.call_2, Ru.callP_e, Ru.callP_1, Ru.callP_2, Ru.chain_e, Ru.ch_1, Ru.ch_2, Ru.ch_t, Ru.ch_f, Ru.iL_e, Ru.iL_d, Ru.iL_l, Ru.iT_e, Ru.iT_d, Ru.iR1_e, Ru.iR1_1, Ru.lR_e, Ru.lR_1, Ru.tN_e, Ru.tT_2, Ru.yes_e, Ru.lc_e, Ru.lc_1, Ru.lc_2, Ru.seq_e, Ru.seq_nx, Ru.seq_rt, Ru.nop_e, Ru.set_e, Ru.set_d, Ru.set_l, Ru.setL_e, Ru.setL_l, Ru.ret_e, Ru.ret_1, Ru.retV_e, Ru.retV_l, Ru.retV_d, Ru.frz_e, Ru.frz_l, Ru.sIte_e, Ru.sIte_t, Ru.sIte_f, Ru.for_e, Ru.for_1, Ru.for_nil, Ru.for_cons, Ru.fK_1, Ru.fK_nx, Ru.fK_rt, Ru.append_e, Ru.append_1, Ru.append_d, Ru.append_l, Ru.extend_e, Ru.extend_1, Ru.extend_l, Ru.pop_e, Ru.pop_1, Ru.setIx_e, Ru.setIx_d, Ru.setP_e, Ru.setP_d, Ru.setP_1, Ru.par_e, Ru.par_1, Ru.stup_e, Ru.stup_d, Ru.wK_t, Ru.wK_f, Ru.wK_nx, Ru.wK_rt, Ru.runB_f, Ru.runB_t, Ru.rb_f, Ru.rb_t, Ru.rb_n, Ru.lt_i, Ru.le_i, Ru.gt_i, Ru.ge_i, Ru.sub_i, Ru.add_i, Ru.add_s, Ru.add_t, Ru.add_l, Ru.mul_i, Ru.div_i, Ru.mod_i, Ru.neg_i, Ru.is_n, Ru.isNot_n, Ru.non_n, Ru.non_i, Ru.non_b, Ru.non_s, Ru.non_l, Ru.non_t, Ru.len_l, Ru.len_t, Ru.len_s, Ru.list_l, Ru.list_t, Ru.tuple_l, Ru.tuple_t, Ru.int_i, Ru.gsl_l, Ru.gsl_t, Ru.gsl_s, Ru.eq_s, Ru.eq_i, Ru.eq_b, Ru.ne_b, Ru.ne_s, Ru.ne_i, Ru.in_2, Ru.atI_0, Ru.atI_1, Ru.atI_2, Ru.ix_t, Ru.ix_l, Ru.cut_1, E.wipeS, Ru.bind_some, Option.bind_none, Ru.map_some, Option.map_none, List.getElem?_cons_zero, List.getElem?_cons_succ, List.set_cons_zero, List.set_cons_succ, List.length_cons, List.length_nil, List.map_cons, List.map_nil, List.replicate, List.cons_append, List.nil_append, hT', isW, l2]
    | _ => cases ht
  · have hf : isTu x = false := by simpa using ht
    have hw : isW x = false := by
      unfold isW
      split
      · cases hf
      · rfl
    rw [hf] at hT
    simp [m_is_world, b_is_world, -Option.bind_some, -Option.map_some, Ru.c_e, Ru.v_e, Ru.v_d, Ru.rv_e, Ru.rv_d, Ru.rv_l, Ru.nil_e, Ru.cons_e, Ru.cons_d, Ru.cons_l, Ru.cons_2, Ru.tup_e, Ru.tup_d, Ru.lst_e, Ru.lst_d, Ru.rd_e, Ru.rd_d, Ru.rd_l, Ru.op_e, Ru.op_1, Ru.op_2, Ru.op_3, Ru.un_e, Ru.un_1, Ru.isi_e, Ru.ite_e, Ru.ite_t, Ru.ite_f, Ru.ofB_e, Ru.ofB_1, Ru.toB_e, Ru.toB_1, Ru.and_e, Ru.and_t, Ru.and_f, Ru.or_e, Ru.or_t, Ru.or_f, Ru.not_e, Ru.not_1, Ru.px_e, Ru.px_1, Ru.px_2, Ru.oN_e, Ru.oS_e, Ru.oS_1, Ru.sl_e, Ru.sl_1, Ru.sl_2, Ru.sl_3, Ru.sl3_e, Ru.tl_1, Ru.tl_2, Ru.tl_3, Ru.tl_4, Ru.call_e, Ru.call_1, Ru.call_2, Ru.callP_e, Ru.callP_1, Ru.callP_2, Ru.chain_e, Ru.ch_1, Ru.ch_2, Ru.ch_t, Ru.ch_f, Ru.iL_e, Ru.iL_d, Ru.iL_l, Ru.iT_e, Ru.iT_d, Ru.iR1_e, Ru.iR1_1, Ru.lR_e, Ru.lR_1, Ru.tN_e, Ru.tT_2, Ru.yes_e, Ru.lc_e, Ru.lc_1, Ru.lc_2, Ru.seq_e, Ru.seq_nx, Ru.seq_rt, Ru.nop_e, Ru.set_e, Ru.set_d, Ru.set_l, Ru.setL_e, Ru.setL_l, Ru.ret_e, Ru.ret_1, Ru.retV_e, Ru.retV_l, Ru.retV_d, Ru.frz_e, Ru.frz_l, Ru.sIte_e, Ru.sIte_t, Ru.sIte_f, Ru.for_e, Ru.for_1, Ru.for_nil, Ru.for_cons, Ru.fK_1, Ru.fK_nx, Ru.fK_rt, Ru.append_e, Ru.append_1, Ru.append_d, Ru.append_l, Ru.extend_e, Ru.extend_1, Ru.extend_l, Ru.pop_e, Ru.pop_1, Ru.setIx_e, Ru.setIx_d, Ru.setP_e, Ru.setP_d, Ru.setP_1, Ru.par_e, Ru.par_1, Ru.stup_e, Ru.stup_d, Ru.wK_t, Ru.wK_f, Ru.wK_nx, Ru.wK_rt, Ru.runB_f, Ru.runB_t, Ru.rb_f, Ru.rb_t, Ru.rb_n, Ru.lt_i, Ru.le_i, Ru.gt_i, Ru.ge_i, Ru.sub_i, Ru.add_i, Ru.add_s, Ru.add_t, Ru.add_l, Ru.mul_i, Ru.div_i, Ru.mod_i, Ru.neg_i, Ru.is_n, Ru.isNot_n, Ru.non_n, Ru.non_i, Ru.non_b, Ru.non_s, Ru.non_l, Ru.non_t, Ru.len_l, Ru.len_t, Ru.len_s, Ru.list_l, Ru.list_t, Ru.tuple_l, Ru.tuple_t, Ru.int_i, Ru.gsl_l, Ru.gsl_t, Ru.gsl_s, Ru.eq_s, Ru.eq_i, Ru.eq_b, Ru.ne_b, Ru.ne_s, Ru.ne_i, Ru.in_2, Ru.atI_0, Ru.atI_1, Ru.atI_2, Ru.ix_t, Ru.ix_l, Ru.cut_1, E.wipeS, Ru.bind_some, Option.bind_none, Ru.map_some, Option.map_none, List.getElem?_cons_zero, List.getElem?_cons_succ, List.set_cons_zero, List.set_cons_succ, List.length_cons, List.length_nil, List.map_cons, List.map_nil, List.replicate, List.cons_append, List.nil_append, hT, hw]
/-! ### encoded conditions -/
theorem enc_tuple : ∀ c : C, ∃ l, c.enc = .tuple l
  | .no => ⟨_, rfl⟩
  | .yes => ⟨_, rfl⟩
  | .test _ => ⟨_, rfl⟩
  | .neg _ => ⟨_, rfl⟩
  | .and _ _ => ⟨_, rfl⟩
  | .or _ _ => ⟨_, rfl⟩
theorem nm_gd {k : Int} : gd k (.str "no") = true ∧ gd k (.str "yes") = true ∧ gd k (.str "test") = true ∧ gd k (.str "not") = true ∧ gd k (.str "and") = true ∧ gd k (.str "or") = true ∧ gd k (.str "xor") = true := by
  simp only [gd]
  decide +kernel
theorem nm_sz : sz (.str "no") = 3 ∧ sz (.str "yes") = 4 ∧ sz (.str "test") = 5 ∧ sz (.str "not") = 4 ∧ sz (.str "and") = 4 ∧ sz (.str "or") = 3 ∧ sz (.str "xor") = 4 := ⟨rfl, rfl, rfl, rfl, rfl, rfl, rfl⟩
theorem gdt1 {k : Int} {a : D} (h1 : gd k a = true) : gd k (.tuple [a]) = true := gd_tuple.mpr fun y hy => by
  simp only [List.mem_cons, List.not_mem_nil, or_false] at hy
  rw [hy]; exact h1
theorem gdt2 {k : Int} {a b : D} (h1 : gd k a = true) (h2 : gd k b = true) : gd k (.tuple [a, b]) = true := gd_tuple.mpr fun y hy => by
  simp only [List.mem_cons, List.not_mem_nil, or_false] at hy
  rcases hy with rfl | rfl <;> assumption
theorem gdt3 {k : Int} {a b c : D} (h1 : gd k a = true) (h2 : gd k b = true) (h3 : gd k c = true) : gd k (.tuple [a, b, c]) = true := gd_tuple.mpr fun y hy => by
  simp only [List.mem_cons, List.not_mem_nil, or_false] at hy
  rcases hy with rfl | rfl | rfl <;> assumption
theorem gdi {k i : Int} (h : -k ≤ i ∧ i ≤ k) : gd k (.int i) = true := by simpa only [gd, decide_eq_true_eq] using h
theorem enc_gd {d : Nat} (h3 : d ≤ 3) : ∀ c : C, c.ok d = true → gd 3 c.enc = true
  | .no, _ => gdt1 nm_gd.1
  | .yes, _ => gdt1 nm_gd.2.1
  | .test i, h => gdt2 nm_gd.2.2.1 (gdi (by simp only [C.ok, decide_eq_true_eq] at h; omega))
  | .neg c, h => gdt2 nm_gd.2.2.2.1 (enc_gd h3 c h)
  | .and a b, h => by
    simp only [C.ok, Bool.and_eq_true] at h
    exact gdt3 nm_gd.2.2.2.2.1 (enc_gd h3 a h.1) (enc_gd h3 b h.2)
  | .or a b, h => by
    simp only [C.ok, Bool.and_eq_true] at h
    exact gdt3 nm_gd.2.2.2.2.2.1 (enc_gd h3 a h.1) (enc_gd h3 b h.2)
theorem enc_sz : ∀ c : C, sz c.enc + 5 ≤ 12 * 2 ^ c.dep
  | .no => by decide
  | .yes => by decide
  | .test i => by simp only [C.enc, sz, szAll, nm_sz, C.dep]; decide
  | .neg c => by
    have := enc_sz c
    have h1 := nm_sz.2.2.2.1
    simp only [C.enc, C.dep]
    rw [Nat.pow_succ]
    show szAll [_, _] + 1 + 5 ≤ _
    simp only [szAll]
    rw [h1]
    omega
  | .and a b => by
    have i1 := enc_sz a
    have i2 := enc_sz b
    have h1 := nm_sz.2.2.2.2.1
    have p1 : 2 ^ a.dep ≤ 2 ^ max a.dep b.dep := Nat.pow_le_pow_right (by decide) (Nat.le_max_left _ _)
    have p2 : 2 ^ b.dep ≤ 2 ^ max a.dep b.dep := Nat.pow_le_pow_right (by decide) (Nat.le_max_right _ _)
    simp only [C.enc, C.dep]
    rw [Nat.pow_succ]
    show szAll [_, _, _] + 1 + 5 ≤ _
    simp only [szAll]
    rw [h1]
    omega
  | .or a b => by
    have i1 := enc_sz a
    have i2 := enc_sz b
    have h1 := nm_sz.2.2.2.2.2.1
    have p1 : 2 ^ a.dep ≤ 2 ^ max a.dep b.dep := Nat.pow_le_pow_right (by decide) (Nat.le_max_left _ _)
    have p2 : 2 ^ b.dep ≤ 2 ^ max a.dep b.dep := Nat.pow_le_pow_right (by decide) (Nat.le_max_right _ _)
    simp only [C.enc, C.dep]
    rw [Nat.pow_succ]
    show szAll [_, _, _] + 1 + 5 ≤ _
    simp only [szAll]
    rw [h1]
    omega
theorem enc_depth : ∀ c : C, c.enc.depth ≤ c.dep
  | .no => Nat.le_refl _
  | .yes => Nat.le_refl _
  | .test _ => Nat.le_refl _
  | .neg c => by
    have := enc_depth c
    simp only [C.enc, PyData.depth, PyData.depthAll, C.dep]
    omega
  | .and a b => by
    have := enc_depth a
    have := enc_depth b
    simp only [C.enc, PyData.depth, PyData.depthAll, C.dep]
    omega
  | .or a b => by
    have := enc_depth a
    have := enc_depth b
    simp only [C.enc, PyData.depth, PyData.depthAll, C.dep]
    omega
theorem ne_self {x : D} (hp : x.plain = true) (hd : x.depth ≤ 60) : gNe x x = some (.d (.bool false)) := by
  unfold gNe
  rw [PySem.SeqAt.eqv_refl_plain x hp, Nat.min_self, if_pos (by simp [hd])]
  rfl
/-! ### sorted(set(..)) -/
theorem ints_of (l : List Nat) : ∀ g : List D, (∀ y ∈ g, y ∈ intsN l) → ∃ ns : List Int, g = ns.map .int
  | [], _ => ⟨[], rfl⟩
  | x :: g, h => by
    obtain ⟨ns, rfl⟩ := ints_of l g fun y hy => h y (by simp [hy])
    obtain ⟨a, _, rfl⟩ := List.mem_map.mp (h x (by simp))
    exact ⟨(a : Int) :: ns, rfl⟩
theorem usort_of {l : List Nat} {ns : List Int} (hp : l.Pairwise (· < ·)) (hm : ∀ y : D, y ∈ ns.map PyData.int ↔ y ∈ intsN l) : (usort ns).map PyData.int = intsN l := by
  have e : usort ns = l.map fun (n : Nat) => (n : Int) := by
    refine asc_unique (usort_pw ns) (List.pairwise_map.mpr (hp.imp fun h => by omega)) fun j => ?_
    rw [mem_usort]
    have h1 : j ∈ ns ↔ PyData.int j ∈ ns.map PyData.int := by simp
    rw [h1, hm]
    simp only [intsN, List.mem_map, PyData.int.injEq]
  rw [e]
  simp [intsN]
theorem sset_t {l : List Nat} {g : List D} (hp : l.Pairwise (· < ·)) (hm : ∀ y, y ∈ g ↔ y ∈ intsN l) (hl : g.length < 63) : E.gSset (.tuple g) = some (.l (intsN l)) := by
  obtain ⟨ns, rfl⟩ := ints_of l g fun y hy => (hm y).mp hy
  simp only [List.length_map] at hl
  simp only [E.gSset, intsOf_map, Option.bind_some]
  rw [if_pos hl, usort_of hp hm]
theorem sset_l {l : List Nat} {g : List D} (hp : l.Pairwise (· < ·)) (hm : ∀ y, y ∈ g ↔ y ∈ intsN l) (hl : g.length < 63) : E.gSset (.list g) = some (.l (intsN l)) := by
  obtain ⟨ns, rfl⟩ := ints_of l g fun y hy => (hm y).mp hy
  simp only [List.length_map] at hl
  simp only [E.gSset, intsOf_map, Option.bind_some]
  rw [if_pos hl, usort_of hp hm]
theorem AT_pw {d : Nat} {l : List Nat} (h : l.Sublist (AT d)) : l.Pairwise (· < ·) := List.Pairwise.sublist h List.pairwise_lt_range
/-! ### the pool is made -/
def m_law_pool : List Int → Option RV := runS 3 b_law_pool
theorem pool_for {ns : List Int} : ∀ (js : List Int) (v : Int) (s : Sl), ∃ v' s', S.forL (E.tN 2) f1_law_pool (js.map .int) ⟨[.s ns, .d (.int v), s], none⟩ = some (.nx ⟨[.s ns, .d (.int v'), s'], none⟩)
  | [], v, s => ⟨v, s, by simp [-Option.bind_some, -Option.map_some, Ru.c_e, Ru.v_e, Ru.v_d, Ru.rv_e, Ru.rv_d, Ru.rv_l, Ru.nil_e, Ru.cons_e, Ru.cons_d, Ru.cons_l, Ru.cons_2, Ru.tup_e, Ru.tup_d, Ru.lst_e, Ru.lst_d, Ru.rd_e, Ru.rd_d, Ru.rd_l, Ru.op_e, Ru.op_1, Ru.op_2, Ru.op_3, Ru.un_e, Ru.un_1, Ru.isi_e, Ru.ite_e, Ru.ite_t, Ru.ite_f, Ru.ofB_e, Ru.ofB_1, Ru.toB_e, Ru.toB_1, Ru.and_e, Ru.and_t, Ru.and_f, Ru.or_e, Ru.or_t, Ru.or_f, Ru.not_e, Ru.not_1, Ru.px_e, Ru.px_1, Ru.px_2, Ru.oN_e, Ru.oS_e, Ru.oS_1, Ru.sl_e, Ru.sl_1, Ru.sl_2, Ru.sl_3, Ru.sl3_e, Ru.tl_1, Ru.tl_2, Ru.tl_3, Ru.tl_4, Ru.call_e, Ru.call_1, Ru.call_2, Ru.callP_e, Ru.callP_1, Ru.callP_2, Ru.chain_e, Ru.ch_1, Ru.ch_2, Ru.ch_t, Ru.ch_f, Ru.iL_e, Ru.iL_d, Ru.iL_l, Ru.iT_e, Ru.iT_d, Ru.iR1_e, Ru.iR1_1, Ru.lR_e, Ru.lR_1, Ru.tN_e, Ru.tT_2, Ru.yes_e, Ru.lc_e, Ru.lc_1, Ru.lc_2, Ru.seq_e, Ru.seq_nx, Ru.seq_rt, Ru.nop_e, Ru.set_e, Ru.set_d, Ru.set_l, Ru.setL_e, Ru.setL_l, Ru.ret_e, Ru.ret_1, Ru.retV_e, Ru.retV_l, Ru.retV_d, Ru.frz_e, Ru.frz_l, Ru.sIte_e, Ru.sIte_t, Ru.sIte_f, Ru.for_e, Ru.for_1, Ru.for_nil, Ru.for_cons, Ru.fK_1, Ru.fK_nx, Ru.fK_rt, Ru.append_e, Ru.append_1, Ru.append_d, Ru.append_l, Ru.extend_e, Ru.extend_1, Ru.extend_l, Ru.pop_e, Ru.pop_1, Ru.setIx_e, Ru.setIx_d, Ru.setP_e, Ru.setP_d, Ru.setP_1, Ru.par_e, Ru.par_1, Ru.stup_e, Ru.stup_d, Ru.wK_t, Ru.wK_f, Ru.wK_nx, Ru.wK_rt, Ru.runB_f, Ru.runB_t, Ru.rb_f, Ru.rb_t, Ru.rb_n, Ru.lt_i, Ru.le_i, Ru.gt_i, Ru.ge_i, Ru.sub_i, Ru.add_i, Ru.add_s, Ru.add_t, Ru.add_l, Ru.mul_i, Ru.div_i, Ru.mod_i, Ru.neg_i, Ru.is_n, Ru.isNot_n, Ru.non_n, Ru.non_i, Ru.non_b, Ru.non_s, Ru.non_l, Ru.non_t, Ru.len_l, Ru.len_t, Ru.len_s, Ru.list_l, Ru.list_t, Ru.tuple_l, Ru.tuple_t, Ru.int_i, Ru.gsl_l, Ru.gsl_t, Ru.gsl_s, Ru.eq_s, Ru.eq_i, Ru.eq_b, Ru.ne_b, Ru.ne_s, Ru.ne_i, Ru.in_2, Ru.atI_0, Ru.atI_1, Ru.atI_2, Ru.ix_t, Ru.ix_l, Ru.cut_1, E.wipeS, Ru.bind_some, Option.bind_none, Ru.map_some, Option.map_none, List.getElem?_cons_zero, List.getElem?_cons_succ, List.set_cons_zero, List.set_cons_succ, List.length_cons, List.length_nil, List.map_cons, List.map_nil, List.replicate, List.cons_append, List.nil_append]⟩
  | j :: js, v, s => by
    have hb : f1_law_pool ⟨[.s ns, .d (.int v), .d (.int j)], none⟩ = some (.nx ⟨[.s ns, .d (.int ((v * 31 + j) % 1000003)), .d (.int j)], none⟩) := by
      simp [f1_law_pool, -Option.bind_some, -Option.map_some, Ru.c_e, Ru.v_e, Ru.v_d, Ru.rv_e, Ru.rv_d, Ru.rv_l, Ru.nil_e, Ru.cons_e, Ru.cons_d, Ru.cons_l, Ru.cons_2, Ru.tup_e, Ru.tup_d, Ru.lst_e, Ru.lst_d, Ru.rd_e, Ru.rd_d, Ru.rd_l, Ru.op_e, Ru.op_1, Ru.op_2, Ru.op_3, Ru.un_e, Ru.un_1, Ru.isi_e, Ru.ite_e, Ru.ite_t, Ru.ite_f, Ru.ofB_e, Ru.ofB_1, Ru.toB_e, Ru.toB_1, Ru.and_e, Ru.and_t, Ru.and_f, Ru.or_e, Ru.or_t, Ru.or_f, Ru.not_e, Ru.not_1, Ru.px_e, Ru.px_1, Ru.px_2, Ru.oN_e, Ru.oS_e, Ru.oS_1, Ru.sl_e, Ru.sl_1, Ru.sl_2, Ru.sl_3, Ru.sl3_e, Ru.tl_1, Ru.tl_2, Ru.tl_3, Ru.tl_4, Ru.call_e, Ru.call_1, Ru.call_2, Ru.callP_e, Ru.callP_1, Ru.callP_2, Ru.chain_e, Ru.ch_1, Ru.ch_2, Ru.ch_t, Ru.ch_f, Ru.iL_e, Ru.iL_d, Ru.iL_l, Ru.iT_e, Ru.iT_d, Ru.iR1_e, Ru.iR1_1, Ru.lR_e, Ru.lR_1, Ru.tN_e, Ru.tT_2, Ru.yes_e, Ru.lc_e, Ru.lc_1, Ru.lc_2, Ru.seq_e, Ru.seq_nx, Ru.seq_rt, Ru.nop_e, Ru.set_e, Ru.set_d, Ru.set_l, Ru.setL_e, Ru.setL_l, Ru.ret_e, Ru.ret_1, Ru.retV_e, Ru.retV_l, Ru.retV_d, Ru.frz_e, Ru.frz_l, Ru.sIte_e, Ru.sIte_t, Ru.sIte_f, Ru.for_e, Ru.for_1, Ru.for_nil, Ru.for_cons, Ru.fK_1, Ru.fK_nx, Ru.fK_rt, Ru.append_e, Ru.append_1, Ru.append_d, Ru.append_l, Ru.extend_e, Ru.extend_1, Ru.extend_l, Ru.pop_e, Ru.pop_1, Ru.setIx_e, Ru.setIx_d, Ru.setP_e, Ru.setP_d, Ru.setP_1, Ru.par_e, Ru.par_1, Ru.stup_e, Ru.stup_d, Ru.wK_t, Ru.wK_f, Ru.wK_nx, Ru.wK_rt, Ru.runB_f, Ru.runB_t, Ru.rb_f, Ru.rb_t, Ru.rb_n, Ru.lt_i, Ru.le_i, Ru.gt_i, Ru.ge_i, Ru.sub_i, Ru.add_i, Ru.add_s, Ru.add_t, Ru.add_l, Ru.mul_i, Ru.div_i, Ru.mod_i, Ru.neg_i, Ru.is_n, Ru.isNot_n, Ru.non_n, Ru.non_i, Ru.non_b, Ru.non_s, Ru.non_l, Ru.non_t, Ru.len_l, Ru.len_t, Ru.len_s, Ru.list_l, Ru.list_t, Ru.tuple_l, Ru.tuple_t, Ru.int_i, Ru.gsl_l, Ru.gsl_t, Ru.gsl_s, Ru.eq_s, Ru.eq_i, Ru.eq_b, Ru.ne_b, Ru.ne_s, Ru.ne_i, Ru.in_2, Ru.atI_0, Ru.atI_1, Ru.atI_2, Ru.ix_t, Ru.ix_l, Ru.cut_1, E.wipeS, Ru.bind_some, Option.bind_none, Ru.map_some, Option.map_none, List.getElem?_cons_zero, List.getElem?_cons_succ, List.set_cons_zero, List.set_cons_succ, List.length_cons, List.length_nil, List.map_cons, List.map_nil, List.replicate, List.cons_append, List.nil_append]
    obtain ⟨v', s', ih⟩ := pool_for js ((v * 31 + j) % 1000003) (.d (.int j))
    refine ⟨v', s', ?_⟩
    rw [List.map_cons, Ru.for_cons]
    simp only [Ru.tN_e, Ru.bind_some, Ru.fK_1, List.set_cons_succ, List.set_cons_zero, hb, Ru.fK_nx]
    exact ih
theorem e_pool (ns : List Int) : ∃ xs, VP (some xs) ∧ m_law_pool ns = some (.l xs) := by
  obtain ⟨v', s', h⟩ := pool_for (ns := ns) (cutA ns none (some 63)) 7 .un
  refine ⟨PL ns 0 0 0 v', ⟨ns, 0, 0, 0, v', Int.le_refl 0, rfl⟩, ?_⟩
  have h1 : E.scT 0 63 ⟨[.s ns, .d (.int 7), .un], none⟩ = some (.l ((cutA ns none (some 63)).map .int), none) := rfl
  have h2 : E.scL 0 ⟨[.s ns, .d (.int v'), s'], none⟩ = some (.l (ns.map .int), none) := rfl
  have e0 : b_law_pool ⟨[.s ns, .un, .un], none⟩ = some (.rt (.l (PL ns 0 0 0 v')) none) := by
    simp [b_law_pool, -Option.bind_some, -Option.map_some, Ru.c_e, Ru.v_e, Ru.v_d, Ru.rv_e, Ru.rv_d, Ru.rv_l, Ru.nil_e, Ru.cons_e, Ru.cons_d, Ru.cons_l, Ru.cons_2, Ru.tup_e, Ru.tup_d, Ru.lst_e, Ru.lst_d, Ru.rd_e, Ru.rd_d, Ru.rd_l, Ru.op_e, Ru.op_1, Ru.op_2, Ru.op_3, Ru.un_e, Ru.un_1, Ru.isi_e, Ru.ite_e, Ru.ite_t, Ru.ite_f, Ru.ofB_e, Ru.ofB_1, Ru.toB_e, Ru.toB_1, Ru.and_e, Ru.and_t, Ru.and_f, Ru.or_e, Ru.or_t, Ru.or_f, Ru.not_e, Ru.not_1, Ru.px_e, Ru.px_1, Ru.px_2, Ru.oN_e, Ru.oS_e, Ru.oS_1, Ru.sl_e, Ru.sl_1, Ru.sl_2, Ru.sl_3, Ru.sl3_e, Ru.tl_1, Ru.tl_2, Ru.tl_3, Ru.tl_4, Ru.call_e, Ru.call_1, Ru.call_2, Ru.callP_e, Ru.callP_1, Ru.callP_2, Ru.chain_e, Ru.ch_1, Ru.ch_2, Ru.ch_t, Ru.ch_f, Ru.iL_e, Ru.iL_d, Ru.iL_l, Ru.iT_e, Ru.iT_d, Ru.iR1_e, Ru.iR1_1, Ru.lR_e, Ru.lR_1, Ru.tN_e, Ru.tT_2, Ru.yes_e, Ru.lc_e, Ru.lc_1, Ru.lc_2, Ru.seq_e, Ru.seq_nx, Ru.seq_rt, Ru.nop_e, Ru.set_e, Ru.set_d, Ru.set_l, Ru.setL_e, Ru.setL_l, Ru.ret_e, Ru.ret_1, Ru.retV_e, Ru.retV_l, Ru.retV_d, Ru.frz_e, Ru.frz_l, Ru.sIte_e, Ru.sIte_t, Ru.sIte_f, Ru.for_e, Ru.for_1, Ru.for_nil, Ru.for_cons, Ru.fK_1, Ru.fK_nx, Ru.fK_rt, Ru.append_e, Ru.append_1, Ru.append_d, Ru.append_l, Ru.extend_e, Ru.extend_1, Ru.extend_l, Ru.pop_e, Ru.pop_1, Ru.setIx_e, Ru.setIx_d, Ru.setP_e, Ru.setP_d, Ru.setP_1, Ru.par_e, Ru.par_1, Ru.stup_e, Ru.stup_d, Ru.wK_t, Ru.wK_f, Ru.wK_nx, Ru.wK_rt, Ru.runB_f, Ru.runB_t, Ru.rb_f, Ru.rb_t, Ru.rb_n, Ru.lt_i, Ru.le_i, Ru.gt_i, Ru.ge_i, Ru.sub_i, Ru.add_i, Ru.add_s, Ru.add_t, Ru.add_l, Ru.mul_i, Ru.div_i, Ru.mod_i, Ru.neg_i, Ru.is_n, Ru.isNot_n, Ru.non_n, Ru.non_i, Ru.non_b, Ru.non_s, Ru.non_l, Ru.non_t, Ru.len_l, Ru.len_t, Ru.len_s, Ru.list_l, Ru.list_t, Ru.tuple_l, Ru.tuple_t, Ru.int_i, Ru.gsl_l, Ru.gsl_t, Ru.gsl_s, Ru.eq_s, Ru.eq_i, Ru.eq_b, Ru.ne_b, Ru.ne_s, Ru.ne_i, Ru.in_2, Ru.atI_0, Ru.atI_1, Ru.atI_2, Ru.ix_t, Ru.ix_l, Ru.cut_1, E.wipeS, Ru.bind_some, Option.bind_none, Ru.map_some, Option.map_none, List.getElem?_cons_zero, List.getElem?_cons_succ, List.set_cons_zero, List.set_cons_succ, List.length_cons, List.length_nil, List.map_cons, List.map_nil, List.replicate, List.cons_append, List.nil_append, h1, h, h2]
  unfold m_law_pool runS
  show (b_law_pool ⟨[.s ns, .un, .un], none⟩).bind _ = _
  rw [e0]
  rfl
end K1

/-! deedsagain k01: the law. -/
namespace K1
open PySem PySem.Spec L2 Dg
open Dg.Ru (isI isB isS isTu isLi isT_int isT_bool isT_str isT_list isT_tuple)
set_option maxHeartbeats 0
def Gv (x : D) : Prop := gd 10 x = true ∧ sz x ≤ 3000 ∧ x.depth ≤ 55
section
variable {d t : Nat} {s0 s1 s2 s3 s4 s5 s6 s7 s8 s9 s10 s11 s12 s13 s14 s15 : Sl} {p : Pl}
/-! ### the last loop -/
theorem f1_ok {x : D} (h : Gv x) : f1_law m_law_pool m_law_world (m_condition_of 20) (m_law_condition 6) (m_law_same 30) (m_same_condition 20) m_law_pick m_law_atoms (m_law_holds 20) m_law_shuffled m_is_condition (m_atoms_where 20) (m_law_bent 60) m_is_world m_atoms_of m_law_draw (m_holds 20) (m_law_is_condition 45) m_law_is_integer ⟨[s0, s1, .d (W d t), .d x, s4, s5, s6, s7, s8, s9, s10, s11, s12, s13, s14, s15], p⟩ = some (.nx ⟨[s0, s1, .d (W d t), .d x, s4, s5, s6, s7, s8, s9, s10, s11, s12, .d (.str x.shown), s14, s15], p⟩) := by
  have hp := gd_plain x h.1
  have h1 := e_repr h.1 (by have := h.2.1; omega) (by have := h.2.2; omega)
  have h2 := e_is_condition (d := (d : Int)) (t := (t : Int)) hp (by have := h.2.1; omega)
  have h3 : m_law_is_condition 45 [W d t, x, .int 1] none = some (.d (.bool (vC d 40 x)), none) := e_law_is_condition 45 x 1 hp (by decide)
  have h4 := e_same 30 (.bool (vC d 40 x)) rfl (Nat.le_of_ble_eq_true rfl) (Nat.zero_lt_succ _)
  simp [f1_law, -Option.bind_some, -Option.map_some, Ru.c_e, Ru.v_e, Ru.v_d, Ru.rv_e, Ru.rv_d, Ru.rv_l, Ru.nil_e, Ru.cons_e, Ru.cons_d, Ru.cons_l, Ru.cons_2, Ru.tup_e, Ru.tup_d, Ru.lst_e, Ru.lst_d, Ru.rd_e, Ru.rd_d, Ru.rd_l, Ru.op_e, Ru.op_1, Ru.op_2, Ru.op_3, Ru.un_e, Ru.un_1, Ru.isi_e, Ru.ite_e, Ru.ite_t, Ru.ite_f, Ru.ofB_e, Ru.ofB_1, Ru.toB_e, Ru.toB_1, Ru.and_e, Ru.and_t, Ru.and_f, Ru.or_e, Ru.or_t, Ru.or_f, Ru.not_e, Ru.not_1, Ru.px_e, Ru.px_1, Ru.px_2, Ru.oN_e, Ru.oS_e, Ru.oS_1, Ru.sl_e, Ru.sl_1, Ru.sl_2, Ru.sl_3, Ru.sl3_e, Ru.tl_1, Ru.tl_2, Ru.tl_3, Ru.tl_4, Ru.call_e, Ru.call_1, Ru.call_2, Ru.callP_e, Ru.callP_1, Ru.callP_2, Ru.chain_e, Ru.ch_1, Ru.ch_2, Ru.ch_t, Ru.ch_f, Ru.iL_e, Ru.iL_d, Ru.iL_l, Ru.iT_e, Ru.iT_d, Ru.iR1_e, Ru.iR1_1, Ru.lR_e, Ru.lR_1, Ru.tN_e, Ru.tT_2, Ru.yes_e, Ru.lc_e, Ru.lc_1, Ru.lc_2, Ru.seq_e, Ru.seq_nx, Ru.seq_rt, Ru.nop_e, Ru.set_e, Ru.set_d, Ru.set_l, Ru.setL_e, Ru.setL_l, Ru.ret_e, Ru.ret_1, Ru.retV_e, Ru.retV_l, Ru.retV_d, Ru.frz_e, Ru.frz_l, Ru.sIte_e, Ru.sIte_t, Ru.sIte_f, Ru.for_e, Ru.for_1, Ru.for_nil, Ru.for_cons, Ru.fK_1, Ru.fK_nx, Ru.fK_rt, Ru.append_e, Ru.append_1, Ru.append_d, Ru.append_l, Ru.extend_e, Ru.extend_1, Ru.extend_l, Ru.pop_e, Ru.pop_1, Ru.setIx_e, Ru.setIx_d, Ru.setP_e, Ru.setP_d, Ru.setP_1, Ru.par_e, Ru.par_1, Ru.stup_e, Ru.stup_d, Ru.wK_t, Ru.wK_f, Ru.wK_nx, Ru.wK_rt, Ru.runB_f, Ru.runB_t, Ru.rb_f, Ru.rb_t, Ru.rb_n, Ru.lt_i, Ru.le_i, Ru.gt_i, Ru.ge_i, Ru.sub_i, Ru.add_i, Ru.add_s, Ru.add_t, Ru.add_l, Ru.mul_i, Ru.div_i, Ru.mod_i, Ru.neg_i, Ru.is_n, Ru.isNot_n, Ru.non_n, Ru.non_i, Ru.non_b, Ru.non_s, Ru.non_l, Ru.non_t, Ru.len_l, Ru.len_t, Ru.len_s, Ru.list_l, Ru.list_t, Ru.tuple_l, Ru.tuple_t, Ru.int_i, Ru.gsl_l, Ru.gsl_t, Ru.gsl_s, Ru.eq_s, Ru.eq_i, Ru.eq_b, Ru.ne_b, Ru.ne_s, Ru.ne_i, Ru.in_2, Ru.atI_0, Ru.atI_1, Ru.atI_2, Ru.ix_t, Ru.ix_l, Ru.cut_1, E.wipeS, Ru.bind_some, Option.bind_none, Ru.map_some, Option.map_none, List.getElem?_cons_zero, List.getElem?_cons_succ, List.set_cons_zero, List.set_cons_succ, List.length_cons, List.length_nil, List.map_cons, List.map_nil, List.replicate, List.cons_append, List.nil_append, h1, h2, h3, h4]
theorem loop1 : ∀ (xs : List D) (s3 s13 : Sl), (∀ x ∈ xs, Gv x) → ∃ s3' s13', S.forL (E.tN 3) (f1_law m_law_pool m_law_world (m_condition_of 20) (m_law_condition 6) (m_law_same 30) (m_same_condition 20) m_law_pick m_law_atoms (m_law_holds 20) m_law_shuffled m_is_condition (m_atoms_where 20) (m_law_bent 60) m_is_world m_atoms_of m_law_draw (m_holds 20) (m_law_is_condition 45) m_law_is_integer) xs ⟨[s0, s1, .d (W d t), s3, s4, s5, s6, s7, s8, s9, s10, s11, s12, s13, s14, s15], p⟩ = some (.nx ⟨[s0, s1, .d (W d t), s3', s4, s5, s6, s7, s8, s9, s10, s11, s12, s13', s14, s15], p⟩)
  | [], s3, s13, _ => ⟨s3, s13, rfl⟩
  | x :: xs, s3, s13, h => by
    obtain ⟨s3', s13', ih⟩ := loop1 xs (.d x) (.d (.str x.shown)) fun y hy => h y (by simp [hy])
    refine ⟨s3', s13', ?_⟩
    rw [Ru.for_cons]
    simp only [Ru.tN_e, Ru.bind_some, Ru.fK_1, List.set_cons_succ, List.set_cons_zero]
    rw [f1_ok (h x (by simp))]
    simp only [Ru.bind_some, Ru.fK_nx]
    exact ih
theorem bents {x : D} (hg : gd 3 x = true) (hs : sz x ≤ 900) (hd : x.depth ≤ 50) : ∀ (ds acc : List D) (p : Pl), VP p → ∃ (out : List D) (p' : Pl), VP p' ∧ (∀ y ∈ out, Gv y) ∧ out.length = ds.length ∧
    E.lcL (E.tN 11) E.yes (E.callP 1 (m_law_bent 60) (E.cons (E.v 5) E.nil)) [s0, .pool, s2, s3, s4, .d x, s6, s7, s8, s9, s10, .un, s12, s13, s14, s15] ds p acc = some (acc ++ out, p')
  | [], acc, p, hp => ⟨[], p, hp, by simp, rfl, by simp [E.lcL]⟩
  | e :: ds, acc, p, hp => by
    obtain ⟨r, p1, hp1, ⟨y, hy1, hy2, hy3, hy4⟩, e1⟩ := e_bent (k := 3) (by decide) 60 x hg (by omega) (by omega) hp
    obtain ⟨out, p2, hp2, ho, hl, ih⟩ := bents hg hs hd ds (acc ++ [y]) p1 hp1
    refine ⟨y :: out, p2, hp2, ?_, by simp [hl], ?_⟩
    · intro z hz
      rcases List.mem_cons.mp hz with rfl | hz
      · exact ⟨gd_mono (show (3 : Int) + 2 ≤ 10 by decide) _ hy2, by omega, by omega⟩
      · exact ho z hz
    · obtain ⟨q, rfl⟩ := hp.some
      have hc : E.callP 1 (m_law_bent 60) (E.cons (E.v 5) E.nil) ⟨[s0, .pool, s2, s3, s4, .d x, s6, s7, s8, s9, s10, .d e, s12, s13, s14, s15], some q⟩ = some (r, p1) := by
        simp [-Option.bind_some, -Option.map_some, Ru.c_e, Ru.v_e, Ru.v_d, Ru.rv_e, Ru.rv_d, Ru.rv_l, Ru.nil_e, Ru.cons_e, Ru.cons_d, Ru.cons_l, Ru.cons_2, Ru.tup_e, Ru.tup_d, Ru.lst_e, Ru.lst_d, Ru.rd_e, Ru.rd_d, Ru.rd_l, Ru.op_e, Ru.op_1, Ru.op_2, Ru.op_3, Ru.un_e, Ru.un_1, Ru.isi_e, Ru.ite_e, Ru.ite_t, Ru.ite_f, Ru.ofB_e, Ru.ofB_1, Ru.toB_e, Ru.toB_1, Ru.and_e, Ru.and_t, Ru.and_f, Ru.or_e, Ru.or_t, Ru.or_f, Ru.not_e, Ru.not_1, Ru.px_e, Ru.px_1, Ru.px_2, Ru.oN_e, Ru.oS_e, Ru.oS_1, Ru.sl_e, Ru.sl_1, Ru.sl_2, Ru.sl_3, Ru.sl3_e, Ru.tl_1, Ru.tl_2, Ru.tl_3, Ru.tl_4, Ru.call_e, Ru.call_1, Ru.call_2, Ru.callP_e, Ru.callP_1, Ru.callP_2, Ru.chain_e, Ru.ch_1, Ru.ch_2, Ru.ch_t, Ru.ch_f, Ru.iL_e, Ru.iL_d, Ru.iL_l, Ru.iT_e, Ru.iT_d, Ru.iR1_e, Ru.iR1_1, Ru.lR_e, Ru.lR_1, Ru.tN_e, Ru.tT_2, Ru.yes_e, Ru.lc_e, Ru.lc_1, Ru.lc_2, Ru.seq_e, Ru.seq_nx, Ru.seq_rt, Ru.nop_e, Ru.set_e, Ru.set_d, Ru.set_l, Ru.setL_e, Ru.setL_l, Ru.ret_e, Ru.ret_1, Ru.retV_e, Ru.retV_l, Ru.retV_d, Ru.frz_e, Ru.frz_l, Ru.sIte_e, Ru.sIte_t, Ru.sIte_f, Ru.for_e, Ru.for_1, Ru.for_nil, Ru.for_cons, Ru.fK_1, Ru.fK_nx, Ru.fK_rt, Ru.append_e, Ru.append_1, Ru.append_d, Ru.append_l, Ru.extend_e, Ru.extend_1, Ru.extend_l, Ru.pop_e, Ru.pop_1, Ru.setIx_e, Ru.setIx_d, Ru.setP_e, Ru.setP_d, Ru.setP_1, Ru.par_e, Ru.par_1, Ru.stup_e, Ru.stup_d, Ru.wK_t, Ru.wK_f, Ru.wK_nx, Ru.wK_rt, Ru.runB_f, Ru.runB_t, Ru.rb_f, Ru.rb_t, Ru.rb_n, Ru.lt_i, Ru.le_i, Ru.gt_i, Ru.ge_i, Ru.sub_i, Ru.add_i, Ru.add_s, Ru.add_t, Ru.add_l, Ru.mul_i, Ru.div_i, Ru.mod_i, Ru.neg_i, Ru.is_n, Ru.isNot_n, Ru.non_n, Ru.non_i, Ru.non_b, Ru.non_s, Ru.non_l, Ru.non_t, Ru.len_l, Ru.len_t, Ru.len_s, Ru.list_l, Ru.list_t, Ru.tuple_l, Ru.tuple_t, Ru.int_i, Ru.gsl_l, Ru.gsl_t, Ru.gsl_s, Ru.eq_s, Ru.eq_i, Ru.eq_b, Ru.ne_b, Ru.ne_s, Ru.ne_i, Ru.in_2, Ru.atI_0, Ru.atI_1, Ru.atI_2, Ru.ix_t, Ru.ix_l, Ru.cut_1, E.wipeS, Ru.bind_some, Option.bind_none, Ru.map_some, Option.map_none, List.getElem?_cons_zero, List.getElem?_cons_succ, List.set_cons_zero, List.set_cons_succ, List.length_cons, List.length_nil, List.map_cons, List.map_nil, List.replicate, List.cons_append, List.nil_append, e1]
      simp only [E.lcL, Ru.tN_e, Option.bind_some, Ru.yes_e, if_true, List.set_cons_succ, List.set_cons_zero]
      rw [hc]
      simp only [Option.bind_some, hy1]
      rw [ih]
      simp
theorem L13 {b : D} {T : List D} (hb : gd 3 b = true) (hs : sz b ≤ 900) (hd : b.depth ≤ 50) (hT : ∀ x ∈ T, Gv x) (hl : T.length ≤ 100) (hp : VP p) : ∃ p', r13_law m_law_pool m_law_world (m_condition_of 20) (m_law_condition 6) (m_law_same 30) (m_same_condition 20) m_law_pick m_law_atoms (m_law_holds 20) m_law_shuffled m_is_condition (m_atoms_where 20) (m_law_bent 60) m_is_world m_atoms_of m_law_draw (m_holds 20) (m_law_is_condition 45) m_law_is_integer ⟨[s0, .pool, .d (W d t), s3, s4, .d b, s6, s7, s8, s9, s10, s11, .d (.list T), s13, s14, s15], p⟩ = some (.rt (.d (.bool true)) p') := by
  obtain ⟨out, p', hp', ho, hlo, e1⟩ := bents (s0 := s0) (s2 := .d (W d t)) (s3 := s3) (s4 := s4) (s6 := s6) (s7 := s7) (s8 := s8) (s9 := s9) (s10 := s10) (s12 := .d (.list T)) (s13 := s13) (s14 := s14) (s15 := s15) hb hs hd (Ru.upTo 6) [] p hp
  rw [List.nil_append] at e1
  obtain ⟨s3', s13', e2⟩ := loop1 (d := d) (t := t) (p := p') (s0 := s0) (s1 := .pool) (s4 := s4) (s5 := .d b) (s6 := s6) (s7 := s7) (s8 := s8) (s9 := s9) (s10 := s10) (s11 := s11) (s12 := .d (.list T)) (s14 := s14) (s15 := s15) (T ++ out) s3 s13 fun x hx => (List.mem_append.mp hx).elim (hT x) (ho x)
  have hu : (Ru.upTo 6).length = 6 := rfl
  have hr : Ru.iR1K ([.int 6], p) = some (Ru.upTo 6, p) := Ru.iR1_1 (by decide) (by decide)
  have hlen : T.length + out.length ≤ 16777216 := by omega
  refine ⟨p', ?_⟩
  simp [r13_law, r14_law, -Option.bind_some, -Option.map_some, Ru.c_e, Ru.v_e, Ru.v_d, Ru.rv_e, Ru.rv_d, Ru.rv_l, Ru.nil_e, Ru.cons_e, Ru.cons_d, Ru.cons_l, Ru.cons_2, Ru.tup_e, Ru.tup_d, Ru.lst_e, Ru.lst_d, Ru.rd_e, Ru.rd_d, Ru.rd_l, Ru.op_e, Ru.op_1, Ru.op_2, Ru.op_3, Ru.un_e, Ru.un_1, Ru.isi_e, Ru.ite_e, Ru.ite_t, Ru.ite_f, Ru.ofB_e, Ru.ofB_1, Ru.toB_e, Ru.toB_1, Ru.and_e, Ru.and_t, Ru.and_f, Ru.or_e, Ru.or_t, Ru.or_f, Ru.not_e, Ru.not_1, Ru.px_e, Ru.px_1, Ru.px_2, Ru.oN_e, Ru.oS_e, Ru.oS_1, Ru.sl_e, Ru.sl_1, Ru.sl_2, Ru.sl_3, Ru.sl3_e, Ru.tl_1, Ru.tl_2, Ru.tl_3, Ru.tl_4, Ru.call_e, Ru.call_1, Ru.call_2, Ru.callP_e, Ru.callP_1, Ru.callP_2, Ru.chain_e, Ru.ch_1, Ru.ch_2, Ru.ch_t, Ru.ch_f, Ru.iL_e, Ru.iL_d, Ru.iL_l, Ru.iT_e, Ru.iT_d, Ru.iR1_e, Ru.iR1_1, Ru.lR_e, Ru.lR_1, Ru.tN_e, Ru.tT_2, Ru.yes_e, Ru.lc_e, Ru.lc_1, Ru.lc_2, Ru.seq_e, Ru.seq_nx, Ru.seq_rt, Ru.nop_e, Ru.set_e, Ru.set_d, Ru.set_l, Ru.setL_e, Ru.setL_l, Ru.ret_e, Ru.ret_1, Ru.retV_e, Ru.retV_l, Ru.retV_d, Ru.frz_e, Ru.frz_l, Ru.sIte_e, Ru.sIte_t, Ru.sIte_f, Ru.for_e, Ru.for_1, Ru.for_nil, Ru.for_cons, Ru.fK_1, Ru.fK_nx, Ru.fK_rt, Ru.append_e, Ru.append_1, Ru.append_d, Ru.append_l, Ru.extend_e, Ru.extend_1, Ru.extend_l, Ru.pop_e, Ru.pop_1, Ru.setIx_e, Ru.setIx_d, Ru.setP_e, Ru.setP_d, Ru.setP_1, Ru.par_e, Ru.par_1, Ru.stup_e, Ru.stup_d, Ru.wK_t, Ru.wK_f, Ru.wK_nx, Ru.wK_rt, Ru.runB_f, Ru.runB_t, Ru.rb_f, Ru.rb_t, Ru.rb_n, Ru.lt_i, Ru.le_i, Ru.gt_i, Ru.ge_i, Ru.sub_i, Ru.add_i, Ru.add_s, Ru.add_t, Ru.add_l, Ru.mul_i, Ru.div_i, Ru.mod_i, Ru.neg_i, Ru.is_n, Ru.isNot_n, Ru.non_n, Ru.non_i, Ru.non_b, Ru.non_s, Ru.non_l, Ru.non_t, Ru.len_l, Ru.len_t, Ru.len_s, Ru.list_l, Ru.list_t, Ru.tuple_l, Ru.tuple_t, Ru.int_i, Ru.gsl_l, Ru.gsl_t, Ru.gsl_s, Ru.eq_s, Ru.eq_i, Ru.eq_b, Ru.ne_b, Ru.ne_s, Ru.ne_i, Ru.in_2, Ru.atI_0, Ru.atI_1, Ru.atI_2, Ru.ix_t, Ru.ix_l, Ru.cut_1, E.wipeS, Ru.bind_some, Option.bind_none, Ru.map_some, Option.map_none, List.getElem?_cons_zero, List.getElem?_cons_succ, List.set_cons_zero, List.set_cons_succ, List.length_cons, List.length_nil, List.map_cons, List.map_nil, List.replicate, List.cons_append, List.nil_append, hr, hu, e1, -Ru.iR1_1]
  rw [Ru.add_l hlen]
  simp [-Option.bind_some, -Option.map_some, Ru.c_e, Ru.v_e, Ru.v_d, Ru.rv_e, Ru.rv_d, Ru.rv_l, Ru.nil_e, Ru.cons_e, Ru.cons_d, Ru.cons_l, Ru.cons_2, Ru.tup_e, Ru.tup_d, Ru.lst_e, Ru.lst_d, Ru.rd_e, Ru.rd_d, Ru.rd_l, Ru.op_e, Ru.op_1, Ru.op_2, Ru.op_3, Ru.un_e, Ru.un_1, Ru.isi_e, Ru.ite_e, Ru.ite_t, Ru.ite_f, Ru.ofB_e, Ru.ofB_1, Ru.toB_e, Ru.toB_1, Ru.and_e, Ru.and_t, Ru.and_f, Ru.or_e, Ru.or_t, Ru.or_f, Ru.not_e, Ru.not_1, Ru.px_e, Ru.px_1, Ru.px_2, Ru.oN_e, Ru.oS_e, Ru.oS_1, Ru.sl_e, Ru.sl_1, Ru.sl_2, Ru.sl_3, Ru.sl3_e, Ru.tl_1, Ru.tl_2, Ru.tl_3, Ru.tl_4, Ru.call_e, Ru.call_1, Ru.call_2, Ru.callP_e, Ru.callP_1, Ru.callP_2, Ru.chain_e, Ru.ch_1, Ru.ch_2, Ru.ch_t, Ru.ch_f, Ru.iL_e, Ru.iL_d, Ru.iL_l, Ru.iT_e, Ru.iT_d, Ru.iR1_e, Ru.iR1_1, Ru.lR_e, Ru.lR_1, Ru.tN_e, Ru.tT_2, Ru.yes_e, Ru.lc_e, Ru.lc_1, Ru.lc_2, Ru.seq_e, Ru.seq_nx, Ru.seq_rt, Ru.nop_e, Ru.set_e, Ru.set_d, Ru.set_l, Ru.setL_e, Ru.setL_l, Ru.ret_e, Ru.ret_1, Ru.retV_e, Ru.retV_l, Ru.retV_d, Ru.frz_e, Ru.frz_l, Ru.sIte_e, Ru.sIte_t, Ru.sIte_f, Ru.for_e, Ru.for_1, Ru.for_nil, Ru.for_cons, Ru.fK_1, Ru.fK_nx, Ru.fK_rt, Ru.append_e, Ru.append_1, Ru.append_d, Ru.append_l, Ru.extend_e, Ru.extend_1, Ru.extend_l, Ru.pop_e, Ru.pop_1, Ru.setIx_e, Ru.setIx_d, Ru.setP_e, Ru.setP_d, Ru.setP_1, Ru.par_e, Ru.par_1, Ru.stup_e, Ru.stup_d, Ru.wK_t, Ru.wK_f, Ru.wK_nx, Ru.wK_rt, Ru.runB_f, Ru.runB_t, Ru.rb_f, Ru.rb_t, Ru.rb_n, Ru.lt_i, Ru.le_i, Ru.gt_i, Ru.ge_i, Ru.sub_i, Ru.add_i, Ru.add_s, Ru.add_t, Ru.add_l, Ru.mul_i, Ru.div_i, Ru.mod_i, Ru.neg_i, Ru.is_n, Ru.isNot_n, Ru.non_n, Ru.non_i, Ru.non_b, Ru.non_s, Ru.non_l, Ru.non_t, Ru.len_l, Ru.len_t, Ru.len_s, Ru.list_l, Ru.list_t, Ru.tuple_l, Ru.tuple_t, Ru.int_i, Ru.gsl_l, Ru.gsl_t, Ru.gsl_s, Ru.eq_s, Ru.eq_i, Ru.eq_b, Ru.ne_b, Ru.ne_s, Ru.ne_i, Ru.in_2, Ru.atI_0, Ru.atI_1, Ru.atI_2, Ru.ix_t, Ru.ix_l, Ru.cut_1, E.wipeS, Ru.bind_some, Option.bind_none, Ru.map_some, Option.map_none, List.getElem?_cons_zero, List.getElem?_cons_succ, List.set_cons_zero, List.set_cons_succ, List.length_cons, List.length_nil, List.map_cons, List.map_nil, List.replicate, List.cons_append, List.nil_append]
  rw [e2]
  simp [-Option.bind_some, -Option.map_some, Ru.c_e, Ru.v_e, Ru.v_d, Ru.rv_e, Ru.rv_d, Ru.rv_l, Ru.nil_e, Ru.cons_e, Ru.cons_d, Ru.cons_l, Ru.cons_2, Ru.tup_e, Ru.tup_d, Ru.lst_e, Ru.lst_d, Ru.rd_e, Ru.rd_d, Ru.rd_l, Ru.op_e, Ru.op_1, Ru.op_2, Ru.op_3, Ru.un_e, Ru.un_1, Ru.isi_e, Ru.ite_e, Ru.ite_t, Ru.ite_f, Ru.ofB_e, Ru.ofB_1, Ru.toB_e, Ru.toB_1, Ru.and_e, Ru.and_t, Ru.and_f, Ru.or_e, Ru.or_t, Ru.or_f, Ru.not_e, Ru.not_1, Ru.px_e, Ru.px_1, Ru.px_2, Ru.oN_e, Ru.oS_e, Ru.oS_1, Ru.sl_e, Ru.sl_1, Ru.sl_2, Ru.sl_3, Ru.sl3_e, Ru.tl_1, Ru.tl_2, Ru.tl_3, Ru.tl_4, Ru.call_e, Ru.call_1, Ru.call_2, Ru.callP_e, Ru.callP_1, Ru.callP_2, Ru.chain_e, Ru.ch_1, Ru.ch_2, Ru.ch_t, Ru.ch_f, Ru.iL_e, Ru.iL_d, Ru.iL_l, Ru.iT_e, Ru.iT_d, Ru.iR1_e, Ru.iR1_1, Ru.lR_e, Ru.lR_1, Ru.tN_e, Ru.tT_2, Ru.yes_e, Ru.lc_e, Ru.lc_1, Ru.lc_2, Ru.seq_e, Ru.seq_nx, Ru.seq_rt, Ru.nop_e, Ru.set_e, Ru.set_d, Ru.set_l, Ru.setL_e, Ru.setL_l, Ru.ret_e, Ru.ret_1, Ru.retV_e, Ru.retV_l, Ru.retV_d, Ru.frz_e, Ru.frz_l, Ru.sIte_e, Ru.sIte_t, Ru.sIte_f, Ru.for_e, Ru.for_1, Ru.for_nil, Ru.for_cons, Ru.fK_1, Ru.fK_nx, Ru.fK_rt, Ru.append_e, Ru.append_1, Ru.append_d, Ru.append_l, Ru.extend_e, Ru.extend_1, Ru.extend_l, Ru.pop_e, Ru.pop_1, Ru.setIx_e, Ru.setIx_d, Ru.setP_e, Ru.setP_d, Ru.setP_1, Ru.par_e, Ru.par_1, Ru.stup_e, Ru.stup_d, Ru.wK_t, Ru.wK_f, Ru.wK_nx, Ru.wK_rt, Ru.runB_f, Ru.runB_t, Ru.rb_f, Ru.rb_t, Ru.rb_n, Ru.lt_i, Ru.le_i, Ru.gt_i, Ru.ge_i, Ru.sub_i, Ru.add_i, Ru.add_s, Ru.add_t, Ru.add_l, Ru.mul_i, Ru.div_i, Ru.mod_i, Ru.neg_i, Ru.is_n, Ru.isNot_n, Ru.non_n, Ru.non_i, Ru.non_b, Ru.non_s, Ru.non_l, Ru.non_t, Ru.len_l, Ru.len_t, Ru.len_s, Ru.list_l, Ru.list_t, Ru.tuple_l, Ru.tuple_t, Ru.int_i, Ru.gsl_l, Ru.gsl_t, Ru.gsl_s, Ru.eq_s, Ru.eq_i, Ru.eq_b, Ru.ne_b, Ru.ne_s, Ru.ne_i, Ru.in_2, Ru.atI_0, Ru.atI_1, Ru.atI_2, Ru.ix_t, Ru.ix_l, Ru.cut_1, E.wipeS, Ru.bind_some, Option.bind_none, Ru.map_some, Option.map_none, List.getElem?_cons_zero, List.getElem?_cons_succ, List.set_cons_zero, List.set_cons_succ, List.length_cons, List.length_nil, List.map_cons, List.map_nil, List.replicate, List.cons_append, List.nil_append]
/-! ### what is tried -/
theorem Gv_of {x : D} {m : Int} (hm : m ≤ 10) (h1 : gd m x = true) (h2 : sz x ≤ 3000) (h3 : x.depth ≤ 55) : Gv x := ⟨gd_mono hm x h1, h2, h3⟩
theorem L12 {B C' : C} {deep : D} (h3 : d ≤ 3) (hB : B.ok d = true) (dB : B.dep ≤ 6) (hC : C'.ok d = true) (dC : C'.dep ≤ 6) (g : gd 3 deep = true) (gs : sz deep ≤ 600) (gdp : deep.depth ≤ 50) (hp : VP p) :
    ∃ p', r12_law m_law_pool m_law_world (m_condition_of 20) (m_law_condition 6) (m_law_same 30) (m_same_condition 20) m_law_pick m_law_atoms (m_law_holds 20) m_law_shuffled m_is_condition (m_atoms_where 20) (m_law_bent 60) m_is_world m_atoms_of m_law_draw (m_holds 20) (m_law_is_condition 45) m_law_is_integer ⟨[s0, .pool, .d (W d t), s3, s4, .d B.enc, .d C'.enc, s7, s8, s9, .d deep, s11, s12, s13, s14, s15], p⟩ = some (.rt (.d (.bool true)) p') := by
  obtain ⟨lb, hlb⟩ := enc_tuple B
  have b1 := enc_gd h3 B hB
  have c1 := enc_gd h3 C' hC
  have b2 := enc_sz B
  have c2 := enc_sz C'
  have b3 := enc_depth B
  have c3 := enc_depth C'
  have pB : 2 ^ B.dep ≤ 2 ^ 6 := Nat.pow_le_pow_right (by decide) dB
  have pC : 2 ^ C'.dep ≤ 2 ^ 6 := Nat.pow_le_pow_right (by decide) dC
  have p6 : 2 ^ 6 = 64 := rfl
  have n1 := nm_sz.2.1
  have n2 := nm_sz.2.2.1
  have n3 := nm_sz.2.2.2.1
  have n4 := nm_sz.2.2.2.2.1
  have n5 := nm_sz.2.2.2.2.2.1
  have n6 := nm_sz.2.2.2.2.2.2
  have gb : gd 3 (.list lb) = true := by
    rw [hlb] at b1
    exact gd_list.mpr (gd_tuple.mp b1)
  have sb : sz (.list lb) = sz B.enc := by rw [hlb]; rfl
  have db : (PyData.list lb).depth = B.enc.depth := by rw [hlb]; rfl
  obtain ⟨T, eT⟩ : ∃ T : List D, T = [B.enc, C'.enc, .list lb, deep, .tuple [.str "test", .int d], .tuple [.str "test", .bool true], .tuple [.str "test"], .tuple [.str "and", B.enc], .tuple [.str "or", B.enc, C'.enc, B.enc], .tuple [.str "yes", .int 1], .tuple [.str "xor", B.enc, C'.enc], .tuple [], .none, .str "yes", .tuple [.str "not", .none]] := ⟨_, rfl⟩
  have hT : ∀ x ∈ T, Gv x := by
    intro x hx
    rw [eT] at hx
    simp only [List.mem_cons, List.not_mem_nil, or_false] at hx
    rcases hx with rfl | rfl | rfl | rfl | rfl | rfl | rfl | rfl | rfl | rfl | rfl | rfl | rfl | rfl | rfl
    · exact Gv_of (m := 3) (by decide) b1 (by omega) (by omega)
    · exact Gv_of (m := 3) (by decide) c1 (by omega) (by omega)
    · exact Gv_of (m := 3) (by decide) gb (by omega) (by omega)
    · exact Gv_of (m := 3) (by decide) g (by omega) (by omega)
    · exact Gv_of (m := 3) (by decide) (gdt2 nm_gd.2.2.1 (gdi (by omega))) (by simp only [sz.eq_6, szAll, n2]; simp only [sz]; decide) (by simp only [PyData.depth, PyData.depthAll]; decide)
    · exact Gv_of (m := 3) (by decide) (gdt2 nm_gd.2.2.1 rfl) (by simp only [sz.eq_6, szAll, n2]; simp only [sz]; decide) (by simp only [PyData.depth, PyData.depthAll]; decide)
    · exact Gv_of (m := 3) (by decide) (gdt1 nm_gd.2.2.1) (by simp only [sz.eq_6, szAll, n2]; decide) (by simp only [PyData.depth, PyData.depthAll]; decide)
    · exact Gv_of (m := 3) (by decide) (gdt2 nm_gd.2.2.2.2.1 b1) (by simp only [sz.eq_6, szAll, n4]; omega) (by simp only [PyData.depth, PyData.depthAll]; omega)
    · exact Gv_of (m := 3) (by decide) (gd_tuple.mpr fun y hy => by
        simp only [List.mem_cons, List.not_mem_nil, or_false] at hy
        rcases hy with rfl | rfl | rfl | rfl
        · exact nm_gd.2.2.2.2.2.1
        · exact b1
        · exact c1
        · exact b1) (by simp only [sz.eq_6, szAll, n5]; omega) (by simp only [PyData.depth, PyData.depthAll]; omega)
    · exact Gv_of (m := 3) (by decide) (gdt2 nm_gd.2.1 (gdi (by decide))) (by simp only [sz.eq_6, szAll, n1]; simp only [sz]; decide) (by simp only [PyData.depth, PyData.depthAll]; decide)
    · exact Gv_of (m := 3) (by decide) (gdt3 nm_gd.2.2.2.2.2.2 b1 c1) (by simp only [sz.eq_6, szAll, n6]; omega) (by simp only [PyData.depth, PyData.depthAll]; omega)
    · exact Gv_of (m := 3) (by decide) rfl (by decide) (by decide)
    · exact Gv_of (m := 3) (by decide) rfl (by decide) (by decide)
    · exact Gv_of (m := 3) (by decide) nm_gd.2.1 (by omega) (by decide)
    · exact Gv_of (m := 3) (by decide) (gdt2 nm_gd.2.2.2.1 rfl) (by simp only [sz.eq_6, szAll, n3]; simp only [sz]; decide) (by simp only [PyData.depth, PyData.depthAll]; decide)
  obtain ⟨p', e⟩ := L13 (d := d) (t := t) (p := p) (s0 := s0) (s3 := s3) (s4 := s4) (s6 := .d C'.enc) (s7 := s7) (s8 := s8) (s9 := s9) (s10 := .d deep) (s11 := s11) (s13 := s13) (s14 := s14) (s15 := s15) b1 (by omega) (by omega) hT (by rw [eT]; simp only [List.length_cons, List.length_nil]; decide) hp
  have hl : gList B.enc = some (.l lb) := by rw [hlb]; rfl
  rw [eT] at e
  refine ⟨p', ?_⟩
  simp [r12_law, -Option.bind_some, -Option.map_some, Ru.c_e, Ru.v_e, Ru.v_d, Ru.rv_e, Ru.rv_d, Ru.rv_l, Ru.nil_e, Ru.cons_e, Ru.cons_d, Ru.cons_l, Ru.cons_2, Ru.tup_e, Ru.tup_d, Ru.lst_e, Ru.lst_d, Ru.rd_e, Ru.rd_d, Ru.rd_l, Ru.op_e, Ru.op_1, Ru.op_2, Ru.op_3, Ru.un_e, Ru.un_1, Ru.isi_e, Ru.ite_e, Ru.ite_t, Ru.ite_f, Ru.ofB_e, Ru.ofB_1, Ru.toB_e, Ru.toB_1, Ru.and_e, Ru.and_t, Ru.and_f, Ru.or_e, Ru.or_t, Ru.or_f, Ru.not_e, Ru.not_1, Ru.px_e, Ru.px_1, Ru.px_2, Ru.oN_e, Ru.oS_e, Ru.oS_1, Ru.sl_e, Ru.sl_1, Ru.sl_2, Ru.sl_3, Ru.sl3_e, Ru.tl_1, Ru.tl_2, Ru.tl_3, Ru.tl_4, Ru.call_e, Ru.call_1, Ru.call_2, Ru.callP_e, Ru.callP_1, Ru.callP_2, Ru.chain_e, Ru.ch_1, Ru.ch_2, Ru.ch_t, Ru.ch_f, Ru.iL_e, Ru.iL_d, Ru.iL_l, Ru.iT_e, Ru.iT_d, Ru.iR1_e, Ru.iR1_1, Ru.lR_e, Ru.lR_1, Ru.tN_e, Ru.tT_2, Ru.yes_e, Ru.lc_e, Ru.lc_1, Ru.lc_2, Ru.seq_e, Ru.seq_nx, Ru.seq_rt, Ru.nop_e, Ru.set_e, Ru.set_d, Ru.set_l, Ru.setL_e, Ru.setL_l, Ru.ret_e, Ru.ret_1, Ru.retV_e, Ru.retV_l, Ru.retV_d, Ru.frz_e, Ru.frz_l, Ru.sIte_e, Ru.sIte_t, Ru.sIte_f, Ru.for_e, Ru.for_1, Ru.for_nil, Ru.for_cons, Ru.fK_1, Ru.fK_nx, Ru.fK_rt, Ru.append_e, Ru.append_1, Ru.append_d, Ru.append_l, Ru.extend_e, Ru.extend_1, Ru.extend_l, Ru.pop_e, Ru.pop_1, Ru.setIx_e, Ru.setIx_d, Ru.setP_e, Ru.setP_d, Ru.setP_1, Ru.par_e, Ru.par_1, Ru.stup_e, Ru.stup_d, Ru.wK_t, Ru.wK_f, Ru.wK_nx, Ru.wK_rt, Ru.runB_f, Ru.runB_t, Ru.rb_f, Ru.rb_t, Ru.rb_n, Ru.lt_i, Ru.le_i, Ru.gt_i, Ru.ge_i, Ru.sub_i, Ru.add_i, Ru.add_s, Ru.add_t, Ru.add_l, Ru.mul_i, Ru.div_i, Ru.mod_i, Ru.neg_i, Ru.is_n, Ru.isNot_n, Ru.non_n, Ru.non_i, Ru.non_b, Ru.non_s, Ru.non_l, Ru.non_t, Ru.len_l, Ru.len_t, Ru.len_s, Ru.list_l, Ru.list_t, Ru.tuple_l, Ru.tuple_t, Ru.int_i, Ru.gsl_l, Ru.gsl_t, Ru.gsl_s, Ru.eq_s, Ru.eq_i, Ru.eq_b, Ru.ne_b, Ru.ne_s, Ru.ne_i, Ru.in_2, Ru.atI_0, Ru.atI_1, Ru.atI_2, Ru.ix_t, Ru.ix_l, Ru.cut_1, E.wipeS, Ru.bind_some, Option.bind_none, Ru.map_some, Option.map_none, List.getElem?_cons_zero, List.getElem?_cons_succ, List.set_cons_zero, List.set_cons_succ, List.length_cons, List.length_nil, List.map_cons, List.map_nil, List.replicate, List.cons_append, List.nil_append, hl]
  exact e
/-! ### the deep one -/
theorem f2_ok {deep : D} {j : Nat} : f2_law m_law_pool m_law_world (m_condition_of 20) (m_law_condition 6) (m_law_same 30) (m_same_condition 20) m_law_pick m_law_atoms (m_law_holds 20) m_law_shuffled m_is_condition (m_atoms_where 20) (m_law_bent 60) m_is_world m_atoms_of m_law_draw (m_holds 20) (m_law_is_condition 45) m_law_is_integer ⟨[s0, s1, s2, s3, s4, s5, s6, s7, s8, s9, .d deep, .d (.int (j : Int)), s12, s13, s14, s15], p⟩ = some (.nx ⟨[s0, s1, s2, s3, s4, s5, s6, s7, s8, s9, .d (if ((j : Int) % 2 == 0) = true then .tuple [.str "not", deep] else .tuple [.str "and", deep, .tuple [.str "yes"]]), .d (.int (j : Int)), s12, s13, s14, s15], p⟩) := by
  cases h : ((j : Int) % 2 == 0) <;> simp [f2_law, -Option.bind_some, -Option.map_some, Ru.c_e, Ru.v_e, Ru.v_d, Ru.rv_e, Ru.rv_d, Ru.rv_l, Ru.nil_e, Ru.cons_e, Ru.cons_d, Ru.cons_l, Ru.cons_2, Ru.tup_e, Ru.tup_d, Ru.lst_e, Ru.lst_d, Ru.rd_e, Ru.rd_d, Ru.rd_l, Ru.op_e, Ru.op_1, Ru.op_2, Ru.op_3, Ru.un_e, Ru.un_1, Ru.isi_e, Ru.ite_e, Ru.ite_t, Ru.ite_f, Ru.ofB_e, Ru.ofB_1, Ru.toB_e, Ru.toB_1, Ru.and_e, Ru.and_t, Ru.and_f, Ru.or_e, Ru.or_t, Ru.or_f, Ru.not_e, Ru.not_1, Ru.px_e, Ru.px_1, Ru.px_2, Ru.oN_e, Ru.oS_e, Ru.oS_1, Ru.sl_e, Ru.sl_1, Ru.sl_2, Ru.sl_3, Ru.sl3_e, Ru.tl_1, Ru.tl_2, Ru.tl_3, Ru.tl_4, Ru.call_e, Ru.call_1, Ru.call_2, Ru.callP_e, Ru.callP_1, Ru.callP_2, Ru.chain_e, Ru.ch_1, Ru.ch_2, Ru.ch_t, Ru.ch_f, Ru.iL_e, Ru.iL_d, Ru.iL_l, Ru.iT_e, Ru.iT_d, Ru.iR1_e, Ru.iR1_1, Ru.lR_e, Ru.lR_1, Ru.tN_e, Ru.tT_2, Ru.yes_e, Ru.lc_e, Ru.lc_1, Ru.lc_2, Ru.seq_e, Ru.seq_nx, Ru.seq_rt, Ru.nop_e, Ru.set_e, Ru.set_d, Ru.set_l, Ru.setL_e, Ru.setL_l, Ru.ret_e, Ru.ret_1, Ru.retV_e, Ru.retV_l, Ru.retV_d, Ru.frz_e, Ru.frz_l, Ru.sIte_e, Ru.sIte_t, Ru.sIte_f, Ru.for_e, Ru.for_1, Ru.for_nil, Ru.for_cons, Ru.fK_1, Ru.fK_nx, Ru.fK_rt, Ru.append_e, Ru.append_1, Ru.append_d, Ru.append_l, Ru.extend_e, Ru.extend_1, Ru.extend_l, Ru.pop_e, Ru.pop_1, Ru.setIx_e, Ru.setIx_d, Ru.setP_e, Ru.setP_d, Ru.setP_1, Ru.par_e, Ru.par_1, Ru.stup_e, Ru.stup_d, Ru.wK_t, Ru.wK_f, Ru.wK_nx, Ru.wK_rt, Ru.runB_f, Ru.runB_t, Ru.rb_f, Ru.rb_t, Ru.rb_n, Ru.lt_i, Ru.le_i, Ru.gt_i, Ru.ge_i, Ru.sub_i, Ru.add_i, Ru.add_s, Ru.add_t, Ru.add_l, Ru.mul_i, Ru.div_i, Ru.mod_i, Ru.neg_i, Ru.is_n, Ru.isNot_n, Ru.non_n, Ru.non_i, Ru.non_b, Ru.non_s, Ru.non_l, Ru.non_t, Ru.len_l, Ru.len_t, Ru.len_s, Ru.list_l, Ru.list_t, Ru.tuple_l, Ru.tuple_t, Ru.int_i, Ru.gsl_l, Ru.gsl_t, Ru.gsl_s, Ru.eq_s, Ru.eq_i, Ru.eq_b, Ru.ne_b, Ru.ne_s, Ru.ne_i, Ru.in_2, Ru.atI_0, Ru.atI_1, Ru.atI_2, Ru.ix_t, Ru.ix_l, Ru.cut_1, E.wipeS, Ru.bind_some, Option.bind_none, Ru.map_some, Option.map_none, List.getElem?_cons_zero, List.getElem?_cons_succ, List.set_cons_zero, List.set_cons_succ, List.length_cons, List.length_nil, List.map_cons, List.map_nil, List.replicate, List.cons_append, List.nil_append, h]
theorem loop2 : ∀ (js : List Nat) (deep : D) (a m : Nat) (s11 : Sl), gd 3 deep = true → sz deep ≤ a → deep.depth ≤ m → 1 ≤ m → ∃ (deep' : D) (s11' : Sl), gd 3 deep' = true ∧ sz deep' ≤ a + 10 * js.length ∧ deep'.depth ≤ m + js.length ∧
    S.forL (E.tN 11) (f2_law m_law_pool m_law_world (m_condition_of 20) (m_law_condition 6) (m_law_same 30) (m_same_condition 20) m_law_pick m_law_atoms (m_law_holds 20) m_law_shuffled m_is_condition (m_atoms_where 20) (m_law_bent 60) m_is_world m_atoms_of m_law_draw (m_holds 20) (m_law_is_condition 45) m_law_is_integer) (intsN js) ⟨[s0, s1, s2, s3, s4, s5, s6, s7, s8, s9, .d deep, s11, s12, s13, s14, s15], p⟩ = some (.nx ⟨[s0, s1, s2, s3, s4, s5, s6, s7, s8, s9, .d deep', s11', s12, s13, s14, s15], p⟩)
  | [], deep, a, m, s11, g, hs, hd, _ => ⟨deep, s11, g, by simpa using hs, by simpa using hd, rfl⟩
  | j :: js, deep, a, m, s11, g, hs, hd, hm => by
    obtain ⟨nd, hnd⟩ : ∃ nd : D, nd = if ((j : Int) % 2 == 0) = true then .tuple [.str "not", deep] else .tuple [.str "and", deep, .tuple [.str "yes"]] := ⟨_, rfl⟩
    have n1 := nm_sz.2.1
    have n3 := nm_sz.2.2.2.1
    have n4 := nm_sz.2.2.2.2.1
    have key : gd 3 nd = true ∧ sz nd ≤ a + 10 ∧ nd.depth ≤ m + 1 := by
      rw [hnd]
      split
      · exact ⟨gdt2 nm_gd.2.2.2.1 g, by simp only [sz.eq_6, szAll, n3]; omega, by simp only [PyData.depth, PyData.depthAll]; omega⟩
      · exact ⟨gdt3 nm_gd.2.2.2.2.1 g (gdt1 nm_gd.2.1), by simp only [sz.eq_6, szAll, n4, n1]; omega, by simp only [PyData.depth, PyData.depthAll]; omega⟩
    obtain ⟨deep', s11', g', hs', hd', ih⟩ := loop2 js nd (a + 10) (m + 1) (.d (.int (j : Int))) key.1 key.2.1 key.2.2 (by omega)
    refine ⟨deep', s11', g', by simp only [List.length_cons]; omega, by simp only [List.length_cons]; omega, ?_⟩
    show S.forL _ _ (.int (j : Int) :: intsN js) _ = _
    rw [Ru.for_cons]
    simp only [Ru.tN_e, Ru.bind_some, Ru.fK_1, List.set_cons_succ, List.set_cons_zero]
    rw [f2_ok]
    simp only [Ru.bind_some, Ru.fK_nx]
    rw [hnd] at ih
    exact ih
theorem L10 {B C' : C} (h3 : d ≤ 3) (hB : B.ok d = true) (dB : B.dep ≤ 6) (hC : C'.ok d = true) (dC : C'.dep ≤ 6) (hp : VP p) :
    ∃ p', r10_law m_law_pool m_law_world (m_condition_of 20) (m_law_condition 6) (m_law_same 30) (m_same_condition 20) m_law_pick m_law_atoms (m_law_holds 20) m_law_shuffled m_is_condition (m_atoms_where 20) (m_law_bent 60) m_is_world m_atoms_of m_law_draw (m_holds 20) (m_law_is_condition 45) m_law_is_integer ⟨[s0, .pool, .d (W d t), s3, s4, .d B.enc, .d C'.enc, s7, s8, s9, s10, s11, s12, s13, s14, s15], p⟩ = some (.rt (.d (.bool true)) p') := by
  obtain ⟨q, rfl⟩ := hp.some
  obtain ⟨y, p1, hp1, hy, e1⟩ := pick_t (xs := [.int 38, .int 39, .int 40]) (by decide) (by decide) hp
  obtain ⟨n, hn, rfl⟩ : ∃ n : Nat, n ≤ 40 ∧ y = .int (n : Int) := by
    simp only [List.mem_cons, List.not_mem_nil, or_false] at hy
    rcases hy with rfl | rfl | rfl
    · exact ⟨38, by decide, rfl⟩
    · exact ⟨39, by decide, rfl⟩
    · exact ⟨40, by decide, rfl⟩
  have n1 := nm_sz.2.1
  obtain ⟨deep', s11', g', hs', hd', e2⟩ := loop2 (p := p1) (s0 := s0) (s1 := .pool) (s2 := .d (W d t)) (s3 := s3) (s4 := s4) (s5 := .d B.enc) (s6 := .d C'.enc) (s7 := s7) (s8 := s8) (s9 := s9) (s12 := s12) (s13 := s13) (s14 := s14) (s15 := s15)
    (List.range n) (.tuple [.str "yes"]) 10 1 s11 (gdt1 nm_gd.2.1) (by simp only [sz.eq_6, szAll, n1]; decide) (by simp only [PyData.depth, PyData.depthAll]; decide) (Nat.le_refl 1)
  rw [List.length_range] at hs' hd'
  obtain ⟨p', e3⟩ := L12 (d := d) (t := t) (p := p1) (s0 := s0) (s3 := s3) (s4 := s4) (s7 := s7) (s8 := s8) (s9 := s9) (s11 := s11') (s12 := s12) (s13 := s13) (s14 := s14) (s15 := s15) h3 hB dB hC dC g' (by omega) (by omega) hp1
  have hr : Ru.iR1K ([.int (n : Int)], p1) = some (intsN (List.range n), p1) := by
    rw [Ru.iR1_1 (by omega) (by omega), Int.toNat_natCast]
    rfl
  refine ⟨p', ?_⟩
  simp [r10_law, r11_law, -Option.bind_some, -Option.map_some, Ru.c_e, Ru.v_e, Ru.v_d, Ru.rv_e, Ru.rv_d, Ru.rv_l, Ru.nil_e, Ru.cons_e, Ru.cons_d, Ru.cons_l, Ru.cons_2, Ru.tup_e, Ru.tup_d, Ru.lst_e, Ru.lst_d, Ru.rd_e, Ru.rd_d, Ru.rd_l, Ru.op_e, Ru.op_1, Ru.op_2, Ru.op_3, Ru.un_e, Ru.un_1, Ru.isi_e, Ru.ite_e, Ru.ite_t, Ru.ite_f, Ru.ofB_e, Ru.ofB_1, Ru.toB_e, Ru.toB_1, Ru.and_e, Ru.and_t, Ru.and_f, Ru.or_e, Ru.or_t, Ru.or_f, Ru.not_e, Ru.not_1, Ru.px_e, Ru.px_1, Ru.px_2, Ru.oN_e, Ru.oS_e, Ru.oS_1, Ru.sl_e, Ru.sl_1, Ru.sl_2, Ru.sl_3, Ru.sl3_e, Ru.tl_1, Ru.tl_2, Ru.tl_3, Ru.tl_4, Ru.call_e, Ru.call_1, Ru.call_2, Ru.callP_e, Ru.callP_1, Ru.callP_2, Ru.chain_e, Ru.ch_1, Ru.ch_2, Ru.ch_t, Ru.ch_f, Ru.iL_e, Ru.iL_d, Ru.iL_l, Ru.iT_e, Ru.iT_d, Ru.iR1_e, Ru.iR1_1, Ru.lR_e, Ru.lR_1, Ru.tN_e, Ru.tT_2, Ru.yes_e, Ru.lc_e, Ru.lc_1, Ru.lc_2, Ru.seq_e, Ru.seq_nx, Ru.seq_rt, Ru.nop_e, Ru.set_e, Ru.set_d, Ru.set_l, Ru.setL_e, Ru.setL_l, Ru.ret_e, Ru.ret_1, Ru.retV_e, Ru.retV_l, Ru.retV_d, Ru.frz_e, Ru.frz_l, Ru.sIte_e, Ru.sIte_t, Ru.sIte_f, Ru.for_e, Ru.for_1, Ru.for_nil, Ru.for_cons, Ru.fK_1, Ru.fK_nx, Ru.fK_rt, Ru.append_e, Ru.append_1, Ru.append_d, Ru.append_l, Ru.extend_e, Ru.extend_1, Ru.extend_l, Ru.pop_e, Ru.pop_1, Ru.setIx_e, Ru.setIx_d, Ru.setP_e, Ru.setP_d, Ru.setP_1, Ru.par_e, Ru.par_1, Ru.stup_e, Ru.stup_d, Ru.wK_t, Ru.wK_f, Ru.wK_nx, Ru.wK_rt, Ru.runB_f, Ru.runB_t, Ru.rb_f, Ru.rb_t, Ru.rb_n, Ru.lt_i, Ru.le_i, Ru.gt_i, Ru.ge_i, Ru.sub_i, Ru.add_i, Ru.add_s, Ru.add_t, Ru.add_l, Ru.mul_i, Ru.div_i, Ru.mod_i, Ru.neg_i, Ru.is_n, Ru.isNot_n, Ru.non_n, Ru.non_i, Ru.non_b, Ru.non_s, Ru.non_l, Ru.non_t, Ru.len_l, Ru.len_t, Ru.len_s, Ru.list_l, Ru.list_t, Ru.tuple_l, Ru.tuple_t, Ru.int_i, Ru.gsl_l, Ru.gsl_t, Ru.gsl_s, Ru.eq_s, Ru.eq_i, Ru.eq_b, Ru.ne_b, Ru.ne_s, Ru.ne_i, Ru.in_2, Ru.atI_0, Ru.atI_1, Ru.atI_2, Ru.ix_t, Ru.ix_l, Ru.cut_1, E.wipeS, Ru.bind_some, Option.bind_none, Ru.map_some, Option.map_none, List.getElem?_cons_zero, List.getElem?_cons_succ, List.set_cons_zero, List.set_cons_succ, List.length_cons, List.length_nil, List.map_cons, List.map_nil, List.replicate, List.cons_append, List.nil_append, e1, hr, -Ru.iR1_1]
  rw [e2]
  simp only [Ru.bind_some, Ru.seq_nx]
  exact e3
/-! ### made -/
theorem eq_enc {x : D} (hp : x.plain = true) (hd : x.depth ≤ 60) : gNe x x = some (.d (.bool false)) := ne_self hp hd
theorem join_sz {m : Nat} (op : C → C → C) (hop : ∀ a b, sz (op a b).enc ≤ sz a.enc + sz b.enc + 5) (hm : 4 ≤ m) : ∀ cs : List C, (∀ c ∈ cs, sz c.enc ≤ m) → sz (joinC op cs).enc ≤ (m + 5) * cs.length + 4
  | [], _ => by simp only [joinC, C.enc]; exact Nat.le_add_left 4 _
  | [c], h => by
    have := h c (by simp)
    simp only [joinC, List.length_cons, List.length_nil]
    omega
  | a :: b :: r, h => by
    have ih := join_sz op hop hm (b :: r) fun c hc => h c (by simp [hc])
    have h1 := h a (by simp)
    have h2 := hop a (joinC op (b :: r))
    show sz (op a (joinC op (b :: r))).enc ≤ _
    rw [List.length_cons, Nat.mul_add, Nat.mul_one]
    omega
theorem and_sz (a b : C) : sz (C.and a b).enc ≤ sz a.enc + sz b.enc + 5 := by
  have n4 := nm_sz.2.2.2.2.1
  simp only [C.enc, sz.eq_6, szAll, n4]
  omega
theorem or_sz (a b : C) : sz (C.or a b).enc ≤ sz a.enc + sz b.enc + 5 := by
  have n4 := nm_sz.2.2.2.2.2.1
  simp only [C.enc, sz.eq_6, szAll, n4]
  omega
theorem lit_sz {i a : Nat} : sz (litC i a).enc ≤ 12 := by
  unfold litC
  split
  · exact Nat.le_of_ble_eq_true rfl
  · exact Nat.le_of_ble_eq_true rfl
theorem at_sz {d a : Nat} (h3 : d ≤ 3) : sz (atC d a).enc ≤ 60 := by
  have := join_sz (m := 12) .and and_sz (by decide) ((List.range d).map fun i => litC i a) fun c hc => by
    obtain ⟨i, _, rfl⟩ := List.mem_map.mp hc
    exact lit_sz
  simp at this
  unfold atC
  omega
theorem cond_sz {d : Nat} {l : List Nat} (h3 : d ≤ 3) (hl : l.length ≤ 8) : sz (condC d l).enc ≤ 600 := by
  unfold condC
  split
  · exact Nat.le_of_ble_eq_true rfl
  · split
    · exact Nat.le_of_ble_eq_true rfl
    · have := join_sz (m := 60) .or or_sz (by decide) (l.map (atC d)) fun c hc => by
        obtain ⟨a, _, rfl⟩ := List.mem_map.mp hc
        exact at_sz h3
      simp at this
      omega
theorem L8 {B C' : C} {l : List Nat} (h1 : 1 ≤ d) (h3 : d ≤ 3) (hB : B.ok d = true) (dB : B.dep ≤ 6) (hC : C'.ok d = true) (dC : C'.dep ≤ 6) (hl : l.Sublist (AT d)) (hp : VP p) :
    ∃ p', r8_law m_law_pool m_law_world (m_condition_of 20) (m_law_condition 6) (m_law_same 30) (m_same_condition 20) m_law_pick m_law_atoms (m_law_holds 20) m_law_shuffled m_is_condition (m_atoms_where 20) (m_law_bent 60) m_is_world m_atoms_of m_law_draw (m_holds 20) (m_law_is_condition 45) m_law_is_integer ⟨[s0, .pool, .d (W d t), s3, s4, .d B.enc, .d C'.enc, s7, .d (.list (intsN l)), s9, s10, s11, s12, s13, s14, s15], p⟩ = some (.rt (.d (.bool true)) p') := by
  obtain ⟨q, rfl⟩ := hp.some
  have l8 : l.length ≤ 8 := Nat.le_trans hl.length_le (AT_len h3)
  obtain ⟨g, p1, hp1, hg, e1⟩ := e_shuffled (xs := intsN l) (by rw [len_intsN]; omega) hp
  have hlg : g.length = l.length := by rw [hg.length_eq, len_intsN]
  have hs1 := sset_t (AT_pw hl) (fun y => hg.mem_iff) (by omega)
  have hs2 : E.gSset (.list (intsN l ++ intsN l)) = some (.l (intsN l)) := sset_l (AT_pw hl) (fun y => by simp) (by rw [List.length_append, len_intsN]; omega)
  have e2 := e_condition_of (n := 20) (t := (t : Int)) h1 h3 (by decide) hs1 (by omega)
  have e3 := e_condition_of (n := 20) (t := (t : Int)) h1 h3 (by decide) hs2 (by omega)
  have ok := cond_ok (d := d) (l := l)
  have dp := cond_dep (d := d) h3 l8
  have hgd := enc_gd h3 _ ok
  have hpl := gd_plain _ hgd
  have hdp := enc_depth (condC d l)
  have hsz := enc_sz (condC d l)
  have e4 := e_atoms_where (n := 20) (t := (t : Int)) h1 h3 ok (by omega)
  have e5 : (AT d).filter (fun a => (condC d l).ev a) = l := by
    have e6 : (AT d).filter (fun a => (condC d l).ev a) = (AT d).filter fun a => decide (a ∈ l) := List.filter_congr fun a ha => cond_ev h1 h3 hl (by simpa [AT] using ha)
    rw [e6]
    have hnd : (AT d).Nodup := List.nodup_range
    have key : ∀ (m l : List Nat), m.Nodup → l.Sublist m → m.filter (fun a => decide (a ∈ l)) = l := by
      intro m
      induction m with
      | nil => intro l _ h; rw [List.sublist_nil.mp h]; rfl
      | cons x m ih =>
        intro l hn h
        obtain ⟨hx, hm⟩ := List.nodup_cons.mp hn
        cases h with
        | cons _ h' =>
          have : x ∉ l := fun z => hx (h'.subset z)
          rw [List.filter_cons_of_neg (by simpa using this)]
          exact ih l hm h'
        | cons_cons _ h' =>
          rename_i l'
          rw [List.filter_cons_of_pos (by simp)]
          congr 1
          have e7 : m.filter (fun a => decide (a ∈ x :: l')) = m.filter fun a => decide (a ∈ l') := List.filter_congr fun a ha => by
            have : a ≠ x := fun z => hx (z ▸ ha)
            simp [this]
          rw [e7]
          exact ih l' hm h'
    exact key _ _ hnd hl
  rw [e5] at e4
  have sz_ok : sz (condC d l).enc < 4000 := by
    have := cond_sz (d := d) h3 l8
    omega
  have e7 := e_is_condition (d := (d : Int)) (t := (t : Int)) hpl sz_ok
  rw [vC_enc _ 40 ok (by omega)] at e7
  have e8 := ne_self hpl (by omega)
  have e9 := ne_ints l l
  obtain ⟨p', e10⟩ := L10 (d := d) (t := t) (p := p1) (s0 := s0) (s3 := s3) (s4 := s4) (s7 := s7) (s8 := .d (.list (intsN l))) (s9 := .d (condC d l).enc) (s10 := s10) (s11 := s11) (s12 := s12) (s13 := s13) (s14 := s14) (s15 := s15) h3 hB dB hC dC hp1
  have hlen : (intsN l).length + (intsN l).length ≤ 16777216 := by rw [len_intsN]; omega
  refine ⟨p', ?_⟩
  simp [r8_law, r9_law, -Option.bind_some, -Option.map_some, Ru.c_e, Ru.v_e, Ru.v_d, Ru.rv_e, Ru.rv_d, Ru.rv_l, Ru.nil_e, Ru.cons_e, Ru.cons_d, Ru.cons_l, Ru.cons_2, Ru.tup_e, Ru.tup_d, Ru.lst_e, Ru.lst_d, Ru.rd_e, Ru.rd_d, Ru.rd_l, Ru.op_e, Ru.op_1, Ru.op_2, Ru.op_3, Ru.un_e, Ru.un_1, Ru.isi_e, Ru.ite_e, Ru.ite_t, Ru.ite_f, Ru.ofB_e, Ru.ofB_1, Ru.toB_e, Ru.toB_1, Ru.and_e, Ru.and_t, Ru.and_f, Ru.or_e, Ru.or_t, Ru.or_f, Ru.not_e, Ru.not_1, Ru.px_e, Ru.px_1, Ru.px_2, Ru.oN_e, Ru.oS_e, Ru.oS_1, Ru.sl_e, Ru.sl_1, Ru.sl_2, Ru.sl_3, Ru.sl3_e, Ru.tl_1, Ru.tl_2, Ru.tl_3, Ru.tl_4, Ru.call_e, Ru.call_1, Ru.call_2, Ru.callP_e, Ru.callP_1, Ru.callP_2, Ru.chain_e, Ru.ch_1, Ru.ch_2, Ru.ch_t, Ru.ch_f, Ru.iL_e, Ru.iL_d, Ru.iL_l, Ru.iT_e, Ru.iT_d, Ru.iR1_e, Ru.iR1_1, Ru.lR_e, Ru.lR_1, Ru.tN_e, Ru.tT_2, Ru.yes_e, Ru.lc_e, Ru.lc_1, Ru.lc_2, Ru.seq_e, Ru.seq_nx, Ru.seq_rt, Ru.nop_e, Ru.set_e, Ru.set_d, Ru.set_l, Ru.setL_e, Ru.setL_l, Ru.ret_e, Ru.ret_1, Ru.retV_e, Ru.retV_l, Ru.retV_d, Ru.frz_e, Ru.frz_l, Ru.sIte_e, Ru.sIte_t, Ru.sIte_f, Ru.for_e, Ru.for_1, Ru.for_nil, Ru.for_cons, Ru.fK_1, Ru.fK_nx, Ru.fK_rt, Ru.append_e, Ru.append_1, Ru.append_d, Ru.append_l, Ru.extend_e, Ru.extend_1, Ru.extend_l, Ru.pop_e, Ru.pop_1, Ru.setIx_e, Ru.setIx_d, Ru.setP_e, Ru.setP_d, Ru.setP_1, Ru.par_e, Ru.par_1, Ru.stup_e, Ru.stup_d, Ru.wK_t, Ru.wK_f, Ru.wK_nx, Ru.wK_rt, Ru.runB_f, Ru.runB_t, Ru.rb_f, Ru.rb_t, Ru.rb_n, Ru.lt_i, Ru.le_i, Ru.gt_i, Ru.ge_i, Ru.sub_i, Ru.add_i, Ru.add_s, Ru.add_t, Ru.add_l, Ru.mul_i, Ru.div_i, Ru.mod_i, Ru.neg_i, Ru.is_n, Ru.isNot_n, Ru.non_n, Ru.non_i, Ru.non_b, Ru.non_s, Ru.non_l, Ru.non_t, Ru.len_l, Ru.len_t, Ru.len_s, Ru.list_l, Ru.list_t, Ru.tuple_l, Ru.tuple_t, Ru.int_i, Ru.gsl_l, Ru.gsl_t, Ru.gsl_s, Ru.eq_s, Ru.eq_i, Ru.eq_b, Ru.ne_b, Ru.ne_s, Ru.ne_i, Ru.in_2, Ru.atI_0, Ru.atI_1, Ru.atI_2, Ru.ix_t, Ru.ix_l, Ru.cut_1, E.wipeS, Ru.bind_some, Option.bind_none, Ru.map_some, Option.map_none, List.getElem?_cons_zero, List.getElem?_cons_succ, List.set_cons_zero, List.set_cons_succ, List.length_cons, List.length_nil, List.map_cons, List.map_nil, List.replicate, List.cons_append, List.nil_append, e1, e2, e7, e4, e9]
  rw [Ru.add_l hlen]
  simp [-Option.bind_some, -Option.map_some, Ru.c_e, Ru.v_e, Ru.v_d, Ru.rv_e, Ru.rv_d, Ru.rv_l, Ru.nil_e, Ru.cons_e, Ru.cons_d, Ru.cons_l, Ru.cons_2, Ru.tup_e, Ru.tup_d, Ru.lst_e, Ru.lst_d, Ru.rd_e, Ru.rd_d, Ru.rd_l, Ru.op_e, Ru.op_1, Ru.op_2, Ru.op_3, Ru.un_e, Ru.un_1, Ru.isi_e, Ru.ite_e, Ru.ite_t, Ru.ite_f, Ru.ofB_e, Ru.ofB_1, Ru.toB_e, Ru.toB_1, Ru.and_e, Ru.and_t, Ru.and_f, Ru.or_e, Ru.or_t, Ru.or_f, Ru.not_e, Ru.not_1, Ru.px_e, Ru.px_1, Ru.px_2, Ru.oN_e, Ru.oS_e, Ru.oS_1, Ru.sl_e, Ru.sl_1, Ru.sl_2, Ru.sl_3, Ru.sl3_e, Ru.tl_1, Ru.tl_2, Ru.tl_3, Ru.tl_4, Ru.call_e, Ru.call_1, Ru.call_2, Ru.callP_e, Ru.callP_1, Ru.callP_2, Ru.chain_e, Ru.ch_1, Ru.ch_2, Ru.ch_t, Ru.ch_f, Ru.iL_e, Ru.iL_d, Ru.iL_l, Ru.iT_e, Ru.iT_d, Ru.iR1_e, Ru.iR1_1, Ru.lR_e, Ru.lR_1, Ru.tN_e, Ru.tT_2, Ru.yes_e, Ru.lc_e, Ru.lc_1, Ru.lc_2, Ru.seq_e, Ru.seq_nx, Ru.seq_rt, Ru.nop_e, Ru.set_e, Ru.set_d, Ru.set_l, Ru.setL_e, Ru.setL_l, Ru.ret_e, Ru.ret_1, Ru.retV_e, Ru.retV_l, Ru.retV_d, Ru.frz_e, Ru.frz_l, Ru.sIte_e, Ru.sIte_t, Ru.sIte_f, Ru.for_e, Ru.for_1, Ru.for_nil, Ru.for_cons, Ru.fK_1, Ru.fK_nx, Ru.fK_rt, Ru.append_e, Ru.append_1, Ru.append_d, Ru.append_l, Ru.extend_e, Ru.extend_1, Ru.extend_l, Ru.pop_e, Ru.pop_1, Ru.setIx_e, Ru.setIx_d, Ru.setP_e, Ru.setP_d, Ru.setP_1, Ru.par_e, Ru.par_1, Ru.stup_e, Ru.stup_d, Ru.wK_t, Ru.wK_f, Ru.wK_nx, Ru.wK_rt, Ru.runB_f, Ru.runB_t, Ru.rb_f, Ru.rb_t, Ru.rb_n, Ru.lt_i, Ru.le_i, Ru.gt_i, Ru.ge_i, Ru.sub_i, Ru.add_i, Ru.add_s, Ru.add_t, Ru.add_l, Ru.mul_i, Ru.div_i, Ru.mod_i, Ru.neg_i, Ru.is_n, Ru.isNot_n, Ru.non_n, Ru.non_i, Ru.non_b, Ru.non_s, Ru.non_l, Ru.non_t, Ru.len_l, Ru.len_t, Ru.len_s, Ru.list_l, Ru.list_t, Ru.tuple_l, Ru.tuple_t, Ru.int_i, Ru.gsl_l, Ru.gsl_t, Ru.gsl_s, Ru.eq_s, Ru.eq_i, Ru.eq_b, Ru.ne_b, Ru.ne_s, Ru.ne_i, Ru.in_2, Ru.atI_0, Ru.atI_1, Ru.atI_2, Ru.ix_t, Ru.ix_l, Ru.cut_1, E.wipeS, Ru.bind_some, Option.bind_none, Ru.map_some, Option.map_none, List.getElem?_cons_zero, List.getElem?_cons_succ, List.set_cons_zero, List.set_cons_succ, List.length_cons, List.length_nil, List.map_cons, List.map_nil, List.replicate, List.cons_append, List.nil_append, e3, e8]
  exact e10
end
end K1

/-! deedsagain k01: the law, its first half. -/
namespace K1
open PySem PySem.Spec L2 Dg
open Dg.Ru (isI isB isS isTu isLi isT_int isT_bool isT_str isT_list isT_tuple)
set_option maxHeartbeats 0
section
variable {d t : Nat} {s0 s1 s2 s3 s4 s5 s6 s7 s8 s9 s10 s11 s12 s13 s14 s15 : Sl} {p : Pl}
/-! ### some atoms -/
theorem picks : ∀ (js : List Nat) (acc : List D) (p : Pl), VP p → ∃ (l : List Nat) (p' : Pl), l.Sublist js ∧ VP p' ∧
    E.lcL (E.tN 15) (E.toB (E.op gEq (E.rd (E.callP 1 m_law_draw (E.cons (E.c (.int 2)) E.nil))) (E.rd (E.c (.int 0))))) (E.v 15) [s0, .pool, s2, s3, s4, s5, s6, s7, s8, s9, s10, s11, s12, s13, s14, .un] (intsN js) p acc = some (acc ++ intsN l, p')
  | [], acc, p, hp => ⟨[], p, List.Sublist.slnil, hp, by simp [E.lcL, intsN]⟩
  | j :: js, acc, p, hp => by
    obtain ⟨v, p1, hp1, v0, v1, e1⟩ := draw_ok (many := 2) (by decide) (by decide) hp
    obtain ⟨q, rfl⟩ := hp.some
    have hc : E.toB (E.op gEq (E.rd (E.callP 1 m_law_draw (E.cons (E.c (.int 2)) E.nil))) (E.rd (E.c (.int 0)))) ⟨[s0, .pool, s2, s3, s4, s5, s6, s7, s8, s9, s10, s11, s12, s13, s14, .d (.int (j : Int))], some q⟩ = some (v == 0, p1) := by
      simp [-Option.bind_some, -Option.map_some, Ru.c_e, Ru.v_e, Ru.v_d, Ru.rv_e, Ru.rv_d, Ru.rv_l, Ru.nil_e, Ru.cons_e, Ru.cons_d, Ru.cons_l, Ru.cons_2, Ru.tup_e, Ru.tup_d, Ru.lst_e, Ru.lst_d, Ru.rd_e, Ru.rd_d, Ru.rd_l, Ru.op_e, Ru.op_1, Ru.op_2, Ru.op_3, Ru.un_e, Ru.un_1, Ru.isi_e, Ru.ite_e, Ru.ite_t, Ru.ite_f, Ru.ofB_e, Ru.ofB_1, Ru.toB_e, Ru.toB_1, Ru.and_e, Ru.and_t, Ru.and_f, Ru.or_e, Ru.or_t, Ru.or_f, Ru.not_e, Ru.not_1, Ru.px_e, Ru.px_1, Ru.px_2, Ru.oN_e, Ru.oS_e, Ru.oS_1, Ru.sl_e, Ru.sl_1, Ru.sl_2, Ru.sl_3, Ru.sl3_e, Ru.tl_1, Ru.tl_2, Ru.tl_3, Ru.tl_4, Ru.call_e, Ru.call_1, Ru.call_2, Ru.callP_e, Ru.callP_1, Ru.callP_2, Ru.chain_e, Ru.ch_1, Ru.ch_2, Ru.ch_t, Ru.ch_f, Ru.iL_e, Ru.iL_d, Ru.iL_l, Ru.iT_e, Ru.iT_d, Ru.iR1_e, Ru.iR1_1, Ru.lR_e, Ru.lR_1, Ru.tN_e, Ru.tT_2, Ru.yes_e, Ru.lc_e, Ru.lc_1, Ru.lc_2, Ru.seq_e, Ru.seq_nx, Ru.seq_rt, Ru.nop_e, Ru.set_e, Ru.set_d, Ru.set_l, Ru.setL_e, Ru.setL_l, Ru.ret_e, Ru.ret_1, Ru.retV_e, Ru.retV_l, Ru.retV_d, Ru.frz_e, Ru.frz_l, Ru.sIte_e, Ru.sIte_t, Ru.sIte_f, Ru.for_e, Ru.for_1, Ru.for_nil, Ru.for_cons, Ru.fK_1, Ru.fK_nx, Ru.fK_rt, Ru.append_e, Ru.append_1, Ru.append_d, Ru.append_l, Ru.extend_e, Ru.extend_1, Ru.extend_l, Ru.pop_e, Ru.pop_1, Ru.setIx_e, Ru.setIx_d, Ru.setP_e, Ru.setP_d, Ru.setP_1, Ru.par_e, Ru.par_1, Ru.stup_e, Ru.stup_d, Ru.wK_t, Ru.wK_f, Ru.wK_nx, Ru.wK_rt, Ru.runB_f, Ru.runB_t, Ru.rb_f, Ru.rb_t, Ru.rb_n, Ru.lt_i, Ru.le_i, Ru.gt_i, Ru.ge_i, Ru.sub_i, Ru.add_i, Ru.add_s, Ru.add_t, Ru.add_l, Ru.mul_i, Ru.div_i, Ru.mod_i, Ru.neg_i, Ru.is_n, Ru.isNot_n, Ru.non_n, Ru.non_i, Ru.non_b, Ru.non_s, Ru.non_l, Ru.non_t, Ru.len_l, Ru.len_t, Ru.len_s, Ru.list_l, Ru.list_t, Ru.tuple_l, Ru.tuple_t, Ru.int_i, Ru.gsl_l, Ru.gsl_t, Ru.gsl_s, Ru.eq_s, Ru.eq_i, Ru.eq_b, Ru.ne_b, Ru.ne_s, Ru.ne_i, Ru.in_2, Ru.atI_0, Ru.atI_1, Ru.atI_2, Ru.ix_t, Ru.ix_l, Ru.cut_1, E.wipeS, Ru.bind_some, Option.bind_none, Ru.map_some, Option.map_none, List.getElem?_cons_zero, List.getElem?_cons_succ, List.set_cons_zero, List.set_cons_succ, List.length_cons, List.length_nil, List.map_cons, List.map_nil, List.replicate, List.cons_append, List.nil_append, e1]
    by_cases h : v = 0
    · obtain ⟨l, p', hl, hp', ih⟩ := picks js (acc ++ [.int (j : Int)]) p1 hp1
      refine ⟨j :: l, p', hl.cons_cons j, hp', ?_⟩
      have hv : (v == 0) = true := by simp [h]
      show E.lcL _ _ _ _ (.int (j : Int) :: intsN js) _ _ = _
      simp only [E.lcL, Ru.tN_e, Option.bind_some, List.set_cons_succ, List.set_cons_zero]
      rw [hc, hv]
      simp only [Option.bind_some, if_true, Ru.v_e, List.getElem?_cons_zero, List.getElem?_cons_succ, Ru.v_d, toD]
      rw [ih]
      simp [intsN]
    · obtain ⟨l, p', hl, hp', ih⟩ := picks js acc p1 hp1
      refine ⟨l, p', hl.cons j, hp', ?_⟩
      have hv : (v == 0) = false := beq_false_of_ne h
      show E.lcL _ _ _ _ (.int (j : Int) :: intsN js) _ _ = _
      simp only [E.lcL, Ru.tN_e, Option.bind_some, List.set_cons_succ, List.set_cons_zero]
      rw [hc, hv]
      simp only [Option.bind_some, Bool.false_eq_true, if_false]
      exact ih
theorem AT_len' (h3 : d ≤ 3) : (intsN (AT d)).length ≤ 16777216 := by
  rw [len_intsN]
  have := AT_len h3
  omega
theorem L7 {B C' : C} (h1 : 1 ≤ d) (h3 : d ≤ 3) (hB : B.ok d = true) (dB : B.dep ≤ 6) (hC : C'.ok d = true) (dC : C'.dep ≤ 6) (hp : VP p) :
    ∃ p', r7_law m_law_pool m_law_world (m_condition_of 20) (m_law_condition 6) (m_law_same 30) (m_same_condition 20) m_law_pick m_law_atoms (m_law_holds 20) m_law_shuffled m_is_condition (m_atoms_where 20) (m_law_bent 60) m_is_world m_atoms_of m_law_draw (m_holds 20) (m_law_is_condition 45) m_law_is_integer ⟨[s0, .pool, .d (W d t), s3, s4, .d B.enc, .d C'.enc, s7, s8, s9, s10, s11, s12, s13, s14, s15], p⟩ = some (.rt (.d (.bool true)) p') := by
  obtain ⟨l, p1, hl, hp1, e1⟩ := picks (s0 := s0) (s2 := .d (W d t)) (s3 := s3) (s4 := s4) (s5 := .d B.enc) (s6 := .d C'.enc) (s7 := s7) (s8 := s8) (s9 := s9) (s10 := s10) (s11 := s11) (s12 := s12) (s13 := s13) (s14 := s14) (AT d) [] p hp
  rw [List.nil_append] at e1
  obtain ⟨p', e2⟩ := L8 (d := d) (t := t) (p := p1) (s0 := s0) (s3 := s3) (s4 := s4) (s7 := s7) (s9 := s9) (s10 := s10) (s11 := s11) (s12 := s12) (s13 := s13) (s14 := s14) (s15 := s15) h1 h3 hB dB hC dC hl hp1
  have ha := e_law_atoms (t := (t : Int)) h1 h3
  have hl' := AT_len' h3
  refine ⟨p', ?_⟩
  simp [r7_law, -Option.bind_some, -Option.map_some, Ru.c_e, Ru.v_e, Ru.v_d, Ru.rv_e, Ru.rv_d, Ru.rv_l, Ru.nil_e, Ru.cons_e, Ru.cons_d, Ru.cons_l, Ru.cons_2, Ru.tup_e, Ru.tup_d, Ru.lst_e, Ru.lst_d, Ru.rd_e, Ru.rd_d, Ru.rd_l, Ru.op_e, Ru.op_1, Ru.op_2, Ru.op_3, Ru.un_e, Ru.un_1, Ru.isi_e, Ru.ite_e, Ru.ite_t, Ru.ite_f, Ru.ofB_e, Ru.ofB_1, Ru.toB_e, Ru.toB_1, Ru.and_e, Ru.and_t, Ru.and_f, Ru.or_e, Ru.or_t, Ru.or_f, Ru.not_e, Ru.not_1, Ru.px_e, Ru.px_1, Ru.px_2, Ru.oN_e, Ru.oS_e, Ru.oS_1, Ru.sl_e, Ru.sl_1, Ru.sl_2, Ru.sl_3, Ru.sl3_e, Ru.tl_1, Ru.tl_2, Ru.tl_3, Ru.tl_4, Ru.call_e, Ru.call_1, Ru.call_2, Ru.callP_e, Ru.callP_1, Ru.callP_2, Ru.chain_e, Ru.ch_1, Ru.ch_2, Ru.ch_t, Ru.ch_f, Ru.iL_e, Ru.iL_d, Ru.iL_l, Ru.iT_e, Ru.iT_d, Ru.iR1_e, Ru.iR1_1, Ru.lR_e, Ru.lR_1, Ru.tN_e, Ru.tT_2, Ru.yes_e, Ru.lc_e, Ru.lc_1, Ru.lc_2, Ru.seq_e, Ru.seq_nx, Ru.seq_rt, Ru.nop_e, Ru.set_e, Ru.set_d, Ru.set_l, Ru.setL_e, Ru.setL_l, Ru.ret_e, Ru.ret_1, Ru.retV_e, Ru.retV_l, Ru.retV_d, Ru.frz_e, Ru.frz_l, Ru.sIte_e, Ru.sIte_t, Ru.sIte_f, Ru.for_e, Ru.for_1, Ru.for_nil, Ru.for_cons, Ru.fK_1, Ru.fK_nx, Ru.fK_rt, Ru.append_e, Ru.append_1, Ru.append_d, Ru.append_l, Ru.extend_e, Ru.extend_1, Ru.extend_l, Ru.pop_e, Ru.pop_1, Ru.setIx_e, Ru.setIx_d, Ru.setP_e, Ru.setP_d, Ru.setP_1, Ru.par_e, Ru.par_1, Ru.stup_e, Ru.stup_d, Ru.wK_t, Ru.wK_f, Ru.wK_nx, Ru.wK_rt, Ru.runB_f, Ru.runB_t, Ru.rb_f, Ru.rb_t, Ru.rb_n, Ru.lt_i, Ru.le_i, Ru.gt_i, Ru.ge_i, Ru.sub_i, Ru.add_i, Ru.add_s, Ru.add_t, Ru.add_l, Ru.mul_i, Ru.div_i, Ru.mod_i, Ru.neg_i, Ru.is_n, Ru.isNot_n, Ru.non_n, Ru.non_i, Ru.non_b, Ru.non_s, Ru.non_l, Ru.non_t, Ru.len_l, Ru.len_t, Ru.len_s, Ru.list_l, Ru.list_t, Ru.tuple_l, Ru.tuple_t, Ru.int_i, Ru.gsl_l, Ru.gsl_t, Ru.gsl_s, Ru.eq_s, Ru.eq_i, Ru.eq_b, Ru.ne_b, Ru.ne_s, Ru.ne_i, Ru.in_2, Ru.atI_0, Ru.atI_1, Ru.atI_2, Ru.ix_t, Ru.ix_l, Ru.cut_1, E.wipeS, Ru.bind_some, Option.bind_none, Ru.map_some, Option.map_none, List.getElem?_cons_zero, List.getElem?_cons_succ, List.set_cons_zero, List.set_cons_succ, List.length_cons, List.length_nil, List.map_cons, List.map_nil, List.replicate, List.cons_append, List.nil_append, ha, hl', e1]
  exact e2
/-! ### truth here and there -/
theorem true5 {c : C} (h3 : d ≤ 3) (hc : c.ok d = true) (dc : c.dep ≤ 20) : E.lcL (E.tN 15) (E.toB (E.call (m_law_holds 20) (E.cons (E.v 5) (E.cons (E.v 15) E.nil)))) (E.v 15) [s0, s1, s2, s3, s4, .d c.enc, s6, s7, s8, s9, s10, s11, s12, s13, s14, .un] (intsN (AT d)) p [] = some (intsN ((AT d).filter fun a => c.ev a), p) := by
  have hh : ∀ a : Nat, m_law_holds 20 [c.enc, .int a] none = some (.d (.bool (c.ev a)), none) := fun a => e_law_holds 20 c (ok_mono h3 c hc) dc
  rw [Ru.lc_pure (fun x => c.ev (natD x)) id, List.map_id, List.nil_append, ints_filter (fun a => c.ev a) _ _ (fun a _ => by simp [natD_int])]
  intro x hx
  obtain ⟨a, _, rfl⟩ := List.mem_map.mp hx
  refine ⟨_, rfl, ?_, fun _ => ⟨.d (.int a), ?_, rfl⟩⟩
  · simp [-Option.bind_some, -Option.map_some, Ru.c_e, Ru.v_e, Ru.v_d, Ru.rv_e, Ru.rv_d, Ru.rv_l, Ru.nil_e, Ru.cons_e, Ru.cons_d, Ru.cons_l, Ru.cons_2, Ru.tup_e, Ru.tup_d, Ru.lst_e, Ru.lst_d, Ru.rd_e, Ru.rd_d, Ru.rd_l, Ru.op_e, Ru.op_1, Ru.op_2, Ru.op_3, Ru.un_e, Ru.un_1, Ru.isi_e, Ru.ite_e, Ru.ite_t, Ru.ite_f, Ru.ofB_e, Ru.ofB_1, Ru.toB_e, Ru.toB_1, Ru.and_e, Ru.and_t, Ru.and_f, Ru.or_e, Ru.or_t, Ru.or_f, Ru.not_e, Ru.not_1, Ru.px_e, Ru.px_1, Ru.px_2, Ru.oN_e, Ru.oS_e, Ru.oS_1, Ru.sl_e, Ru.sl_1, Ru.sl_2, Ru.sl_3, Ru.sl3_e, Ru.tl_1, Ru.tl_2, Ru.tl_3, Ru.tl_4, Ru.call_e, Ru.call_1, Ru.call_2, Ru.callP_e, Ru.callP_1, Ru.callP_2, Ru.chain_e, Ru.ch_1, Ru.ch_2, Ru.ch_t, Ru.ch_f, Ru.iL_e, Ru.iL_d, Ru.iL_l, Ru.iT_e, Ru.iT_d, Ru.iR1_e, Ru.iR1_1, Ru.lR_e, Ru.lR_1, Ru.tN_e, Ru.tT_2, Ru.yes_e, Ru.lc_e, Ru.lc_1, Ru.lc_2, Ru.seq_e, Ru.seq_nx, Ru.seq_rt, Ru.nop_e, Ru.set_e, Ru.set_d, Ru.set_l, Ru.setL_e, Ru.setL_l, Ru.ret_e, Ru.ret_1, Ru.retV_e, Ru.retV_l, Ru.retV_d, Ru.frz_e, Ru.frz_l, Ru.sIte_e, Ru.sIte_t, Ru.sIte_f, Ru.for_e, Ru.for_1, Ru.for_nil, Ru.for_cons, Ru.fK_1, Ru.fK_nx, Ru.fK_rt, Ru.append_e, Ru.append_1, Ru.append_d, Ru.append_l, Ru.extend_e, Ru.extend_1, Ru.extend_l, Ru.pop_e, Ru.pop_1, Ru.setIx_e, Ru.setIx_d, Ru.setP_e, Ru.setP_d, Ru.setP_1, Ru.par_e, Ru.par_1, Ru.stup_e, Ru.stup_d, Ru.wK_t, Ru.wK_f, Ru.wK_nx, Ru.wK_rt, Ru.runB_f, Ru.runB_t, Ru.rb_f, Ru.rb_t, Ru.rb_n, Ru.lt_i, Ru.le_i, Ru.gt_i, Ru.ge_i, Ru.sub_i, Ru.add_i, Ru.add_s, Ru.add_t, Ru.add_l, Ru.mul_i, Ru.div_i, Ru.mod_i, Ru.neg_i, Ru.is_n, Ru.isNot_n, Ru.non_n, Ru.non_i, Ru.non_b, Ru.non_s, Ru.non_l, Ru.non_t, Ru.len_l, Ru.len_t, Ru.len_s, Ru.list_l, Ru.list_t, Ru.tuple_l, Ru.tuple_t, Ru.int_i, Ru.gsl_l, Ru.gsl_t, Ru.gsl_s, Ru.eq_s, Ru.eq_i, Ru.eq_b, Ru.ne_b, Ru.ne_s, Ru.ne_i, Ru.in_2, Ru.atI_0, Ru.atI_1, Ru.atI_2, Ru.ix_t, Ru.ix_l, Ru.cut_1, E.wipeS, Ru.bind_some, Option.bind_none, Ru.map_some, Option.map_none, List.getElem?_cons_zero, List.getElem?_cons_succ, List.set_cons_zero, List.set_cons_succ, List.length_cons, List.length_nil, List.map_cons, List.map_nil, List.replicate, List.cons_append, List.nil_append, hh, natD_int]
  · simp [-Option.bind_some, -Option.map_some, Ru.c_e, Ru.v_e, Ru.v_d, Ru.rv_e, Ru.rv_d, Ru.rv_l, Ru.nil_e, Ru.cons_e, Ru.cons_d, Ru.cons_l, Ru.cons_2, Ru.tup_e, Ru.tup_d, Ru.lst_e, Ru.lst_d, Ru.rd_e, Ru.rd_d, Ru.rd_l, Ru.op_e, Ru.op_1, Ru.op_2, Ru.op_3, Ru.un_e, Ru.un_1, Ru.isi_e, Ru.ite_e, Ru.ite_t, Ru.ite_f, Ru.ofB_e, Ru.ofB_1, Ru.toB_e, Ru.toB_1, Ru.and_e, Ru.and_t, Ru.and_f, Ru.or_e, Ru.or_t, Ru.or_f, Ru.not_e, Ru.not_1, Ru.px_e, Ru.px_1, Ru.px_2, Ru.oN_e, Ru.oS_e, Ru.oS_1, Ru.sl_e, Ru.sl_1, Ru.sl_2, Ru.sl_3, Ru.sl3_e, Ru.tl_1, Ru.tl_2, Ru.tl_3, Ru.tl_4, Ru.call_e, Ru.call_1, Ru.call_2, Ru.callP_e, Ru.callP_1, Ru.callP_2, Ru.chain_e, Ru.ch_1, Ru.ch_2, Ru.ch_t, Ru.ch_f, Ru.iL_e, Ru.iL_d, Ru.iL_l, Ru.iT_e, Ru.iT_d, Ru.iR1_e, Ru.iR1_1, Ru.lR_e, Ru.lR_1, Ru.tN_e, Ru.tT_2, Ru.yes_e, Ru.lc_e, Ru.lc_1, Ru.lc_2, Ru.seq_e, Ru.seq_nx, Ru.seq_rt, Ru.nop_e, Ru.set_e, Ru.set_d, Ru.set_l, Ru.setL_e, Ru.setL_l, Ru.ret_e, Ru.ret_1, Ru.retV_e, Ru.retV_l, Ru.retV_d, Ru.frz_e, Ru.frz_l, Ru.sIte_e, Ru.sIte_t, Ru.sIte_f, Ru.for_e, Ru.for_1, Ru.for_nil, Ru.for_cons, Ru.fK_1, Ru.fK_nx, Ru.fK_rt, Ru.append_e, Ru.append_1, Ru.append_d, Ru.append_l, Ru.extend_e, Ru.extend_1, Ru.extend_l, Ru.pop_e, Ru.pop_1, Ru.setIx_e, Ru.setIx_d, Ru.setP_e, Ru.setP_d, Ru.setP_1, Ru.par_e, Ru.par_1, Ru.stup_e, Ru.stup_d, Ru.wK_t, Ru.wK_f, Ru.wK_nx, Ru.wK_rt, Ru.runB_f, Ru.runB_t, Ru.rb_f, Ru.rb_t, Ru.rb_n, Ru.lt_i, Ru.le_i, Ru.gt_i, Ru.ge_i, Ru.sub_i, Ru.add_i, Ru.add_s, Ru.add_t, Ru.add_l, Ru.mul_i, Ru.div_i, Ru.mod_i, Ru.neg_i, Ru.is_n, Ru.isNot_n, Ru.non_n, Ru.non_i, Ru.non_b, Ru.non_s, Ru.non_l, Ru.non_t, Ru.len_l, Ru.len_t, Ru.len_s, Ru.list_l, Ru.list_t, Ru.tuple_l, Ru.tuple_t, Ru.int_i, Ru.gsl_l, Ru.gsl_t, Ru.gsl_s, Ru.eq_s, Ru.eq_i, Ru.eq_b, Ru.ne_b, Ru.ne_s, Ru.ne_i, Ru.in_2, Ru.atI_0, Ru.atI_1, Ru.atI_2, Ru.ix_t, Ru.ix_l, Ru.cut_1, E.wipeS, Ru.bind_some, Option.bind_none, Ru.map_some, Option.map_none, List.getElem?_cons_zero, List.getElem?_cons_succ, List.set_cons_zero, List.set_cons_succ, List.length_cons, List.length_nil, List.map_cons, List.map_nil, List.replicate, List.cons_append, List.nil_append]
theorem true6 {c : C} (h3 : d ≤ 3) (hc : c.ok d = true) (dc : c.dep ≤ 20) : E.lcL (E.tN 15) (E.toB (E.call (m_law_holds 20) (E.cons (E.v 6) (E.cons (E.v 15) E.nil)))) (E.v 15) [s0, s1, s2, s3, s4, s5, .d c.enc, s7, s8, s9, s10, s11, s12, s13, s14, .un] (intsN (AT d)) p [] = some (intsN ((AT d).filter fun a => c.ev a), p) := by
  have hh : ∀ a : Nat, m_law_holds 20 [c.enc, .int a] none = some (.d (.bool (c.ev a)), none) := fun a => e_law_holds 20 c (ok_mono h3 c hc) dc
  rw [Ru.lc_pure (fun x => c.ev (natD x)) id, List.map_id, List.nil_append, ints_filter (fun a => c.ev a) _ _ (fun a _ => by simp [natD_int])]
  intro x hx
  obtain ⟨a, _, rfl⟩ := List.mem_map.mp hx
  refine ⟨_, rfl, ?_, fun _ => ⟨.d (.int a), ?_, rfl⟩⟩
  · simp [-Option.bind_some, -Option.map_some, Ru.c_e, Ru.v_e, Ru.v_d, Ru.rv_e, Ru.rv_d, Ru.rv_l, Ru.nil_e, Ru.cons_e, Ru.cons_d, Ru.cons_l, Ru.cons_2, Ru.tup_e, Ru.tup_d, Ru.lst_e, Ru.lst_d, Ru.rd_e, Ru.rd_d, Ru.rd_l, Ru.op_e, Ru.op_1, Ru.op_2, Ru.op_3, Ru.un_e, Ru.un_1, Ru.isi_e, Ru.ite_e, Ru.ite_t, Ru.ite_f, Ru.ofB_e, Ru.ofB_1, Ru.toB_e, Ru.toB_1, Ru.and_e, Ru.and_t, Ru.and_f, Ru.or_e, Ru.or_t, Ru.or_f, Ru.not_e, Ru.not_1, Ru.px_e, Ru.px_1, Ru.px_2, Ru.oN_e, Ru.oS_e, Ru.oS_1, Ru.sl_e, Ru.sl_1, Ru.sl_2, Ru.sl_3, Ru.sl3_e, Ru.tl_1, Ru.tl_2, Ru.tl_3, Ru.tl_4, Ru.call_e, Ru.call_1, Ru.call_2, Ru.callP_e, Ru.callP_1, Ru.callP_2, Ru.chain_e, Ru.ch_1, Ru.ch_2, Ru.ch_t, Ru.ch_f, Ru.iL_e, Ru.iL_d, Ru.iL_l, Ru.iT_e, Ru.iT_d, Ru.iR1_e, Ru.iR1_1, Ru.lR_e, Ru.lR_1, Ru.tN_e, Ru.tT_2, Ru.yes_e, Ru.lc_e, Ru.lc_1, Ru.lc_2, Ru.seq_e, Ru.seq_nx, Ru.seq_rt, Ru.nop_e, Ru.set_e, Ru.set_d, Ru.set_l, Ru.setL_e, Ru.setL_l, Ru.ret_e, Ru.ret_1, Ru.retV_e, Ru.retV_l, Ru.retV_d, Ru.frz_e, Ru.frz_l, Ru.sIte_e, Ru.sIte_t, Ru.sIte_f, Ru.for_e, Ru.for_1, Ru.for_nil, Ru.for_cons, Ru.fK_1, Ru.fK_nx, Ru.fK_rt, Ru.append_e, Ru.append_1, Ru.append_d, Ru.append_l, Ru.extend_e, Ru.extend_1, Ru.extend_l, Ru.pop_e, Ru.pop_1, Ru.setIx_e, Ru.setIx_d, Ru.setP_e, Ru.setP_d, Ru.setP_1, Ru.par_e, Ru.par_1, Ru.stup_e, Ru.stup_d, Ru.wK_t, Ru.wK_f, Ru.wK_nx, Ru.wK_rt, Ru.runB_f, Ru.runB_t, Ru.rb_f, Ru.rb_t, Ru.rb_n, Ru.lt_i, Ru.le_i, Ru.gt_i, Ru.ge_i, Ru.sub_i, Ru.add_i, Ru.add_s, Ru.add_t, Ru.add_l, Ru.mul_i, Ru.div_i, Ru.mod_i, Ru.neg_i, Ru.is_n, Ru.isNot_n, Ru.non_n, Ru.non_i, Ru.non_b, Ru.non_s, Ru.non_l, Ru.non_t, Ru.len_l, Ru.len_t, Ru.len_s, Ru.list_l, Ru.list_t, Ru.tuple_l, Ru.tuple_t, Ru.int_i, Ru.gsl_l, Ru.gsl_t, Ru.gsl_s, Ru.eq_s, Ru.eq_i, Ru.eq_b, Ru.ne_b, Ru.ne_s, Ru.ne_i, Ru.in_2, Ru.atI_0, Ru.atI_1, Ru.atI_2, Ru.ix_t, Ru.ix_l, Ru.cut_1, E.wipeS, Ru.bind_some, Option.bind_none, Ru.map_some, Option.map_none, List.getElem?_cons_zero, List.getElem?_cons_succ, List.set_cons_zero, List.set_cons_succ, List.length_cons, List.length_nil, List.map_cons, List.map_nil, List.replicate, List.cons_append, List.nil_append, hh, natD_int]
  · simp [-Option.bind_some, -Option.map_some, Ru.c_e, Ru.v_e, Ru.v_d, Ru.rv_e, Ru.rv_d, Ru.rv_l, Ru.nil_e, Ru.cons_e, Ru.cons_d, Ru.cons_l, Ru.cons_2, Ru.tup_e, Ru.tup_d, Ru.lst_e, Ru.lst_d, Ru.rd_e, Ru.rd_d, Ru.rd_l, Ru.op_e, Ru.op_1, Ru.op_2, Ru.op_3, Ru.un_e, Ru.un_1, Ru.isi_e, Ru.ite_e, Ru.ite_t, Ru.ite_f, Ru.ofB_e, Ru.ofB_1, Ru.toB_e, Ru.toB_1, Ru.and_e, Ru.and_t, Ru.and_f, Ru.or_e, Ru.or_t, Ru.or_f, Ru.not_e, Ru.not_1, Ru.px_e, Ru.px_1, Ru.px_2, Ru.oN_e, Ru.oS_e, Ru.oS_1, Ru.sl_e, Ru.sl_1, Ru.sl_2, Ru.sl_3, Ru.sl3_e, Ru.tl_1, Ru.tl_2, Ru.tl_3, Ru.tl_4, Ru.call_e, Ru.call_1, Ru.call_2, Ru.callP_e, Ru.callP_1, Ru.callP_2, Ru.chain_e, Ru.ch_1, Ru.ch_2, Ru.ch_t, Ru.ch_f, Ru.iL_e, Ru.iL_d, Ru.iL_l, Ru.iT_e, Ru.iT_d, Ru.iR1_e, Ru.iR1_1, Ru.lR_e, Ru.lR_1, Ru.tN_e, Ru.tT_2, Ru.yes_e, Ru.lc_e, Ru.lc_1, Ru.lc_2, Ru.seq_e, Ru.seq_nx, Ru.seq_rt, Ru.nop_e, Ru.set_e, Ru.set_d, Ru.set_l, Ru.setL_e, Ru.setL_l, Ru.ret_e, Ru.ret_1, Ru.retV_e, Ru.retV_l, Ru.retV_d, Ru.frz_e, Ru.frz_l, Ru.sIte_e, Ru.sIte_t, Ru.sIte_f, Ru.for_e, Ru.for_1, Ru.for_nil, Ru.for_cons, Ru.fK_1, Ru.fK_nx, Ru.fK_rt, Ru.append_e, Ru.append_1, Ru.append_d, Ru.append_l, Ru.extend_e, Ru.extend_1, Ru.extend_l, Ru.pop_e, Ru.pop_1, Ru.setIx_e, Ru.setIx_d, Ru.setP_e, Ru.setP_d, Ru.setP_1, Ru.par_e, Ru.par_1, Ru.stup_e, Ru.stup_d, Ru.wK_t, Ru.wK_f, Ru.wK_nx, Ru.wK_rt, Ru.runB_f, Ru.runB_t, Ru.rb_f, Ru.rb_t, Ru.rb_n, Ru.lt_i, Ru.le_i, Ru.gt_i, Ru.ge_i, Ru.sub_i, Ru.add_i, Ru.add_s, Ru.add_t, Ru.add_l, Ru.mul_i, Ru.div_i, Ru.mod_i, Ru.neg_i, Ru.is_n, Ru.isNot_n, Ru.non_n, Ru.non_i, Ru.non_b, Ru.non_s, Ru.non_l, Ru.non_t, Ru.len_l, Ru.len_t, Ru.len_s, Ru.list_l, Ru.list_t, Ru.tuple_l, Ru.tuple_t, Ru.int_i, Ru.gsl_l, Ru.gsl_t, Ru.gsl_s, Ru.eq_s, Ru.eq_i, Ru.eq_b, Ru.ne_b, Ru.ne_s, Ru.ne_i, Ru.in_2, Ru.atI_0, Ru.atI_1, Ru.atI_2, Ru.ix_t, Ru.ix_l, Ru.cut_1, E.wipeS, Ru.bind_some, Option.bind_none, Ru.map_some, Option.map_none, List.getElem?_cons_zero, List.getElem?_cons_succ, List.set_cons_zero, List.set_cons_succ, List.length_cons, List.length_nil, List.map_cons, List.map_nil, List.replicate, List.cons_append, List.nil_append]
def bools (c : C) (d : Nat) : List D := (AT d).map fun a => .bool (c.ev a)
theorem bools_eq (c : C) (d : Nat) : (intsN (AT d)).map (fun x => PyData.bool (c.ev (natD x))) = bools c d := by
  unfold intsN bools
  rw [List.map_map]
  refine List.map_congr_left fun a _ => ?_
  simp [natD_int]
theorem all5 {c : C} (h3 : d ≤ 3) (hc : c.ok d = true) (dc : c.dep ≤ 20) : E.lcL (E.tN 15) E.yes (E.call (m_holds 20) (E.cons (E.v 5) (E.cons (E.v 15) E.nil))) [s0, s1, s2, s3, s4, .d c.enc, s6, s7, s8, s9, s10, s11, s12, s13, s14, .un] (intsN (AT d)) p [] = some (bools c d, p) := by
  have hh : ∀ a : Nat, m_holds 20 [c.enc, .int a] none = some (.d (.bool (c.ev a)), none) := fun a => e_holds 20 c (ok_mono h3 c hc) dc
  rw [Ru.lc_map (fun x => .bool (c.ev (natD x))), List.nil_append, bools_eq]
  intro x hx
  obtain ⟨a, _, rfl⟩ := List.mem_map.mp hx
  refine ⟨_, rfl, rfl, .d (.bool (c.ev a)), ?_, by rw [natD_int]; rfl⟩
  simp [-Option.bind_some, -Option.map_some, Ru.c_e, Ru.v_e, Ru.v_d, Ru.rv_e, Ru.rv_d, Ru.rv_l, Ru.nil_e, Ru.cons_e, Ru.cons_d, Ru.cons_l, Ru.cons_2, Ru.tup_e, Ru.tup_d, Ru.lst_e, Ru.lst_d, Ru.rd_e, Ru.rd_d, Ru.rd_l, Ru.op_e, Ru.op_1, Ru.op_2, Ru.op_3, Ru.un_e, Ru.un_1, Ru.isi_e, Ru.ite_e, Ru.ite_t, Ru.ite_f, Ru.ofB_e, Ru.ofB_1, Ru.toB_e, Ru.toB_1, Ru.and_e, Ru.and_t, Ru.and_f, Ru.or_e, Ru.or_t, Ru.or_f, Ru.not_e, Ru.not_1, Ru.px_e, Ru.px_1, Ru.px_2, Ru.oN_e, Ru.oS_e, Ru.oS_1, Ru.sl_e, Ru.sl_1, Ru.sl_2, Ru.sl_3, Ru.sl3_e, Ru.tl_1, Ru.tl_2, Ru.tl_3, Ru.tl_4, Ru.call_e, Ru.call_1, Ru.call_2, Ru.callP_e, Ru.callP_1, Ru.callP_2, Ru.chain_e, Ru.ch_1, Ru.ch_2, Ru.ch_t, Ru.ch_f, Ru.iL_e, Ru.iL_d, Ru.iL_l, Ru.iT_e, Ru.iT_d, Ru.iR1_e, Ru.iR1_1, Ru.lR_e, Ru.lR_1, Ru.tN_e, Ru.tT_2, Ru.yes_e, Ru.lc_e, Ru.lc_1, Ru.lc_2, Ru.seq_e, Ru.seq_nx, Ru.seq_rt, Ru.nop_e, Ru.set_e, Ru.set_d, Ru.set_l, Ru.setL_e, Ru.setL_l, Ru.ret_e, Ru.ret_1, Ru.retV_e, Ru.retV_l, Ru.retV_d, Ru.frz_e, Ru.frz_l, Ru.sIte_e, Ru.sIte_t, Ru.sIte_f, Ru.for_e, Ru.for_1, Ru.for_nil, Ru.for_cons, Ru.fK_1, Ru.fK_nx, Ru.fK_rt, Ru.append_e, Ru.append_1, Ru.append_d, Ru.append_l, Ru.extend_e, Ru.extend_1, Ru.extend_l, Ru.pop_e, Ru.pop_1, Ru.setIx_e, Ru.setIx_d, Ru.setP_e, Ru.setP_d, Ru.setP_1, Ru.par_e, Ru.par_1, Ru.stup_e, Ru.stup_d, Ru.wK_t, Ru.wK_f, Ru.wK_nx, Ru.wK_rt, Ru.runB_f, Ru.runB_t, Ru.rb_f, Ru.rb_t, Ru.rb_n, Ru.lt_i, Ru.le_i, Ru.gt_i, Ru.ge_i, Ru.sub_i, Ru.add_i, Ru.add_s, Ru.add_t, Ru.add_l, Ru.mul_i, Ru.div_i, Ru.mod_i, Ru.neg_i, Ru.is_n, Ru.isNot_n, Ru.non_n, Ru.non_i, Ru.non_b, Ru.non_s, Ru.non_l, Ru.non_t, Ru.len_l, Ru.len_t, Ru.len_s, Ru.list_l, Ru.list_t, Ru.tuple_l, Ru.tuple_t, Ru.int_i, Ru.gsl_l, Ru.gsl_t, Ru.gsl_s, Ru.eq_s, Ru.eq_i, Ru.eq_b, Ru.ne_b, Ru.ne_s, Ru.ne_i, Ru.in_2, Ru.atI_0, Ru.atI_1, Ru.atI_2, Ru.ix_t, Ru.ix_l, Ru.cut_1, E.wipeS, Ru.bind_some, Option.bind_none, Ru.map_some, Option.map_none, List.getElem?_cons_zero, List.getElem?_cons_succ, List.set_cons_zero, List.set_cons_succ, List.length_cons, List.length_nil, List.map_cons, List.map_nil, List.replicate, List.cons_append, List.nil_append, hh]
theorem all5l {c : C} (h3 : d ≤ 3) (hc : c.ok d = true) (dc : c.dep ≤ 20) : E.lcL (E.tN 15) E.yes (E.call (m_law_holds 20) (E.cons (E.v 5) (E.cons (E.v 15) E.nil))) [s0, s1, s2, s3, s4, .d c.enc, s6, s7, s8, s9, s10, s11, s12, s13, s14, .un] (intsN (AT d)) p [] = some (bools c d, p) := by
  have hh : ∀ a : Nat, m_law_holds 20 [c.enc, .int a] none = some (.d (.bool (c.ev a)), none) := fun a => e_law_holds 20 c (ok_mono h3 c hc) dc
  rw [Ru.lc_map (fun x => .bool (c.ev (natD x))), List.nil_append, bools_eq]
  intro x hx
  obtain ⟨a, _, rfl⟩ := List.mem_map.mp hx
  refine ⟨_, rfl, rfl, .d (.bool (c.ev a)), ?_, by rw [natD_int]; rfl⟩
  simp [-Option.bind_some, -Option.map_some, Ru.c_e, Ru.v_e, Ru.v_d, Ru.rv_e, Ru.rv_d, Ru.rv_l, Ru.nil_e, Ru.cons_e, Ru.cons_d, Ru.cons_l, Ru.cons_2, Ru.tup_e, Ru.tup_d, Ru.lst_e, Ru.lst_d, Ru.rd_e, Ru.rd_d, Ru.rd_l, Ru.op_e, Ru.op_1, Ru.op_2, Ru.op_3, Ru.un_e, Ru.un_1, Ru.isi_e, Ru.ite_e, Ru.ite_t, Ru.ite_f, Ru.ofB_e, Ru.ofB_1, Ru.toB_e, Ru.toB_1, Ru.and_e, Ru.and_t, Ru.and_f, Ru.or_e, Ru.or_t, Ru.or_f, Ru.not_e, Ru.not_1, Ru.px_e, Ru.px_1, Ru.px_2, Ru.oN_e, Ru.oS_e, Ru.oS_1, Ru.sl_e, Ru.sl_1, Ru.sl_2, Ru.sl_3, Ru.sl3_e, Ru.tl_1, Ru.tl_2, Ru.tl_3, Ru.tl_4, Ru.call_e, Ru.call_1, Ru.call_2, Ru.callP_e, Ru.callP_1, Ru.callP_2, Ru.chain_e, Ru.ch_1, Ru.ch_2, Ru.ch_t, Ru.ch_f, Ru.iL_e, Ru.iL_d, Ru.iL_l, Ru.iT_e, Ru.iT_d, Ru.iR1_e, Ru.iR1_1, Ru.lR_e, Ru.lR_1, Ru.tN_e, Ru.tT_2, Ru.yes_e, Ru.lc_e, Ru.lc_1, Ru.lc_2, Ru.seq_e, Ru.seq_nx, Ru.seq_rt, Ru.nop_e, Ru.set_e, Ru.set_d, Ru.set_l, Ru.setL_e, Ru.setL_l, Ru.ret_e, Ru.ret_1, Ru.retV_e, Ru.retV_l, Ru.retV_d, Ru.frz_e, Ru.frz_l, Ru.sIte_e, Ru.sIte_t, Ru.sIte_f, Ru.for_e, Ru.for_1, Ru.for_nil, Ru.for_cons, Ru.fK_1, Ru.fK_nx, Ru.fK_rt, Ru.append_e, Ru.append_1, Ru.append_d, Ru.append_l, Ru.extend_e, Ru.extend_1, Ru.extend_l, Ru.pop_e, Ru.pop_1, Ru.setIx_e, Ru.setIx_d, Ru.setP_e, Ru.setP_d, Ru.setP_1, Ru.par_e, Ru.par_1, Ru.stup_e, Ru.stup_d, Ru.wK_t, Ru.wK_f, Ru.wK_nx, Ru.wK_rt, Ru.runB_f, Ru.runB_t, Ru.rb_f, Ru.rb_t, Ru.rb_n, Ru.lt_i, Ru.le_i, Ru.gt_i, Ru.ge_i, Ru.sub_i, Ru.add_i, Ru.add_s, Ru.add_t, Ru.add_l, Ru.mul_i, Ru.div_i, Ru.mod_i, Ru.neg_i, Ru.is_n, Ru.isNot_n, Ru.non_n, Ru.non_i, Ru.non_b, Ru.non_s, Ru.non_l, Ru.non_t, Ru.len_l, Ru.len_t, Ru.len_s, Ru.list_l, Ru.list_t, Ru.tuple_l, Ru.tuple_t, Ru.int_i, Ru.gsl_l, Ru.gsl_t, Ru.gsl_s, Ru.eq_s, Ru.eq_i, Ru.eq_b, Ru.ne_b, Ru.ne_s, Ru.ne_i, Ru.in_2, Ru.atI_0, Ru.atI_1, Ru.atI_2, Ru.ix_t, Ru.ix_l, Ru.cut_1, E.wipeS, Ru.bind_some, Option.bind_none, Ru.map_some, Option.map_none, List.getElem?_cons_zero, List.getElem?_cons_succ, List.set_cons_zero, List.set_cons_succ, List.length_cons, List.length_nil, List.map_cons, List.map_nil, List.replicate, List.cons_append, List.nil_append, hh]
theorem L6 {B C' : C} (h1 : 1 ≤ d) (h3 : d ≤ 3) (hB : B.ok d = true) (dB : B.dep ≤ 6) (hC : C'.ok d = true) (dC : C'.dep ≤ 6) (hp : VP p) :
    ∃ p', r6_law m_law_pool m_law_world (m_condition_of 20) (m_law_condition 6) (m_law_same 30) (m_same_condition 20) m_law_pick m_law_atoms (m_law_holds 20) m_law_shuffled m_is_condition (m_atoms_where 20) (m_law_bent 60) m_is_world m_atoms_of m_law_draw (m_holds 20) (m_law_is_condition 45) m_law_is_integer ⟨[s0, .pool, .d (W d t), s3, s4, .d B.enc, .d C'.enc, .d (.list (intsN ((AT d).filter fun a => B.ev a))), s8, s9, s10, s11, s12, s13, s14, s15], p⟩ = some (.rt (.d (.bool true)) p') := by
  obtain ⟨p', e2⟩ := L7 (d := d) (t := t) (p := p) (s0 := s0) (s3 := s3) (s4 := s4) (s7 := .d (.list (intsN ((AT d).filter fun a => B.ev a)))) (s8 := s8) (s9 := s9) (s10 := s10) (s11 := s11) (s12 := s12) (s13 := s13) (s14 := s14) (s15 := s15) h1 h3 hB dB hC dC hp
  have ha := e_law_atoms (t := (t : Int)) h1 h3
  have hl' := AT_len' h3
  have e3 := e_same_condition (n := 20) (t := (t : Int)) h1 h3 hB hC (by omega) (by omega)
  have e4 := true6 (p := p) (s0 := s0) (s1 := .pool) (s2 := .d (W d t)) (s3 := s3) (s4 := s4) (s5 := .d B.enc) (s7 := .d (.list (intsN ((AT d).filter fun a => B.ev a)))) (s8 := s8) (s9 := s9) (s10 := s10) (s11 := s11) (s12 := s12) (s13 := s13) (s14 := s14) h3 hC (by omega)
  have e5 := eq_ints ((AT d).filter fun a => B.ev a) ((AT d).filter fun a => C'.ev a)
  refine ⟨p', ?_⟩
  simp [r6_law, -Option.bind_some, -Option.map_some, Ru.c_e, Ru.v_e, Ru.v_d, Ru.rv_e, Ru.rv_d, Ru.rv_l, Ru.nil_e, Ru.cons_e, Ru.cons_d, Ru.cons_l, Ru.cons_2, Ru.tup_e, Ru.tup_d, Ru.lst_e, Ru.lst_d, Ru.rd_e, Ru.rd_d, Ru.rd_l, Ru.op_e, Ru.op_1, Ru.op_2, Ru.op_3, Ru.un_e, Ru.un_1, Ru.isi_e, Ru.ite_e, Ru.ite_t, Ru.ite_f, Ru.ofB_e, Ru.ofB_1, Ru.toB_e, Ru.toB_1, Ru.and_e, Ru.and_t, Ru.and_f, Ru.or_e, Ru.or_t, Ru.or_f, Ru.not_e, Ru.not_1, Ru.px_e, Ru.px_1, Ru.px_2, Ru.oN_e, Ru.oS_e, Ru.oS_1, Ru.sl_e, Ru.sl_1, Ru.sl_2, Ru.sl_3, Ru.sl3_e, Ru.tl_1, Ru.tl_2, Ru.tl_3, Ru.tl_4, Ru.call_e, Ru.call_1, Ru.call_2, Ru.callP_e, Ru.callP_1, Ru.callP_2, Ru.chain_e, Ru.ch_1, Ru.ch_2, Ru.ch_t, Ru.ch_f, Ru.iL_e, Ru.iL_d, Ru.iL_l, Ru.iT_e, Ru.iT_d, Ru.iR1_e, Ru.iR1_1, Ru.lR_e, Ru.lR_1, Ru.tN_e, Ru.tT_2, Ru.yes_e, Ru.lc_e, Ru.lc_1, Ru.lc_2, Ru.seq_e, Ru.seq_nx, Ru.seq_rt, Ru.nop_e, Ru.set_e, Ru.set_d, Ru.set_l, Ru.setL_e, Ru.setL_l, Ru.ret_e, Ru.ret_1, Ru.retV_e, Ru.retV_l, Ru.retV_d, Ru.frz_e, Ru.frz_l, Ru.sIte_e, Ru.sIte_t, Ru.sIte_f, Ru.for_e, Ru.for_1, Ru.for_nil, Ru.for_cons, Ru.fK_1, Ru.fK_nx, Ru.fK_rt, Ru.append_e, Ru.append_1, Ru.append_d, Ru.append_l, Ru.extend_e, Ru.extend_1, Ru.extend_l, Ru.pop_e, Ru.pop_1, Ru.setIx_e, Ru.setIx_d, Ru.setP_e, Ru.setP_d, Ru.setP_1, Ru.par_e, Ru.par_1, Ru.stup_e, Ru.stup_d, Ru.wK_t, Ru.wK_f, Ru.wK_nx, Ru.wK_rt, Ru.runB_f, Ru.runB_t, Ru.rb_f, Ru.rb_t, Ru.rb_n, Ru.lt_i, Ru.le_i, Ru.gt_i, Ru.ge_i, Ru.sub_i, Ru.add_i, Ru.add_s, Ru.add_t, Ru.add_l, Ru.mul_i, Ru.div_i, Ru.mod_i, Ru.neg_i, Ru.is_n, Ru.isNot_n, Ru.non_n, Ru.non_i, Ru.non_b, Ru.non_s, Ru.non_l, Ru.non_t, Ru.len_l, Ru.len_t, Ru.len_s, Ru.list_l, Ru.list_t, Ru.tuple_l, Ru.tuple_t, Ru.int_i, Ru.gsl_l, Ru.gsl_t, Ru.gsl_s, Ru.eq_s, Ru.eq_i, Ru.eq_b, Ru.ne_b, Ru.ne_s, Ru.ne_i, Ru.in_2, Ru.atI_0, Ru.atI_1, Ru.atI_2, Ru.ix_t, Ru.ix_l, Ru.cut_1, E.wipeS, Ru.bind_some, Option.bind_none, Ru.map_some, Option.map_none, List.getElem?_cons_zero, List.getElem?_cons_succ, List.set_cons_zero, List.set_cons_succ, List.length_cons, List.length_nil, List.map_cons, List.map_nil, List.replicate, List.cons_append, List.nil_append, e3, ha, hl', e4, e5]
  exact e2
theorem plain_ints : ∀ l : List Nat, PyData.plainAll (intsN l) = true
  | [] => rfl
  | a :: l => by
    show (PyData.plain (.int _) && PyData.plainAll (intsN l)) = true
    rw [plain_ints l]
    rfl
theorem sz_ints : ∀ l : List Nat, szAll (intsN l) = l.length
  | [] => rfl
  | a :: l => by
    show sz (.int _) + szAll (intsN l) = _
    rw [sz_ints l]
    show 1 + l.length = l.length + 1
    omega
theorem plain_bools (c : C) (l : List Nat) : PyData.plainAll (l.map fun a => PyData.bool (c.ev a)) = true := by
  induction l with
  | nil => rfl
  | cons a l ih => simpa [PyData.plainAll, PyData.plain] using ih
theorem sz_bools (c : C) (l : List Nat) : szAll (l.map fun a => PyData.bool (c.ev a)) = l.length := by
  induction l with
  | nil => rfl
  | cons a l ih =>
    simp only [List.map_cons, szAll, ih, List.length_cons]
    show 1 + l.length = l.length + 1
    omega
theorem depth_bools (c : C) (l : List Nat) : PyData.depthAll (l.map fun a => PyData.bool (c.ev a)) = 0 := by
  induction l with
  | nil => rfl
  | cons a l ih => simp [PyData.depthAll, PyData.depth, ih]
theorem L5 {B C' : C} (h1 : 1 ≤ d) (h3 : d ≤ 3) (hB : B.ok d = true) (dB : B.dep ≤ 6) (hC : C'.ok d = true) (dC : C'.dep ≤ 6) (hp : VP p) :
    ∃ p', r5_law m_law_pool m_law_world (m_condition_of 20) (m_law_condition 6) (m_law_same 30) (m_same_condition 20) m_law_pick m_law_atoms (m_law_holds 20) m_law_shuffled m_is_condition (m_atoms_where 20) (m_law_bent 60) m_is_world m_atoms_of m_law_draw (m_holds 20) (m_law_is_condition 45) m_law_is_integer ⟨[s0, .pool, .d (W d t), s3, s4, .d B.enc, .d C'.enc, .d (.list (intsN ((AT d).filter fun a => B.ev a))), s8, s9, s10, s11, s12, s13, s14, s15], p⟩ = some (.rt (.d (.bool true)) p') := by
  obtain ⟨p', e2⟩ := L6 (d := d) (t := t) (p := p) (s0 := s0) (s3 := s3) (s4 := s4) (s8 := s8) (s9 := s9) (s10 := s10) (s11 := s11) (s12 := s12) (s13 := s13) (s14 := s14) (s15 := s15) h1 h3 hB dB hC dC hp
  have ha := e_law_atoms (t := (t : Int)) h1 h3
  have ha2 := e_atoms_of (t := (t : Int)) h1 h3
  have hl' := AT_len' h3
  have e3 := e_atoms_where (n := 20) (t := (t : Int)) h1 h3 hB (by omega)
  have e4 := all5 (p := p) (s0 := s0) (s1 := .pool) (s2 := .d (W d t)) (s3 := s3) (s4 := s4) (s6 := .d C'.enc) (s7 := .d (.list (intsN ((AT d).filter fun a => B.ev a)))) (s8 := s8) (s9 := s9) (s10 := s10) (s11 := s11) (s12 := s12) (s13 := s13) (s14 := s14) h3 hB (by omega)
  have e5 := all5l (p := p) (s0 := s0) (s1 := .pool) (s2 := .d (W d t)) (s3 := s3) (s4 := s4) (s6 := .d C'.enc) (s7 := .d (.list (intsN ((AT d).filter fun a => B.ev a)))) (s8 := s8) (s9 := s9) (s10 := s10) (s11 := s11) (s12 := s12) (s13 := s13) (s14 := s14) h3 hB (by omega)
  have hA := AT_len h3
  have hF : ((AT d).filter fun a => B.ev a).length ≤ 8 := Nat.le_trans (List.length_filter_le _ _) hA
  have e6 := e_same 30 (.list [.list (intsN (AT d)), .list (intsN ((AT d).filter fun a => B.ev a)), .list (bools B d)])
    (by simp only [PyData.plain, PyData.plainAll, plain_ints, Bool.and_true, Bool.true_and]; exact plain_bools B (AT d))
    (by
      have h1 := sz_ints (AT d)
      have h2 := sz_ints ((AT d).filter fun a => B.ev a)
      have h3 : szAll (bools B d) = (AT d).length := sz_bools B (AT d)
      simp only [sz.eq_5, szAll, h1, h2, h3]
      omega)
    (by
      have h1 := depth_ints (AT d)
      have h2 := depth_ints ((AT d).filter fun a => B.ev a)
      have h3 : PyData.depthAll (bools B d) = 0 := depth_bools B (AT d)
      simp only [PyData.depth, PyData.depthAll, h1, h2, h3]
      decide)
  refine ⟨p', ?_⟩
  simp [r5_law, -Option.bind_some, -Option.map_some, Ru.c_e, Ru.v_e, Ru.v_d, Ru.rv_e, Ru.rv_d, Ru.rv_l, Ru.nil_e, Ru.cons_e, Ru.cons_d, Ru.cons_l, Ru.cons_2, Ru.tup_e, Ru.tup_d, Ru.lst_e, Ru.lst_d, Ru.rd_e, Ru.rd_d, Ru.rd_l, Ru.op_e, Ru.op_1, Ru.op_2, Ru.op_3, Ru.un_e, Ru.un_1, Ru.isi_e, Ru.ite_e, Ru.ite_t, Ru.ite_f, Ru.ofB_e, Ru.ofB_1, Ru.toB_e, Ru.toB_1, Ru.and_e, Ru.and_t, Ru.and_f, Ru.or_e, Ru.or_t, Ru.or_f, Ru.not_e, Ru.not_1, Ru.px_e, Ru.px_1, Ru.px_2, Ru.oN_e, Ru.oS_e, Ru.oS_1, Ru.sl_e, Ru.sl_1, Ru.sl_2, Ru.sl_3, Ru.sl3_e, Ru.tl_1, Ru.tl_2, Ru.tl_3, Ru.tl_4, Ru.call_e, Ru.call_1, Ru.call_2, Ru.callP_e, Ru.callP_1, Ru.callP_2, Ru.chain_e, Ru.ch_1, Ru.ch_2, Ru.ch_t, Ru.ch_f, Ru.iL_e, Ru.iL_d, Ru.iL_l, Ru.iT_e, Ru.iT_d, Ru.iR1_e, Ru.iR1_1, Ru.lR_e, Ru.lR_1, Ru.tN_e, Ru.tT_2, Ru.yes_e, Ru.lc_e, Ru.lc_1, Ru.lc_2, Ru.seq_e, Ru.seq_nx, Ru.seq_rt, Ru.nop_e, Ru.set_e, Ru.set_d, Ru.set_l, Ru.setL_e, Ru.setL_l, Ru.ret_e, Ru.ret_1, Ru.retV_e, Ru.retV_l, Ru.retV_d, Ru.frz_e, Ru.frz_l, Ru.sIte_e, Ru.sIte_t, Ru.sIte_f, Ru.for_e, Ru.for_1, Ru.for_nil, Ru.for_cons, Ru.fK_1, Ru.fK_nx, Ru.fK_rt, Ru.append_e, Ru.append_1, Ru.append_d, Ru.append_l, Ru.extend_e, Ru.extend_1, Ru.extend_l, Ru.pop_e, Ru.pop_1, Ru.setIx_e, Ru.setIx_d, Ru.setP_e, Ru.setP_d, Ru.setP_1, Ru.par_e, Ru.par_1, Ru.stup_e, Ru.stup_d, Ru.wK_t, Ru.wK_f, Ru.wK_nx, Ru.wK_rt, Ru.runB_f, Ru.runB_t, Ru.rb_f, Ru.rb_t, Ru.rb_n, Ru.lt_i, Ru.le_i, Ru.gt_i, Ru.ge_i, Ru.sub_i, Ru.add_i, Ru.add_s, Ru.add_t, Ru.add_l, Ru.mul_i, Ru.div_i, Ru.mod_i, Ru.neg_i, Ru.is_n, Ru.isNot_n, Ru.non_n, Ru.non_i, Ru.non_b, Ru.non_s, Ru.non_l, Ru.non_t, Ru.len_l, Ru.len_t, Ru.len_s, Ru.list_l, Ru.list_t, Ru.tuple_l, Ru.tuple_t, Ru.int_i, Ru.gsl_l, Ru.gsl_t, Ru.gsl_s, Ru.eq_s, Ru.eq_i, Ru.eq_b, Ru.ne_b, Ru.ne_s, Ru.ne_i, Ru.in_2, Ru.atI_0, Ru.atI_1, Ru.atI_2, Ru.ix_t, Ru.ix_l, Ru.cut_1, E.wipeS, Ru.bind_some, Option.bind_none, Ru.map_some, Option.map_none, List.getElem?_cons_zero, List.getElem?_cons_succ, List.set_cons_zero, List.set_cons_succ, List.length_cons, List.length_nil, List.map_cons, List.map_nil, List.replicate, List.cons_append, List.nil_append, ha, ha2, hl', e3, e4, e5, e6]
  exact e2
theorem L4 {B C' : C} (h1 : 1 ≤ d) (h3 : d ≤ 3) (hB : B.ok d = true) (dB : B.dep ≤ 6) (hC : C'.ok d = true) (dC : C'.dep ≤ 6) (hp : VP p) :
    ∃ p', r4_law m_law_pool m_law_world (m_condition_of 20) (m_law_condition 6) (m_law_same 30) (m_same_condition 20) m_law_pick m_law_atoms (m_law_holds 20) m_law_shuffled m_is_condition (m_atoms_where 20) (m_law_bent 60) m_is_world m_atoms_of m_law_draw (m_holds 20) (m_law_is_condition 45) m_law_is_integer ⟨[s0, .pool, .d (W d t), s3, s4, .d B.enc, .d C'.enc, s7, s8, s9, s10, s11, s12, s13, s14, s15], p⟩ = some (.rt (.d (.bool true)) p') := by
  obtain ⟨p', e2⟩ := L5 (d := d) (t := t) (p := p) (s0 := s0) (s3 := s3) (s4 := s4) (s8 := s8) (s9 := s9) (s10 := s10) (s11 := s11) (s12 := s12) (s13 := s13) (s14 := s14) (s15 := s15) h1 h3 hB dB hC dC hp
  have ha := e_law_atoms (t := (t : Int)) h1 h3
  have hl' := AT_len' h3
  have e4 := true5 (p := p) (s0 := s0) (s1 := .pool) (s2 := .d (W d t)) (s3 := s3) (s4 := s4) (s6 := .d C'.enc) (s7 := s7) (s8 := s8) (s9 := s9) (s10 := s10) (s11 := s11) (s12 := s12) (s13 := s13) (s14 := s14) h3 hB (by omega)
  refine ⟨p', ?_⟩
  simp [r4_law, -Option.bind_some, -Option.map_some, Ru.c_e, Ru.v_e, Ru.v_d, Ru.rv_e, Ru.rv_d, Ru.rv_l, Ru.nil_e, Ru.cons_e, Ru.cons_d, Ru.cons_l, Ru.cons_2, Ru.tup_e, Ru.tup_d, Ru.lst_e, Ru.lst_d, Ru.rd_e, Ru.rd_d, Ru.rd_l, Ru.op_e, Ru.op_1, Ru.op_2, Ru.op_3, Ru.un_e, Ru.un_1, Ru.isi_e, Ru.ite_e, Ru.ite_t, Ru.ite_f, Ru.ofB_e, Ru.ofB_1, Ru.toB_e, Ru.toB_1, Ru.and_e, Ru.and_t, Ru.and_f, Ru.or_e, Ru.or_t, Ru.or_f, Ru.not_e, Ru.not_1, Ru.px_e, Ru.px_1, Ru.px_2, Ru.oN_e, Ru.oS_e, Ru.oS_1, Ru.sl_e, Ru.sl_1, Ru.sl_2, Ru.sl_3, Ru.sl3_e, Ru.tl_1, Ru.tl_2, Ru.tl_3, Ru.tl_4, Ru.call_e, Ru.call_1, Ru.call_2, Ru.callP_e, Ru.callP_1, Ru.callP_2, Ru.chain_e, Ru.ch_1, Ru.ch_2, Ru.ch_t, Ru.ch_f, Ru.iL_e, Ru.iL_d, Ru.iL_l, Ru.iT_e, Ru.iT_d, Ru.iR1_e, Ru.iR1_1, Ru.lR_e, Ru.lR_1, Ru.tN_e, Ru.tT_2, Ru.yes_e, Ru.lc_e, Ru.lc_1, Ru.lc_2, Ru.seq_e, Ru.seq_nx, Ru.seq_rt, Ru.nop_e, Ru.set_e, Ru.set_d, Ru.set_l, Ru.setL_e, Ru.setL_l, Ru.ret_e, Ru.ret_1, Ru.retV_e, Ru.retV_l, Ru.retV_d, Ru.frz_e, Ru.frz_l, Ru.sIte_e, Ru.sIte_t, Ru.sIte_f, Ru.for_e, Ru.for_1, Ru.for_nil, Ru.for_cons, Ru.fK_1, Ru.fK_nx, Ru.fK_rt, Ru.append_e, Ru.append_1, Ru.append_d, Ru.append_l, Ru.extend_e, Ru.extend_1, Ru.extend_l, Ru.pop_e, Ru.pop_1, Ru.setIx_e, Ru.setIx_d, Ru.setP_e, Ru.setP_d, Ru.setP_1, Ru.par_e, Ru.par_1, Ru.stup_e, Ru.stup_d, Ru.wK_t, Ru.wK_f, Ru.wK_nx, Ru.wK_rt, Ru.runB_f, Ru.runB_t, Ru.rb_f, Ru.rb_t, Ru.rb_n, Ru.lt_i, Ru.le_i, Ru.gt_i, Ru.ge_i, Ru.sub_i, Ru.add_i, Ru.add_s, Ru.add_t, Ru.add_l, Ru.mul_i, Ru.div_i, Ru.mod_i, Ru.neg_i, Ru.is_n, Ru.isNot_n, Ru.non_n, Ru.non_i, Ru.non_b, Ru.non_s, Ru.non_l, Ru.non_t, Ru.len_l, Ru.len_t, Ru.len_s, Ru.list_l, Ru.list_t, Ru.tuple_l, Ru.tuple_t, Ru.int_i, Ru.gsl_l, Ru.gsl_t, Ru.gsl_s, Ru.eq_s, Ru.eq_i, Ru.eq_b, Ru.ne_b, Ru.ne_s, Ru.ne_i, Ru.in_2, Ru.atI_0, Ru.atI_1, Ru.atI_2, Ru.ix_t, Ru.ix_l, Ru.cut_1, E.wipeS, Ru.bind_some, Option.bind_none, Ru.map_some, Option.map_none, List.getElem?_cons_zero, List.getElem?_cons_succ, List.set_cons_zero, List.set_cons_succ, List.length_cons, List.length_nil, List.map_cons, List.map_nil, List.replicate, List.cons_append, List.nil_append, ha, hl', e4]
  exact e2
theorem L3 (h1 : 1 ≤ d) (h3 : d ≤ 3) (hp : VP p) : ∃ p', r3_law m_law_pool m_law_world (m_condition_of 20) (m_law_condition 6) (m_law_same 30) (m_same_condition 20) m_law_pick m_law_atoms (m_law_holds 20) m_law_shuffled m_is_condition (m_atoms_where 20) (m_law_bent 60) m_is_world m_atoms_of m_law_draw (m_holds 20) (m_law_is_condition 45) m_law_is_integer ⟨[s0, .pool, .d (W d t), s3, s4, s5, s6, s7, s8, s9, s10, s11, s12, s13, s14, s15], p⟩ = some (.rt (.d (.bool true)) p') := by
  obtain ⟨B, p1, hp1, hB, dB, e1⟩ := e_condition (t := (t : Int)) h1 h3 4 6 (by decide) hp
  obtain ⟨C', p2, hp2, hC, dC, e2⟩ := e_condition (t := (t : Int)) h1 h3 4 6 (by decide) hp1
  obtain ⟨q, rfl⟩ := hp.some
  obtain ⟨q1, rfl⟩ := hp1.some
  have e1' : m_law_condition 6 [W d t, .int 4] (some q) = some (.d B.enc, some q1) := e1
  have e2' : m_law_condition 6 [W d t, .int 4] (some q1) = some (.d C'.enc, p2) := e2
  obtain ⟨p', e3⟩ := L4 (d := d) (t := t) (p := p2) (s0 := s0) (s3 := s3) (s4 := s4) (s7 := s7) (s8 := s8) (s9 := s9) (s10 := s10) (s11 := s11) (s12 := s12) (s13 := s13) (s14 := s14) (s15 := s15) h1 h3 hB dB hC dC hp2
  refine ⟨p', ?_⟩
  simp [r3_law, -Option.bind_some, -Option.map_some, Ru.c_e, Ru.v_e, Ru.v_d, Ru.rv_e, Ru.rv_d, Ru.rv_l, Ru.nil_e, Ru.cons_e, Ru.cons_d, Ru.cons_l, Ru.cons_2, Ru.tup_e, Ru.tup_d, Ru.lst_e, Ru.lst_d, Ru.rd_e, Ru.rd_d, Ru.rd_l, Ru.op_e, Ru.op_1, Ru.op_2, Ru.op_3, Ru.un_e, Ru.un_1, Ru.isi_e, Ru.ite_e, Ru.ite_t, Ru.ite_f, Ru.ofB_e, Ru.ofB_1, Ru.toB_e, Ru.toB_1, Ru.and_e, Ru.and_t, Ru.and_f, Ru.or_e, Ru.or_t, Ru.or_f, Ru.not_e, Ru.not_1, Ru.px_e, Ru.px_1, Ru.px_2, Ru.oN_e, Ru.oS_e, Ru.oS_1, Ru.sl_e, Ru.sl_1, Ru.sl_2, Ru.sl_3, Ru.sl3_e, Ru.tl_1, Ru.tl_2, Ru.tl_3, Ru.tl_4, Ru.call_e, Ru.call_1, Ru.call_2, Ru.callP_e, Ru.callP_1, Ru.callP_2, Ru.chain_e, Ru.ch_1, Ru.ch_2, Ru.ch_t, Ru.ch_f, Ru.iL_e, Ru.iL_d, Ru.iL_l, Ru.iT_e, Ru.iT_d, Ru.iR1_e, Ru.iR1_1, Ru.lR_e, Ru.lR_1, Ru.tN_e, Ru.tT_2, Ru.yes_e, Ru.lc_e, Ru.lc_1, Ru.lc_2, Ru.seq_e, Ru.seq_nx, Ru.seq_rt, Ru.nop_e, Ru.set_e, Ru.set_d, Ru.set_l, Ru.setL_e, Ru.setL_l, Ru.ret_e, Ru.ret_1, Ru.retV_e, Ru.retV_l, Ru.retV_d, Ru.frz_e, Ru.frz_l, Ru.sIte_e, Ru.sIte_t, Ru.sIte_f, Ru.for_e, Ru.for_1, Ru.for_nil, Ru.for_cons, Ru.fK_1, Ru.fK_nx, Ru.fK_rt, Ru.append_e, Ru.append_1, Ru.append_d, Ru.append_l, Ru.extend_e, Ru.extend_1, Ru.extend_l, Ru.pop_e, Ru.pop_1, Ru.setIx_e, Ru.setIx_d, Ru.setP_e, Ru.setP_d, Ru.setP_1, Ru.par_e, Ru.par_1, Ru.stup_e, Ru.stup_d, Ru.wK_t, Ru.wK_f, Ru.wK_nx, Ru.wK_rt, Ru.runB_f, Ru.runB_t, Ru.rb_f, Ru.rb_t, Ru.rb_n, Ru.lt_i, Ru.le_i, Ru.gt_i, Ru.ge_i, Ru.sub_i, Ru.add_i, Ru.add_s, Ru.add_t, Ru.add_l, Ru.mul_i, Ru.div_i, Ru.mod_i, Ru.neg_i, Ru.is_n, Ru.isNot_n, Ru.non_n, Ru.non_i, Ru.non_b, Ru.non_s, Ru.non_l, Ru.non_t, Ru.len_l, Ru.len_t, Ru.len_s, Ru.list_l, Ru.list_t, Ru.tuple_l, Ru.tuple_t, Ru.int_i, Ru.gsl_l, Ru.gsl_t, Ru.gsl_s, Ru.eq_s, Ru.eq_i, Ru.eq_b, Ru.ne_b, Ru.ne_s, Ru.ne_i, Ru.in_2, Ru.atI_0, Ru.atI_1, Ru.atI_2, Ru.ix_t, Ru.ix_l, Ru.cut_1, E.wipeS, Ru.bind_some, Option.bind_none, Ru.map_some, Option.map_none, List.getElem?_cons_zero, List.getElem?_cons_succ, List.set_cons_zero, List.set_cons_succ, List.length_cons, List.length_nil, List.map_cons, List.map_nil, List.replicate, List.cons_append, List.nil_append, e1', e2']
  exact e3
/-! ### worlds -/
theorem f3_ok {x : D} (hp : x.plain = true) : f3_law m_law_pool m_law_world (m_condition_of 20) (m_law_condition 6) (m_law_same 30) (m_same_condition 20) m_law_pick m_law_atoms (m_law_holds 20) m_law_shuffled m_is_condition (m_atoms_where 20) (m_law_bent 60) m_is_world m_atoms_of m_law_draw (m_holds 20) (m_law_is_condition 45) m_law_is_integer ⟨[s0, s1, s2, .d x, s4, s5, s6, s7, s8, s9, s10, s11, s12, s13, s14, s15], p⟩ = some (.nx ⟨[s0, s1, s2, .d x, .d (.bool (isW x)), s5, s6, s7, s8, s9, s10, s11, s12, s13, s14, s15], p⟩) := by
  have hT := isT_tuple hp
  have h1 := e_is_world hp
  have h2 := e_same 30 (.bool (isW x)) rfl (Nat.le_of_ble_eq_true rfl) (Nat.zero_lt_succ _)
  by_cases ht : isTu x = true
  · cases x with
    | tuple xs =>
      have hT' : gIsT "tuple" (.tuple xs) = some (.d (.bool true)) := hT
      match xs, hp with
      | [], _ =>
        have hw : isW (.tuple []) = false := rfl
        rw [hw] at h1 h2
        simp [f3_law, -Option.bind_some, -Option.map_some, Ru.c_e, Ru.v_e, Ru.v_d, Ru.rv_e, Ru.rv_d, Ru.rv_l, Ru.nil_e, Ru.cons_e, Ru.cons_d, Ru.cons_l, Ru.cons_2, Ru.tup_e, Ru.tup_d, Ru.lst_e, Ru.lst_d, Ru.rd_e, Ru.rd_d, Ru.rd_l, Ru.op_e, Ru.op_1, Ru.op_2, Ru.op_3, Ru.un_e, Ru.un_1, Ru.isi_e, Ru.ite_e, Ru.ite_t, Ru.ite_f, Ru.ofB_e, Ru.ofB_1, Ru.toB_e, Ru.toB_1, Ru.and_e, Ru.and_t, Ru.and_f, Ru.or_e, Ru.or_t, Ru.or_f, Ru.not_e, Ru.not_1, Ru.px_e, Ru.px_1, Ru.px_2, Ru.oN_e, Ru.oS_e, Ru.oS_1, Ru.sl_e, Ru.sl_1, Ru.sl_2, Ru.sl_3, Ru.sl3_e, Ru.tl_1, Ru.tl_2, Ru.tl_3, Ru.tl_4, Ru.call_e, Ru.call_1, Ru.call_2, Ru.callP_e, Ru.callP_1, Ru.callP_2, Ru.chain_e, Ru.ch_1, Ru.ch_2, Ru.ch_t, Ru.ch_f, Ru.iL_e, Ru.iL_d, Ru.iL_l, Ru.iT_e, Ru.iT_d, Ru.iR1_e, Ru.iR1_1, Ru.lR_e, Ru.lR_1, Ru.tN_e, Ru.tT_2, Ru.yes_e, Ru.lc_e, Ru.lc_1, Ru.lc_2, Ru.seq_e, Ru.seq_nx, Ru.seq_rt, Ru.nop_e, Ru.set_e, Ru.set_d, Ru.set_l, Ru.setL_e, Ru.setL_l, Ru.ret_e, Ru.ret_1, Ru.retV_e, Ru.retV_l, Ru.retV_d, Ru.frz_e, Ru.frz_l, Ru.sIte_e, Ru.sIte_t, Ru.sIte_f, Ru.for_e, Ru.for_1, Ru.for_nil, Ru.for_cons, Ru.fK_1, Ru.fK_nx, Ru.fK_rt, Ru.append_e, Ru.append_1, Ru.append_d, Ru.append_l, Ru.extend_e, Ru.extend_1, Ru.extend_l, Ru.pop_e, Ru.pop_1, Ru.setIx_e, Ru.setIx_d, Ru.setP_e, Ru.setP_d, Ru.setP_1, Ru.par_e, Ru.par_1, Ru.stup_e, Ru.stup_d, Ru.wK_t, Ru.wK_f, Ru.wK_nx, Ru.wK_rt, Ru.runB_f, Ru.runB_t, Ru.rb_f, Ru.rb_t, Ru.rb_n, Ru.lt_i, Ru.le_i, Ru.gt_i, Ru.ge_i, Ru.sub_i, Ru.add_i, Ru.add_s, Ru.add_t, Ru.add_l, Ru.mul_i, Ru.div_i, Ru.mod_i, Ru.neg_i, Ru.is_n, Ru.isNot_n, Ru.non_n, Ru.non_i, Ru.non_b, Ru.non_s, Ru.non_l, Ru.non_t, Ru.len_l, Ru.len_t, Ru.len_s, Ru.list_l, Ru.list_t, Ru.tuple_l, Ru.tuple_t, Ru.int_i, Ru.gsl_l, Ru.gsl_t, Ru.gsl_s, Ru.eq_s, Ru.eq_i, Ru.eq_b, Ru.ne_b, Ru.ne_s, Ru.ne_i, Ru.in_2, Ru.atI_0, Ru.atI_1, Ru.atI_2, Ru.ix_t, Ru.ix_l, Ru.cut_1, E.wipeS, Ru.bind_some, Option.bind_none, Ru.map_some, Option.map_none, List.getElem?_cons_zero, List.getElem?_cons_succ, List.set_cons_zero, List.set_cons_succ, List.length_cons, List.length_nil, List.map_cons, List.map_nil, List.replicate, List.cons_append, List.nil_append, hT', h1, h2, hw]
      | [a], _ =>
        have hw : isW (.tuple [a]) = false := rfl
        rw [hw] at h1 h2
        simp [f3_law, -Option.bind_some, -Option.map_some, Ru.c_e, Ru.v_e, Ru.v_d, Ru.rv_e, Ru.rv_d, Ru.rv_l, Ru.nil_e, Ru.cons_e, Ru.cons_d, Ru.cons_l, Ru.cons_2, Ru.tup_e, Ru.tup_d, Ru.lst_e, Ru.lst_d, Ru.rd_e, Ru.rd_d, Ru.rd_l, Ru.op_e, Ru.op_1, Ru.op_2, Ru.op_3, Ru.un_e, Ru.un_1, Ru.isi_e, Ru.ite_e, Ru.ite_t, Ru.ite_f, Ru.ofB_e, Ru.ofB_1, Ru.toB_e, Ru.toB_1, Ru.and_e, Ru.and_t, Ru.and_f, Ru.or_e, Ru.or_t, Ru.or_f, Ru.not_e, Ru.not_1, Ru.px_e, Ru.px_1, Ru.px_2, Ru.oN_e, Ru.oS_e, Ru.oS_1, Ru.sl_e, Ru.sl_1, Ru.sl_2, Ru.sl_3, Ru.sl3_e, Ru.tl_1, Ru.tl_2, Ru.tl_3, Ru.tl_4, Ru.call_e, Ru.call_1, Ru.call_2, Ru.callP_e, Ru.callP_1, Ru.callP_2, Ru.chain_e, Ru.ch_1, Ru.ch_2, Ru.ch_t, Ru.ch_f, Ru.iL_e, Ru.iL_d, Ru.iL_l, Ru.iT_e, Ru.iT_d, Ru.iR1_e, Ru.iR1_1, Ru.lR_e, Ru.lR_1, Ru.tN_e, Ru.tT_2, Ru.yes_e, Ru.lc_e, Ru.lc_1, Ru.lc_2, Ru.seq_e, Ru.seq_nx, Ru.seq_rt, Ru.nop_e, Ru.set_e, Ru.set_d, Ru.set_l, Ru.setL_e, Ru.setL_l, Ru.ret_e, Ru.ret_1, Ru.retV_e, Ru.retV_l, Ru.retV_d, Ru.frz_e, Ru.frz_l, Ru.sIte_e, Ru.sIte_t, Ru.sIte_f, Ru.for_e, Ru.for_1, Ru.for_nil, Ru.for_cons, Ru.fK_1, Ru.fK_nx, Ru.fK_rt, Ru.append_e, Ru.append_1, Ru.append_d, Ru.append_l, Ru.extend_e, Ru.extend_1, Ru.extend_l, Ru.pop_e, Ru.pop_1, Ru.setIx_e, Ru.setIx_d, Ru.setP_e, Ru.setP_d, Ru.setP_1, Ru.par_e, Ru.par_1, Ru.stup_e, Ru.stup_d, Ru.wK_t, Ru.wK_f, Ru.wK_nx, Ru.wK_rt, Ru.runB_f, Ru.runB_t, Ru.rb_f, Ru.rb_t, Ru.rb_n, Ru.lt_i, Ru.le_i, Ru.gt_i, Ru.ge_i, Ru.sub_i, Ru.add_i, Ru.add_s, Ru.add_t, Ru.add_l, Ru.mul_i, Ru.div_i, Ru.mod_i, Ru.neg_i, Ru.is_n, Ru.isNot_n, Ru.non_n, Ru.non_i, Ru.non_b, Ru.non_s, Ru.non_l, Ru.non_t, Ru.len_l, Ru.len_t, Ru.len_s, Ru.list_l, Ru.list_t, Ru.tuple_l, Ru.tuple_t, Ru.int_i, Ru.gsl_l, Ru.gsl_t, Ru.gsl_s, Ru.eq_s, Ru.eq_i, Ru.eq_b, Ru.ne_b, Ru.ne_s, Ru.ne_i, Ru.in_2, Ru.atI_0, Ru.atI_1, Ru.atI_2, Ru.ix_t, Ru.ix_l, Ru.cut_1, E.wipeS, Ru.bind_some, Option.bind_none, Ru.map_some, Option.map_none, List.getElem?_cons_zero, List.getElem?_cons_succ, List.set_cons_zero, List.set_cons_succ, List.length_cons, List.length_nil, List.map_cons, List.map_nil, List.replicate, List.cons_append, List.nil_append, hT', h1, h2, hw]
      | [a, b], hp =>
        have hpa : a.plain = true ∧ b.plain = true := by
          simp only [PyData.plain, PyData.plainAll, Bool.and_true, Bool.and_eq_true] at hp
          exact hp
        have hw : isW (.tuple [a, b]) = (inW a && inW b) := rfl
        have hlc := Ru.lc_pure (t := E.tN 14) (c := E.or (E.not (E.toB (E.call m_law_is_integer (E.cons (E.v 14) E.nil)))) (E.or (E.toB (E.op gLt (E.rv 14) (E.rd (E.c (.int 1))))) (E.toB (E.op gGt (E.rv 14) (E.rd (E.c (.int 3))))))) (f := E.v 14) (r := [s0, s1, s2, .d (.tuple [a, b]), s4, s5, s6, s7, s8, s9, s10, s11, s12, s13, .un, s15]) (p := p) (fun y => !inW y) id [a, b] [] fun y hy => by
          have hy' : y.plain = true := by
            simp only [List.mem_cons, List.not_mem_nil, or_false] at hy
            rcases hy with rfl | rfl
            · exact hpa.1
            · exact hpa.2
          have hi := e_law_is_integer hy'
          refine ⟨_, rfl, ?_, fun _ => ⟨.d y, by simp [-Option.bind_some, -Option.map_some, Ru.c_e, Ru.v_e, Ru.v_d, Ru.rv_e, Ru.rv_d, Ru.rv_l, Ru.nil_e, Ru.cons_e, Ru.cons_d, Ru.cons_l, Ru.cons_2, Ru.tup_e, Ru.tup_d, Ru.lst_e, Ru.lst_d, Ru.rd_e, Ru.rd_d, Ru.rd_l, Ru.op_e, Ru.op_1, Ru.op_2, Ru.op_3, Ru.un_e, Ru.un_1, Ru.isi_e, Ru.ite_e, Ru.ite_t, Ru.ite_f, Ru.ofB_e, Ru.ofB_1, Ru.toB_e, Ru.toB_1, Ru.and_e, Ru.and_t, Ru.and_f, Ru.or_e, Ru.or_t, Ru.or_f, Ru.not_e, Ru.not_1, Ru.px_e, Ru.px_1, Ru.px_2, Ru.oN_e, Ru.oS_e, Ru.oS_1, Ru.sl_e, Ru.sl_1, Ru.sl_2, Ru.sl_3, Ru.sl3_e, Ru.tl_1, Ru.tl_2, Ru.tl_3, Ru.tl_4, Ru.call_e, Ru.call_1, Ru.call_2, Ru.callP_e, Ru.callP_1, Ru.callP_2, Ru.chain_e, Ru.ch_1, Ru.ch_2, Ru.ch_t, Ru.ch_f, Ru.iL_e, Ru.iL_d, Ru.iL_l, Ru.iT_e, Ru.iT_d, Ru.iR1_e, Ru.iR1_1, Ru.lR_e, Ru.lR_1, Ru.tN_e, Ru.tT_2, Ru.yes_e, Ru.lc_e, Ru.lc_1, Ru.lc_2, Ru.seq_e, Ru.seq_nx, Ru.seq_rt, Ru.nop_e, Ru.set_e, Ru.set_d, Ru.set_l, Ru.setL_e, Ru.setL_l, Ru.ret_e, Ru.ret_1, Ru.retV_e, Ru.retV_l, Ru.retV_d, Ru.frz_e, Ru.frz_l, Ru.sIte_e, Ru.sIte_t, Ru.sIte_f, Ru.for_e, Ru.for_1, Ru.for_nil, Ru.for_cons, Ru.fK_1, Ru.fK_nx, Ru.fK_rt, Ru.append_e, Ru.append_1, Ru.append_d, Ru.append_l, Ru.extend_e, Ru.extend_1, Ru.extend_l, Ru.pop_e, Ru.pop_1, Ru.setIx_e, Ru.setIx_d, Ru.setP_e, Ru.setP_d, Ru.setP_1, Ru.par_e, Ru.par_1, Ru.stup_e, Ru.stup_d, Ru.wK_t, Ru.wK_f, Ru.wK_nx, Ru.wK_rt, Ru.runB_f, Ru.runB_t, Ru.rb_f, Ru.rb_t, Ru.rb_n, Ru.lt_i, Ru.le_i, Ru.gt_i, Ru.ge_i, Ru.sub_i, Ru.add_i, Ru.add_s, Ru.add_t, Ru.add_l, Ru.mul_i, Ru.div_i, Ru.mod_i, Ru.neg_i, Ru.is_n, Ru.isNot_n, Ru.non_n, Ru.non_i, Ru.non_b, Ru.non_s, Ru.non_l, Ru.non_t, Ru.len_l, Ru.len_t, Ru.len_s, Ru.list_l, Ru.list_t, Ru.tuple_l, Ru.tuple_t, Ru.int_i, Ru.gsl_l, Ru.gsl_t, Ru.gsl_s, Ru.eq_s, Ru.eq_i, Ru.eq_b, Ru.ne_b, Ru.ne_s, Ru.ne_i, Ru.in_2, Ru.atI_0, Ru.atI_1, Ru.atI_2, Ru.ix_t, Ru.ix_l, Ru.cut_1, E.wipeS, Ru.bind_some, Option.bind_none, Ru.map_some, Option.map_none, List.getElem?_cons_zero, List.getElem?_cons_succ, List.set_cons_zero, List.set_cons_succ, List.length_cons, List.length_nil, List.map_cons, List.map_nil, List.replicate, List.cons_append, List.nil_append], rfl⟩⟩
          cases y with
          | int i =>
            by_cases c1 : i < 1
            · have c1' : ¬ 1 ≤ i := by omega
              simp [-Option.bind_some, -Option.map_some, Ru.c_e, Ru.v_e, Ru.v_d, Ru.rv_e, Ru.rv_d, Ru.rv_l, Ru.nil_e, Ru.cons_e, Ru.cons_d, Ru.cons_l, Ru.cons_2, Ru.tup_e, Ru.tup_d, Ru.lst_e, Ru.lst_d, Ru.rd_e, Ru.rd_d, Ru.rd_l, Ru.op_e, Ru.op_1, Ru.op_2, Ru.op_3, Ru.un_e, Ru.un_1, Ru.isi_e, Ru.ite_e, Ru.ite_t, Ru.ite_f, Ru.ofB_e, Ru.ofB_1, Ru.toB_e, Ru.toB_1, Ru.and_e, Ru.and_t, Ru.and_f, Ru.or_e, Ru.or_t, Ru.or_f, Ru.not_e, Ru.not_1, Ru.px_e, Ru.px_1, Ru.px_2, Ru.oN_e, Ru.oS_e, Ru.oS_1, Ru.sl_e, Ru.sl_1, Ru.sl_2, Ru.sl_3, Ru.sl3_e, Ru.tl_1, Ru.tl_2, Ru.tl_3, Ru.tl_4, Ru.call_e, Ru.call_1, Ru.call_2, Ru.callP_e, Ru.callP_1, Ru.callP_2, Ru.chain_e, Ru.ch_1, Ru.ch_2, Ru.ch_t, Ru.ch_f, Ru.iL_e, Ru.iL_d, Ru.iL_l, Ru.iT_e, Ru.iT_d, Ru.iR1_e, Ru.iR1_1, Ru.lR_e, Ru.lR_1, Ru.tN_e, Ru.tT_2, Ru.yes_e, Ru.lc_e, Ru.lc_1, Ru.lc_2, Ru.seq_e, Ru.seq_nx, Ru.seq_rt, Ru.nop_e, Ru.set_e, Ru.set_d, Ru.set_l, Ru.setL_e, Ru.setL_l, Ru.ret_e, Ru.ret_1, Ru.retV_e, Ru.retV_l, Ru.retV_d, Ru.frz_e, Ru.frz_l, Ru.sIte_e, Ru.sIte_t, Ru.sIte_f, Ru.for_e, Ru.for_1, Ru.for_nil, Ru.for_cons, Ru.fK_1, Ru.fK_nx, Ru.fK_rt, Ru.append_e, Ru.append_1, Ru.append_d, Ru.append_l, Ru.extend_e, Ru.extend_1, Ru.extend_l, Ru.pop_e, Ru.pop_1, Ru.setIx_e, Ru.setIx_d, Ru.setP_e, Ru.setP_d, Ru.setP_1, Ru.par_e, Ru.par_1, Ru.stup_e, Ru.stup_d, Ru.wK_t, Ru.wK_f, Ru.wK_nx, Ru.wK_rt, Ru.runB_f, Ru.runB_t, Ru.rb_f, Ru.rb_t, Ru.rb_n, Ru.lt_i, Ru.le_i, Ru.gt_i, Ru.ge_i, Ru.sub_i, Ru.add_i, Ru.add_s, Ru.add_t, Ru.add_l, Ru.mul_i, Ru.div_i, Ru.mod_i, Ru.neg_i, Ru.is_n, Ru.isNot_n, Ru.non_n, Ru.non_i, Ru.non_b, Ru.non_s, Ru.non_l, Ru.non_t, Ru.len_l, Ru.len_t, Ru.len_s, Ru.list_l, Ru.list_t, Ru.tuple_l, Ru.tuple_t, Ru.int_i, Ru.gsl_l, Ru.gsl_t, Ru.gsl_s, Ru.eq_s, Ru.eq_i, Ru.eq_b, Ru.ne_b, Ru.ne_s, Ru.ne_i, Ru.in_2, Ru.atI_0, Ru.atI_1, Ru.atI_2, Ru.ix_t, Ru.ix_l, Ru.cut_1, E.wipeS, Ru.bind_some, Option.bind_none, Ru.map_some, Option.map_none, List.getElem?_cons_zero, List.getElem?_cons_succ, List.set_cons_zero, List.set_cons_succ, List.length_cons, List.length_nil, List.map_cons, List.map_nil, List.replicate, List.cons_append, List.nil_append, hi, isI, inW, c1, c1']
            · have c1' : 1 ≤ i := by omega
              by_cases c2 : 3 < i
              · have c2' : ¬ i ≤ 3 := by omega
                simp [-Option.bind_some, -Option.map_some, Ru.c_e, Ru.v_e, Ru.v_d, Ru.rv_e, Ru.rv_d, Ru.rv_l, Ru.nil_e, Ru.cons_e, Ru.cons_d, Ru.cons_l, Ru.cons_2, Ru.tup_e, Ru.tup_d, Ru.lst_e, Ru.lst_d, Ru.rd_e, Ru.rd_d, Ru.rd_l, Ru.op_e, Ru.op_1, Ru.op_2, Ru.op_3, Ru.un_e, Ru.un_1, Ru.isi_e, Ru.ite_e, Ru.ite_t, Ru.ite_f, Ru.ofB_e, Ru.ofB_1, Ru.toB_e, Ru.toB_1, Ru.and_e, Ru.and_t, Ru.and_f, Ru.or_e, Ru.or_t, Ru.or_f, Ru.not_e, Ru.not_1, Ru.px_e, Ru.px_1, Ru.px_2, Ru.oN_e, Ru.oS_e, Ru.oS_1, Ru.sl_e, Ru.sl_1, Ru.sl_2, Ru.sl_3, Ru.sl3_e, Ru.tl_1, Ru.tl_2, Ru.tl_3, Ru.tl_4, Ru.call_e, Ru.call_1, Ru.call_2, Ru.callP_e, Ru.callP_1, Ru.callP_2, Ru.chain_e, Ru.ch_1, Ru.ch_2, Ru.ch_t, Ru.ch_f, Ru.iL_e, Ru.iL_d, Ru.iL_l, Ru.iT_e, Ru.iT_d, Ru.iR1_e, Ru.iR1_1, Ru.lR_e, Ru.lR_1, Ru.tN_e, Ru.tT_2, Ru.yes_e, Ru.lc_e, Ru.lc_1, Ru.lc_2, Ru.seq_e, Ru.seq_nx, Ru.seq_rt, Ru.nop_e, Ru.set_e, Ru.set_d, Ru.set_l, Ru.setL_e, Ru.setL_l, Ru.ret_e, Ru.ret_1, Ru.retV_e, Ru.retV_l, Ru.retV_d, Ru.frz_e, Ru.frz_l, Ru.sIte_e, Ru.sIte_t, Ru.sIte_f, Ru.for_e, Ru.for_1, Ru.for_nil, Ru.for_cons, Ru.fK_1, Ru.fK_nx, Ru.fK_rt, Ru.append_e, Ru.append_1, Ru.append_d, Ru.append_l, Ru.extend_e, Ru.extend_1, Ru.extend_l, Ru.pop_e, Ru.pop_1, Ru.setIx_e, Ru.setIx_d, Ru.setP_e, Ru.setP_d, Ru.setP_1, Ru.par_e, Ru.par_1, Ru.stup_e, Ru.stup_d, Ru.wK_t, Ru.wK_f, Ru.wK_nx, Ru.wK_rt, Ru.runB_f, Ru.runB_t, Ru.rb_f, Ru.rb_t, Ru.rb_n, Ru.lt_i, Ru.le_i, Ru.gt_i, Ru.ge_i, Ru.sub_i, Ru.add_i, Ru.add_s, Ru.add_t, Ru.add_l, Ru.mul_i, Ru.div_i, Ru.mod_i, Ru.neg_i, Ru.is_n, Ru.isNot_n, Ru.non_n, Ru.non_i, Ru.non_b, Ru.non_s, Ru.non_l, Ru.non_t, Ru.len_l, Ru.len_t, Ru.len_s, Ru.list_l, Ru.list_t, Ru.tuple_l, Ru.tuple_t, Ru.int_i, Ru.gsl_l, Ru.gsl_t, Ru.gsl_s, Ru.eq_s, Ru.eq_i, Ru.eq_b, Ru.ne_b, Ru.ne_s, Ru.ne_i, Ru.in_2, Ru.atI_0, Ru.atI_1, Ru.atI_2, Ru.ix_t, Ru.ix_l, Ru.cut_1, E.wipeS, Ru.bind_some, Option.bind_none, Ru.map_some, Option.map_none, List.getElem?_cons_zero, List.getElem?_cons_succ, List.set_cons_zero, List.set_cons_succ, List.length_cons, List.length_nil, List.map_cons, List.map_nil, List.replicate, List.cons_append, List.nil_append, hi, isI, inW, c1, c2, c1', c2']
              · have c2' : i ≤ 3 := by omega
                simp [-Option.bind_some, -Option.map_some, Ru.c_e, Ru.v_e, Ru.v_d, Ru.rv_e, Ru.rv_d, Ru.rv_l, Ru.nil_e, Ru.cons_e, Ru.cons_d, Ru.cons_l, Ru.cons_2, Ru.tup_e, Ru.tup_d, Ru.lst_e, Ru.lst_d, Ru.rd_e, Ru.rd_d, Ru.rd_l, Ru.op_e, Ru.op_1, Ru.op_2, Ru.op_3, Ru.un_e, Ru.un_1, Ru.isi_e, Ru.ite_e, Ru.ite_t, Ru.ite_f, Ru.ofB_e, Ru.ofB_1, Ru.toB_e, Ru.toB_1, Ru.and_e, Ru.and_t, Ru.and_f, Ru.or_e, Ru.or_t, Ru.or_f, Ru.not_e, Ru.not_1, Ru.px_e, Ru.px_1, Ru.px_2, Ru.oN_e, Ru.oS_e, Ru.oS_1, Ru.sl_e, Ru.sl_1, Ru.sl_2, Ru.sl_3, Ru.sl3_e, Ru.tl_1, Ru.tl_2, Ru.tl_3, Ru.tl_4, Ru.call_e, Ru.call_1, Ru.call_2, Ru.callP_e, Ru.callP_1, Ru.callP_2, Ru.chain_e, Ru.ch_1, Ru.ch_2, Ru.ch_t, Ru.ch_f, Ru.iL_e, Ru.iL_d, Ru.iL_l, Ru.iT_e, Ru.iT_d, Ru.iR1_e, Ru.iR1_1, Ru.lR_e, Ru.lR_1, Ru.tN_e, Ru.tT_2, Ru.yes_e, Ru.lc_e, Ru.lc_1, Ru.lc_2, Ru.seq_e, Ru.seq_nx, Ru.seq_rt, Ru.nop_e, Ru.set_e, Ru.set_d, Ru.set_l, Ru.setL_e, Ru.setL_l, Ru.ret_e, Ru.ret_1, Ru.retV_e, Ru.retV_l, Ru.retV_d, Ru.frz_e, Ru.frz_l, Ru.sIte_e, Ru.sIte_t, Ru.sIte_f, Ru.for_e, Ru.for_1, Ru.for_nil, Ru.for_cons, Ru.fK_1, Ru.fK_nx, Ru.fK_rt, Ru.append_e, Ru.append_1, Ru.append_d, Ru.append_l, Ru.extend_e, Ru.extend_1, Ru.extend_l, Ru.pop_e, Ru.pop_1, Ru.setIx_e, Ru.setIx_d, Ru.setP_e, Ru.setP_d, Ru.setP_1, Ru.par_e, Ru.par_1, Ru.stup_e, Ru.stup_d, Ru.wK_t, Ru.wK_f, Ru.wK_nx, Ru.wK_rt, Ru.runB_f, Ru.runB_t, Ru.rb_f, Ru.rb_t, Ru.rb_n, Ru.lt_i, Ru.le_i, Ru.gt_i, Ru.ge_i, Ru.sub_i, Ru.add_i, Ru.add_s, Ru.add_t, Ru.add_l, Ru.mul_i, Ru.div_i, Ru.mod_i, Ru.neg_i, Ru.is_n, Ru.isNot_n, Ru.non_n, Ru.non_i, Ru.non_b, Ru.non_s, Ru.non_l, Ru.non_t, Ru.len_l, Ru.len_t, Ru.len_s, Ru.list_l, Ru.list_t, Ru.tuple_l, Ru.tuple_t, Ru.int_i, Ru.gsl_l, Ru.gsl_t, Ru.gsl_s, Ru.eq_s, Ru.eq_i, Ru.eq_b, Ru.ne_b, Ru.ne_s, Ru.ne_i, Ru.in_2, Ru.atI_0, Ru.atI_1, Ru.atI_2, Ru.ix_t, Ru.ix_l, Ru.cut_1, E.wipeS, Ru.bind_some, Option.bind_none, Ru.map_some, Option.map_none, List.getElem?_cons_zero, List.getElem?_cons_succ, List.set_cons_zero, List.set_cons_succ, List.length_cons, List.length_nil, List.map_cons, List.map_nil, List.replicate, List.cons_append, List.nil_append, hi, isI, inW, c1, c2, c1', c2']
          | _ => simp [-Option.bind_some, -Option.map_some, Ru.c_e, Ru.v_e, Ru.v_d, Ru.rv_e, Ru.rv_d, Ru.rv_l, Ru.nil_e, Ru.cons_e, Ru.cons_d, Ru.cons_l, Ru.cons_2, Ru.tup_e, Ru.tup_d, Ru.lst_e, Ru.lst_d, Ru.rd_e, Ru.rd_d, Ru.rd_l, Ru.op_e, Ru.op_1, Ru.op_2, Ru.op_3, Ru.un_e, Ru.un_1, Ru.isi_e, Ru.ite_e, Ru.ite_t, Ru.ite_f, Ru.ofB_e, Ru.ofB_1, Ru.toB_e, Ru.toB_1, Ru.and_e, Ru.and_t, Ru.and_f, Ru.or_e, Ru.or_t, Ru.or_f, Ru.not_e, Ru.not_1, Ru.px_e, Ru.px_1, Ru.px_2, Ru.oN_e, Ru.oS_e, Ru.oS_1, Ru.sl_e, Ru.sl_1, Ru.sl_2, Ru.sl_3, Ru.sl3_e, Ru.tl_1, Ru.tl_2, Ru.tl_3, Ru.tl_4, Ru.call_e, Ru.call_1, Ru.call_2, Ru.callP_e, Ru.callP_1, Ru.callP_2, Ru.chain_e, Ru.ch_1, Ru.ch_2, Ru.ch_t, Ru.ch_f, Ru.iL_e, Ru.iL_d, Ru.iL_l, Ru.iT_e, Ru.iT_d, Ru.iR1_e, Ru.iR1_1, Ru.lR_e, Ru.lR_1, Ru.tN_e, Ru.tT_2, Ru.yes_e, Ru.lc_e, Ru.lc_1, Ru.lc_2, Ru.seq_e, Ru.seq_nx, Ru.seq_rt, Ru.nop_e, Ru.set_e, Ru.set_d, Ru.set_l, Ru.setL_e, Ru.setL_l, Ru.ret_e, Ru.ret_1, Ru.retV_e, Ru.retV_l, Ru.retV_d, Ru.frz_e, Ru.frz_l, Ru.sIte_e, Ru.sIte_t, Ru.sIte_f, Ru.for_e, Ru.for_1, Ru.for_nil, Ru.for_cons, Ru.fK_1, Ru.fK_nx, Ru.fK_rt, Ru.append_e, Ru.append_1, Ru.append_d, Ru.append_l, Ru.extend_e, Ru.extend_1, Ru.extend_l, Ru.pop_e, Ru.pop_1, Ru.setIx_e, Ru.setIx_d, Ru.setP_e, Ru.setP_d, Ru.setP_1, Ru.par_e, Ru.par_1, Ru.stup_e, Ru.stup_d, Ru.wK_t, Ru.wK_f, Ru.wK_nx, Ru.wK_rt, Ru.runB_f, Ru.runB_t, Ru.rb_f, Ru.rb_t, Ru.rb_n, Ru.lt_i, Ru.le_i, Ru.gt_i, Ru.ge_i, Ru.sub_i, Ru.add_i, Ru.add_s, Ru.add_t, Ru.add_l, Ru.mul_i, Ru.div_i, Ru.mod_i, Ru.neg_i, Ru.is_n, Ru.isNot_n, Ru.non_n, Ru.non_i, Ru.non_b, Ru.non_s, Ru.non_l, Ru.non_t, Ru.len_l, Ru.len_t, Ru.len_s, Ru.list_l, Ru.list_t, Ru.tuple_l, Ru.tuple_t, Ru.int_i, Ru.gsl_l, Ru.gsl_t, Ru.gsl_s, Ru.eq_s, Ru.eq_i, Ru.eq_b, Ru.ne_b, Ru.ne_s, Ru.ne_i, Ru.in_2, Ru.atI_0, Ru.atI_1, Ru.atI_2, Ru.ix_t, Ru.ix_l, Ru.cut_1, E.wipeS, Ru.bind_some, Option.bind_none, Ru.map_some, Option.map_none, List.getElem?_cons_zero, List.getElem?_cons_succ, List.set_cons_zero, List.set_cons_succ, List.length_cons, List.length_nil, List.map_cons, List.map_nil, List.replicate, List.cons_append, List.nil_append, hi, isI, inW]
        rw [hw] at h1 h2
        cases ha : inW a <;> cases hb : inW b <;> simp [ha, hb] at hlc h1 h2 <;> simp [f3_law, -Option.bind_some, -Option.map_some, Ru.c_e, Ru.v_e, Ru.v_d, Ru.rv_e, Ru.rv_d, Ru.rv_l, Ru.nil_e, Ru.cons_e, Ru.cons_d, Ru.cons_l, Ru.cons_2, Ru.tup_e, Ru.tup_d, Ru.lst_e, Ru.lst_d, Ru.rd_e, Ru.rd_d, Ru.rd_l, Ru.op_e, Ru.op_1, Ru.op_2, Ru.op_3, Ru.un_e, Ru.un_1, Ru.isi_e, Ru.ite_e, Ru.ite_t, Ru.ite_f, Ru.ofB_e, Ru.ofB_1, Ru.toB_e, Ru.toB_1, Ru.and_e, Ru.and_t, Ru.and_f, Ru.or_e, Ru.or_t, Ru.or_f, Ru.not_e, Ru.not_1, Ru.px_e, Ru.px_1, Ru.px_2, Ru.oN_e, Ru.oS_e, Ru.oS_1, Ru.sl_e, Ru.sl_1, Ru.sl_2, Ru.sl_3, Ru.sl3_e, Ru.tl_1, Ru.tl_2, Ru.tl_3, Ru.tl_4, Ru.call_e, Ru.call_1, Ru.call_2, Ru.callP_e, Ru.callP_1, Ru.callP_2, Ru.chain_e, Ru.ch_1, Ru.ch_2, Ru.ch_t, Ru.ch_f, Ru.iL_e, Ru.iL_d, Ru.iL_l, Ru.iT_e, Ru.iT_d, Ru.iR1_e, Ru.iR1_1, Ru.lR_e, Ru.lR_1, Ru.tN_e, Ru.tT_2, Ru.yes_e, Ru.lc_e, Ru.lc_1, Ru.lc_2, Ru.seq_e, Ru.seq_nx, Ru.seq_rt, Ru.nop_e, Ru.set_e, Ru.set_d, Ru.set_l, Ru.setL_e, Ru.setL_l, Ru.ret_e, Ru.ret_1, Ru.retV_e, Ru.retV_l, Ru.retV_d, Ru.frz_e, Ru.frz_l, Ru.sIte_e, Ru.sIte_t, Ru.sIte_f, Ru.for_e, Ru.for_1, Ru.for_nil, Ru.for_cons, Ru.fK_1, Ru.fK_nx, Ru.fK_rt, Ru.append_e, Ru.append_1, Ru.append_d, Ru.append_l, Ru.extend_e, Ru.extend_1, Ru.extend_l, Ru.pop_e, Ru.pop_1, Ru.setIx_e, Ru.setIx_d, Ru.setP_e, Ru.setP_d, Ru.setP_1, Ru.par_e, Ru.par_1, Ru.stup_e, Ru.stup_d, Ru.wK_t, Ru.wK_f, Ru.wK_nx, Ru.wK_rt, Ru.runB_f, Ru.runB_t, Ru.rb_f, Ru.rb_t, Ru.rb_n, Ru.lt_i, Ru.le_i, Ru.gt_i, Ru.ge_i, Ru.sub_i, Ru.add_i, Ru.add_s, Ru.add_t, Ru.add_l, Ru.mul_i, Ru.div_i, Ru.mod_i, Ru.neg_i, Ru.is_n, Ru.isNot_n, Ru.non_n, Ru.non_i, Ru.non_b, Ru.non_s, Ru.non_l, Ru.non_t, Ru.len_l, Ru.len_t, Ru.len_s, Ru.list_l, Ru.list_t, Ru.tuple_l, Ru.tuple_t, Ru.int_i, Ru.gsl_l, Ru.gsl_t, Ru.gsl_s, Ru.eq_s, Ru.eq_i, Ru.eq_b, Ru.ne_b, Ru.ne_s, Ru.ne_i, Ru.in_2, Ru.atI_0, Ru.atI_1, Ru.atI_2, Ru.ix_t, Ru.ix_l, Ru.cut_1, E.wipeS, Ru.bind_some, Option.bind_none, Ru.map_some, Option.map_none, List.getElem?_cons_zero, List.getElem?_cons_succ, List.set_cons_zero, List.set_cons_succ, List.length_cons, List.length_nil, List.map_cons, List.map_nil, List.replicate, List.cons_append, List.nil_append, hT', h1, h2, hw, hlc, ha, hb]
      | a :: b :: c :: r, _ =>
        have l2 : ((r.length : Int) + 1 + 1 + 1 == 2) = false := beq_false_of_ne (by omega)
        have hw : isW (.tuple (a :: b :: c :: r)) = false := rfl
        rw [hw] at h1 h2
        simp [f3_law, -Option.bind_some, -Option.map_some, Ru.c_e, Ru.v_e, Ru.v_d, Ru.rv_e, Ru.rv_d, Ru.rv_l, Ru.nil_e, Ru.cons_e, Ru.cons_d, Ru.cons_l, Ru.cons_2, Ru.tup_e, Ru.tup_d, Ru.lst_e, Ru.lst_d, Ru.rd_e, Ru.rd_d, Ru.rd_l, Ru.op_e, Ru.op_1, Ru.op_2, Ru.op_3, Ru.un_e, Ru.un_1, Ru.isi_e, Ru.ite_e, Ru.ite_t, Ru.ite_f, Ru.ofB_e, Ru.ofB_1, Ru.toB_e, Ru.toB_1, Ru.and_e, Ru.and_t, Ru.and_f, Ru.or_e, Ru.or_t, Ru.or_f, Ru.not_e, Ru.not_1, Ru.px_e, Ru.px_1, Ru.px_2, Ru.oN_e, Ru.oS_e, Ru.oS_1, Ru.sl_e, Ru.sl_1, Ru.sl_2, Ru.sl_3, Ru.sl3_e, Ru.tl_1, Ru.tl_2, Ru.tl_3, Ru.tl_4, Ru.call_e, Ru.call_1, Ru.call_2, Ru.callP_e, Ru.callP_1, Ru.callP_2, Ru.chain_e, Ru.ch_1, Ru.ch_2, Ru.ch_t, Ru.ch_f, Ru.iL_e, Ru.iL_d, Ru.iL_l, Ru.iT_e, Ru.iT_d, Ru.iR1_e, Ru.iR1_1, Ru.lR_e, Ru.lR_1, Ru.tN_e, Ru.tT_2, Ru.yes_e, Ru.lc_e, Ru.lc_1, Ru.lc_2, Ru.seq_e, Ru.seq_nx, Ru.seq_rt, Ru.nop_e, Ru.set_e, Ru.set_d, Ru.set_l, Ru.setL_e, Ru.setL_l, Ru.ret_e, Ru.ret_1, Ru.retV_e, Ru.retV_l, Ru.retV_d, Ru.frz_e, Ru.frz_l, Ru.sIte_e, Ru.sIte_t, Ru.sIte_f, Ru.for_e, Ru.for_1, Ru.for_nil, Ru.for_cons, Ru.fK_1, Ru.fK_nx, Ru.fK_rt, Ru.append_e, Ru.append_1, Ru.append_d, Ru.append_l, Ru.extend_e, Ru.extend_1, Ru.extend_l, Ru.pop_e, Ru.pop_1, Ru.setIx_e, Ru.setIx_d, Ru.setP_e, Ru.setP_d, Ru.setP_1, Ru.par_e, Ru.par_1, Ru.stup_e, Ru.stup_d, Ru.wK_t, Ru.wK_f, Ru.wK_nx, Ru.wK_rt, Ru.runB_f, Ru.runB_t, Ru.rb_f, Ru.rb_t, Ru.rb_n, Ru.lt_i, Ru.le_i, Ru.gt_i, Ru.ge_i, Ru.sub_i, Ru.add_i, Ru.add_s, Ru.add_t, Ru.add_l, Ru.mul_i, Ru.div_i, Ru.mod_i, Ru.neg_i, Ru.is_n, Ru.isNot_n, Ru.non_n, Ru.non_i, Ru.non_b, Ru.non_s, Ru.non_l, Ru.non_t, Ru.len_l, Ru.len_t, Ru.len_s, Ru.list_l, Ru.list_t, Ru.tuple_l, Ru.tuple_t, Ru.int_i, Ru.gsl_l, Ru.gsl_t, Ru.gsl_s, Ru.eq_s, Ru.eq_i, Ru.eq_b, Ru.ne_b, Ru.ne_s, Ru.ne_i, Ru.in_2, Ru.atI_0, Ru.atI_1, Ru.atI_2, Ru.ix_t, Ru.ix_l, Ru.cut_1, E.wipeS, Ru.bind_some, Option.bind_none, Ru.map_some, Option.map_none, List.getElem?_cons_zero, List.getElem?_cons_succ, List.set_cons_zero, List.set_cons_succ, List.length_cons, List.length_nil, List.map_cons, List.map_nil, List.replicate, List.cons_append, List.nil_append, hT', h1, h2, hw, l2]
    | _ => cases ht
  · have hf : isTu x = false := by simpa using ht
    have hw : isW x = false := by
      unfold isW
      split
      · cases hf
      · rfl
    rw [hf] at hT
    rw [hw] at h1 h2
    simp [f3_law, -Option.bind_some, -Option.map_some, Ru.c_e, Ru.v_e, Ru.v_d, Ru.rv_e, Ru.rv_d, Ru.rv_l, Ru.nil_e, Ru.cons_e, Ru.cons_d, Ru.cons_l, Ru.cons_2, Ru.tup_e, Ru.tup_d, Ru.lst_e, Ru.lst_d, Ru.rd_e, Ru.rd_d, Ru.rd_l, Ru.op_e, Ru.op_1, Ru.op_2, Ru.op_3, Ru.un_e, Ru.un_1, Ru.isi_e, Ru.ite_e, Ru.ite_t, Ru.ite_f, Ru.ofB_e, Ru.ofB_1, Ru.toB_e, Ru.toB_1, Ru.and_e, Ru.and_t, Ru.and_f, Ru.or_e, Ru.or_t, Ru.or_f, Ru.not_e, Ru.not_1, Ru.px_e, Ru.px_1, Ru.px_2, Ru.oN_e, Ru.oS_e, Ru.oS_1, Ru.sl_e, Ru.sl_1, Ru.sl_2, Ru.sl_3, Ru.sl3_e, Ru.tl_1, Ru.tl_2, Ru.tl_3, Ru.tl_4, Ru.call_e, Ru.call_1, Ru.call_2, Ru.callP_e, Ru.callP_1, Ru.callP_2, Ru.chain_e, Ru.ch_1, Ru.ch_2, Ru.ch_t, Ru.ch_f, Ru.iL_e, Ru.iL_d, Ru.iL_l, Ru.iT_e, Ru.iT_d, Ru.iR1_e, Ru.iR1_1, Ru.lR_e, Ru.lR_1, Ru.tN_e, Ru.tT_2, Ru.yes_e, Ru.lc_e, Ru.lc_1, Ru.lc_2, Ru.seq_e, Ru.seq_nx, Ru.seq_rt, Ru.nop_e, Ru.set_e, Ru.set_d, Ru.set_l, Ru.setL_e, Ru.setL_l, Ru.ret_e, Ru.ret_1, Ru.retV_e, Ru.retV_l, Ru.retV_d, Ru.frz_e, Ru.frz_l, Ru.sIte_e, Ru.sIte_t, Ru.sIte_f, Ru.for_e, Ru.for_1, Ru.for_nil, Ru.for_cons, Ru.fK_1, Ru.fK_nx, Ru.fK_rt, Ru.append_e, Ru.append_1, Ru.append_d, Ru.append_l, Ru.extend_e, Ru.extend_1, Ru.extend_l, Ru.pop_e, Ru.pop_1, Ru.setIx_e, Ru.setIx_d, Ru.setP_e, Ru.setP_d, Ru.setP_1, Ru.par_e, Ru.par_1, Ru.stup_e, Ru.stup_d, Ru.wK_t, Ru.wK_f, Ru.wK_nx, Ru.wK_rt, Ru.runB_f, Ru.runB_t, Ru.rb_f, Ru.rb_t, Ru.rb_n, Ru.lt_i, Ru.le_i, Ru.gt_i, Ru.ge_i, Ru.sub_i, Ru.add_i, Ru.add_s, Ru.add_t, Ru.add_l, Ru.mul_i, Ru.div_i, Ru.mod_i, Ru.neg_i, Ru.is_n, Ru.isNot_n, Ru.non_n, Ru.non_i, Ru.non_b, Ru.non_s, Ru.non_l, Ru.non_t, Ru.len_l, Ru.len_t, Ru.len_s, Ru.list_l, Ru.list_t, Ru.tuple_l, Ru.tuple_t, Ru.int_i, Ru.gsl_l, Ru.gsl_t, Ru.gsl_s, Ru.eq_s, Ru.eq_i, Ru.eq_b, Ru.ne_b, Ru.ne_s, Ru.ne_i, Ru.in_2, Ru.atI_0, Ru.atI_1, Ru.atI_2, Ru.ix_t, Ru.ix_l, Ru.cut_1, E.wipeS, Ru.bind_some, Option.bind_none, Ru.map_some, Option.map_none, List.getElem?_cons_zero, List.getElem?_cons_succ, List.set_cons_zero, List.set_cons_succ, List.length_cons, List.length_nil, List.map_cons, List.map_nil, List.replicate, List.cons_append, List.nil_append, hT, h1, h2, hw]
theorem loop3 : ∀ (xs : List D) (s3 s4 : Sl), (∀ x ∈ xs, x.plain = true) → ∃ s3' s4', S.forL (E.tN 3) (f3_law m_law_pool m_law_world (m_condition_of 20) (m_law_condition 6) (m_law_same 30) (m_same_condition 20) m_law_pick m_law_atoms (m_law_holds 20) m_law_shuffled m_is_condition (m_atoms_where 20) (m_law_bent 60) m_is_world m_atoms_of m_law_draw (m_holds 20) (m_law_is_condition 45) m_law_is_integer) xs ⟨[s0, s1, s2, s3, s4, s5, s6, s7, s8, s9, s10, s11, s12, s13, s14, s15], p⟩ = some (.nx ⟨[s0, s1, s2, s3', s4', s5, s6, s7, s8, s9, s10, s11, s12, s13, s14, s15], p⟩)
  | [], s3, s4, _ => ⟨s3, s4, rfl⟩
  | x :: xs, s3, s4, h => by
    obtain ⟨s3', s4', ih⟩ := loop3 xs (.d x) (.d (.bool (isW x))) fun y hy => h y (by simp [hy])
    refine ⟨s3', s4', ?_⟩
    rw [Ru.for_cons]
    simp only [Ru.tN_e, Ru.bind_some, Ru.fK_1, List.set_cons_succ, List.set_cons_zero]
    rw [f3_ok (h x (by simp))]
    simp only [Ru.bind_some, Ru.fK_nx]
    exact ih
theorem L2' (h1 : 1 ≤ d) (h3 : d ≤ 3) (hp : VP p) : ∃ p', r2_law m_law_pool m_law_world (m_condition_of 20) (m_law_condition 6) (m_law_same 30) (m_same_condition 20) m_law_pick m_law_atoms (m_law_holds 20) m_law_shuffled m_is_condition (m_atoms_where 20) (m_law_bent 60) m_is_world m_atoms_of m_law_draw (m_holds 20) (m_law_is_condition 45) m_law_is_integer ⟨[s0, .pool, .d (W d t), s3, s4, s5, s6, s7, s8, s9, s10, s11, s12, s13, s14, s15], p⟩ = some (.rt (.d (.bool true)) p') := by
  obtain ⟨s3', s4', e1⟩ := loop3 (p := p) (s0 := s0) (s1 := .pool) (s2 := .d (W d t)) (s5 := s5) (s6 := s6) (s7 := s7) (s8 := s8) (s9 := s9) (s10 := s10) (s11 := s11) (s12 := s12) (s13 := s13) (s14 := s14) (s15 := s15)
    [W d t, .tuple [.int 0, .int 1], .tuple [.int 4, .int 1], .tuple [.int 1, .int 4], .list [.int 1, .int 1], .tuple [.int 1], .tuple [.int 1, .int 1, .int 1], .tuple [.bool true, .int 1], .none, .tuple [.int 3, .int 3]] s3 s4 (by
      intro x hx
      simp only [List.mem_cons, List.not_mem_nil, or_false] at hx
      rcases hx with rfl | rfl | rfl | rfl | rfl | rfl | rfl | rfl | rfl | rfl <;> rfl)
  obtain ⟨p', e2⟩ := L3 (d := d) (t := t) (p := p) (s0 := s0) (s3 := s3') (s4 := s4') (s5 := s5) (s6 := s6) (s7 := s7) (s8 := s8) (s9 := s9) (s10 := s10) (s11 := s11) (s12 := s12) (s13 := s13) (s14 := s14) (s15 := s15) h1 h3 hp
  refine ⟨p', ?_⟩
  simp [r2_law, -Option.bind_some, -Option.map_some, Ru.c_e, Ru.v_e, Ru.v_d, Ru.rv_e, Ru.rv_d, Ru.rv_l, Ru.nil_e, Ru.cons_e, Ru.cons_d, Ru.cons_l, Ru.cons_2, Ru.tup_e, Ru.tup_d, Ru.lst_e, Ru.lst_d, Ru.rd_e, Ru.rd_d, Ru.rd_l, Ru.op_e, Ru.op_1, Ru.op_2, Ru.op_3, Ru.un_e, Ru.un_1, Ru.isi_e, Ru.ite_e, Ru.ite_t, Ru.ite_f, Ru.ofB_e, Ru.ofB_1, Ru.toB_e, Ru.toB_1, Ru.and_e, Ru.and_t, Ru.and_f, Ru.or_e, Ru.or_t, Ru.or_f, Ru.not_e, Ru.not_1, Ru.px_e, Ru.px_1, Ru.px_2, Ru.oN_e, Ru.oS_e, Ru.oS_1, Ru.sl_e, Ru.sl_1, Ru.sl_2, Ru.sl_3, Ru.sl3_e, Ru.tl_1, Ru.tl_2, Ru.tl_3, Ru.tl_4, Ru.call_e, Ru.call_1, Ru.call_2, Ru.callP_e, Ru.callP_1, Ru.callP_2, Ru.chain_e, Ru.ch_1, Ru.ch_2, Ru.ch_t, Ru.ch_f, Ru.iL_e, Ru.iL_d, Ru.iL_l, Ru.iT_e, Ru.iT_d, Ru.iR1_e, Ru.iR1_1, Ru.lR_e, Ru.lR_1, Ru.tN_e, Ru.tT_2, Ru.yes_e, Ru.lc_e, Ru.lc_1, Ru.lc_2, Ru.seq_e, Ru.seq_nx, Ru.seq_rt, Ru.nop_e, Ru.set_e, Ru.set_d, Ru.set_l, Ru.setL_e, Ru.setL_l, Ru.ret_e, Ru.ret_1, Ru.retV_e, Ru.retV_l, Ru.retV_d, Ru.frz_e, Ru.frz_l, Ru.sIte_e, Ru.sIte_t, Ru.sIte_f, Ru.for_e, Ru.for_1, Ru.for_nil, Ru.for_cons, Ru.fK_1, Ru.fK_nx, Ru.fK_rt, Ru.append_e, Ru.append_1, Ru.append_d, Ru.append_l, Ru.extend_e, Ru.extend_1, Ru.extend_l, Ru.pop_e, Ru.pop_1, Ru.setIx_e, Ru.setIx_d, Ru.setP_e, Ru.setP_d, Ru.setP_1, Ru.par_e, Ru.par_1, Ru.stup_e, Ru.stup_d, Ru.wK_t, Ru.wK_f, Ru.wK_nx, Ru.wK_rt, Ru.runB_f, Ru.runB_t, Ru.rb_f, Ru.rb_t, Ru.rb_n, Ru.lt_i, Ru.le_i, Ru.gt_i, Ru.ge_i, Ru.sub_i, Ru.add_i, Ru.add_s, Ru.add_t, Ru.add_l, Ru.mul_i, Ru.div_i, Ru.mod_i, Ru.neg_i, Ru.is_n, Ru.isNot_n, Ru.non_n, Ru.non_i, Ru.non_b, Ru.non_s, Ru.non_l, Ru.non_t, Ru.len_l, Ru.len_t, Ru.len_s, Ru.list_l, Ru.list_t, Ru.tuple_l, Ru.tuple_t, Ru.int_i, Ru.gsl_l, Ru.gsl_t, Ru.gsl_s, Ru.eq_s, Ru.eq_i, Ru.eq_b, Ru.ne_b, Ru.ne_s, Ru.ne_i, Ru.in_2, Ru.atI_0, Ru.atI_1, Ru.atI_2, Ru.ix_t, Ru.ix_l, Ru.cut_1, E.wipeS, Ru.bind_some, Option.bind_none, Ru.map_some, Option.map_none, List.getElem?_cons_zero, List.getElem?_cons_succ, List.set_cons_zero, List.set_cons_succ, List.length_cons, List.length_nil, List.map_cons, List.map_nil, List.replicate, List.cons_append, List.nil_append, -Ru.for_cons]
  rw [e1]
  simp only [Ru.bind_some, Ru.seq_nx]
  exact e2
end
theorem law_true (ns : List Int) : runS 16 (b_law m_law_pool m_law_world (m_condition_of 20) (m_law_condition 6) (m_law_same 30) (m_same_condition 20) m_law_pick m_law_atoms (m_law_holds 20) m_law_shuffled m_is_condition (m_atoms_where 20) (m_law_bent 60) m_is_world m_atoms_of m_law_draw (m_holds 20) (m_law_is_condition 45) m_law_is_integer) ns = some (.d (.bool true)) := by
  obtain ⟨xs, hp, e1⟩ := e_pool ns
  obtain ⟨d, t, p1, hp1, h1, h3, _, _, e2⟩ := e_world hp
  obtain ⟨p', e3⟩ := L2' (d := d) (t := t) (p := p1) (s0 := .s ns) (s3 := .un) (s4 := .un) (s5 := .un) (s6 := .un) (s7 := .un) (s8 := .un) (s9 := .un) (s10 := .un) (s11 := .un) (s12 := .un) (s13 := .un) (s14 := .un) (s15 := .un) h1 h3 hp1
  have e4 : S.setPool 1 (E.callS 0 m_law_pool) ⟨[.s ns, .un, .un, .un, .un, .un, .un, .un, .un, .un, .un, .un, .un, .un, .un, .un], none⟩ = some (.nx ⟨[.s ns, .pool, .un, .un, .un, .un, .un, .un, .un, .un, .un, .un, .un, .un, .un, .un], some xs⟩) := by
    simp [S.setPool, E.callS, e1]
  have e5 : b_law m_law_pool m_law_world (m_condition_of 20) (m_law_condition 6) (m_law_same 30) (m_same_condition 20) m_law_pick m_law_atoms (m_law_holds 20) m_law_shuffled m_is_condition (m_atoms_where 20) (m_law_bent 60) m_is_world m_atoms_of m_law_draw (m_holds 20) (m_law_is_condition 45) m_law_is_integer ⟨[.s ns, .un, .un, .un, .un, .un, .un, .un, .un, .un, .un, .un, .un, .un, .un, .un], none⟩ = some (.rt (.d (.bool true)) p') := by
    unfold b_law
    rw [Ru.seq_e, e4]
    simp [-Option.bind_some, -Option.map_some, Ru.c_e, Ru.v_e, Ru.v_d, Ru.rv_e, Ru.rv_d, Ru.rv_l, Ru.nil_e, Ru.cons_e, Ru.cons_d, Ru.cons_l, Ru.cons_2, Ru.tup_e, Ru.tup_d, Ru.lst_e, Ru.lst_d, Ru.rd_e, Ru.rd_d, Ru.rd_l, Ru.op_e, Ru.op_1, Ru.op_2, Ru.op_3, Ru.un_e, Ru.un_1, Ru.isi_e, Ru.ite_e, Ru.ite_t, Ru.ite_f, Ru.ofB_e, Ru.ofB_1, Ru.toB_e, Ru.toB_1, Ru.and_e, Ru.and_t, Ru.and_f, Ru.or_e, Ru.or_t, Ru.or_f, Ru.not_e, Ru.not_1, Ru.px_e, Ru.px_1, Ru.px_2, Ru.oN_e, Ru.oS_e, Ru.oS_1, Ru.sl_e, Ru.sl_1, Ru.sl_2, Ru.sl_3, Ru.sl3_e, Ru.tl_1, Ru.tl_2, Ru.tl_3, Ru.tl_4, Ru.call_e, Ru.call_1, Ru.call_2, Ru.callP_e, Ru.callP_1, Ru.callP_2, Ru.chain_e, Ru.ch_1, Ru.ch_2, Ru.ch_t, Ru.ch_f, Ru.iL_e, Ru.iL_d, Ru.iL_l, Ru.iT_e, Ru.iT_d, Ru.iR1_e, Ru.iR1_1, Ru.lR_e, Ru.lR_1, Ru.tN_e, Ru.tT_2, Ru.yes_e, Ru.lc_e, Ru.lc_1, Ru.lc_2, Ru.seq_e, Ru.seq_nx, Ru.seq_rt, Ru.nop_e, Ru.set_e, Ru.set_d, Ru.set_l, Ru.setL_e, Ru.setL_l, Ru.ret_e, Ru.ret_1, Ru.retV_e, Ru.retV_l, Ru.retV_d, Ru.frz_e, Ru.frz_l, Ru.sIte_e, Ru.sIte_t, Ru.sIte_f, Ru.for_e, Ru.for_1, Ru.for_nil, Ru.for_cons, Ru.fK_1, Ru.fK_nx, Ru.fK_rt, Ru.append_e, Ru.append_1, Ru.append_d, Ru.append_l, Ru.extend_e, Ru.extend_1, Ru.extend_l, Ru.pop_e, Ru.pop_1, Ru.setIx_e, Ru.setIx_d, Ru.setP_e, Ru.setP_d, Ru.setP_1, Ru.par_e, Ru.par_1, Ru.stup_e, Ru.stup_d, Ru.wK_t, Ru.wK_f, Ru.wK_nx, Ru.wK_rt, Ru.runB_f, Ru.runB_t, Ru.rb_f, Ru.rb_t, Ru.rb_n, Ru.lt_i, Ru.le_i, Ru.gt_i, Ru.ge_i, Ru.sub_i, Ru.add_i, Ru.add_s, Ru.add_t, Ru.add_l, Ru.mul_i, Ru.div_i, Ru.mod_i, Ru.neg_i, Ru.is_n, Ru.isNot_n, Ru.non_n, Ru.non_i, Ru.non_b, Ru.non_s, Ru.non_l, Ru.non_t, Ru.len_l, Ru.len_t, Ru.len_s, Ru.list_l, Ru.list_t, Ru.tuple_l, Ru.tuple_t, Ru.int_i, Ru.gsl_l, Ru.gsl_t, Ru.gsl_s, Ru.eq_s, Ru.eq_i, Ru.eq_b, Ru.ne_b, Ru.ne_s, Ru.ne_i, Ru.in_2, Ru.atI_0, Ru.atI_1, Ru.atI_2, Ru.ix_t, Ru.ix_l, Ru.cut_1, E.wipeS, Ru.bind_some, Option.bind_none, Ru.map_some, Option.map_none, List.getElem?_cons_zero, List.getElem?_cons_succ, List.set_cons_zero, List.set_cons_succ, List.length_cons, List.length_nil, List.map_cons, List.map_nil, List.replicate, List.cons_append, List.nil_append, e2]
    exact e3
  unfold runS
  show (b_law m_law_pool m_law_world (m_condition_of 20) (m_law_condition 6) (m_law_same 30) (m_same_condition 20) m_law_pick m_law_atoms (m_law_holds 20) m_law_shuffled m_is_condition (m_atoms_where 20) (m_law_bent 60) m_is_world m_atoms_of m_law_draw (m_holds 20) (m_law_is_condition 45) m_law_is_integer ⟨[.s ns, .un, .un, .un, .un, .un, .un, .un, .un, .un, .un, .un, .un, .un, .un, .un], none⟩).bind _ = _
  rw [e5]
  rfl
end K1

/-! deedsagain k01: the join (printed by gentop.py). -/
namespace K1
open PySem PySem.Spec L2 Dg
/-- every def stands where the text says -/
structure Ds (K : PySem.W.Frag) (mg : Str → Option Value) : Prop where
  d_is_whole : DefAt K mg "is_whole" (topS 2) ["value"]
  d_name_of : DefAt K mg "name_of" (topS 3) ["value"]
  d_is_world : DefAt K mg "is_world" (topS 4) ["value"]
  d_inner_conditions : DefAt K mg "inner_conditions" (topS 5) ["world", "part"]
  d_is_condition : DefAt K mg "is_condition" (topS 6) ["world", "value"]
  d_atoms_of : DefAt K mg "atoms_of" (topS 7) ["world"]
  d_holds : DefAt K mg "holds" (topS 8) ["condition", "atom"]
  d_atoms_where : DefAt K mg "atoms_where" (topS 9) ["world", "condition"]
  d_joined : DefAt K mg "joined" (topS 10) ["name", "items"]
  d_atom_condition : DefAt K mg "atom_condition" (topS 11) ["world", "atom"]
  d_condition_of : DefAt K mg "condition_of" (topS 12) ["world", "atoms"]
  d_same_condition : DefAt K mg "same_condition" (topS 13) ["world", "one", "two"]
  d_law_same : DefAt K mg "_law_same" (topS 15) ["actual", "due"]
  d_law_is_integer : DefAt K mg "_law_is_integer" (topS 16) ["actual"]
  d_law_pool : DefAt K mg "_law_pool" (topS 17) ["script"]
  d_law_spread : DefAt K mg "_law_spread" (topS 18) ["cell"]
  d_law_draw : DefAt K mg "_law_draw" (topS 19) ["pool", "many"]
  d_law_pick : DefAt K mg "_law_pick" (topS 20) ["pool", "items"]
  d_law_bent : DefAt K mg "_law_bent" (topS 21) ["pool", "value"]
  d_law_shuffled : DefAt K mg "_law_shuffled" (topS 22) ["pool", "items"]
  d_law_world : DefAt K mg "_law_world" (topS 23) ["pool", "most"]
  d_law_atoms : DefAt K mg "_law_atoms" (topS 24) ["world"]
  d_law_condition : DefAt K mg "_law_condition" (topS 25) ["pool", "world", "deep"]
  d_law_holds : DefAt K mg "_law_holds" (topS 26) ["b", "atom"]
  d_law_is_condition : DefAt K mg "_law_is_condition" (topS 27) ["world", "value", "deep"]
section
variable {P : Program} {w : World} {K : PySem.W.Frag} {mg : Str → Option Value} {base : Heap}
theorem k_is_whole (bi : Bi mg) (cs : Cs mg) (ds : Ds K mg) : Cal P w K mg base 1 "is_whole" false 1 m_is_whole :=
  c_is_whole (k := 0) bi cs ds.d_is_whole 
theorem k_name_of (bi : Bi mg) (cs : Cs mg) (ds : Ds K mg) : Cal P w K mg base 1 "name_of" false 1 m_name_of :=
  c_name_of (k := 0) bi cs ds.d_name_of 
theorem k_is_world (bi : Bi mg) (cs : Cs mg) (ds : Ds K mg) : Cal P w K mg base 2 "is_world" false 1 m_is_world :=
  c_is_world (k := 1) bi cs ds.d_is_world ((k_is_whole bi cs ds).mono (by decide))
theorem k_inner_conditions (bi : Bi mg) (cs : Cs mg) (ds : Ds K mg) : Cal P w K mg base 2 "inner_conditions" false 2 m_inner_conditions :=
  c_inner_conditions (k := 1) bi cs ds.d_inner_conditions ((k_name_of bi cs ds).mono (by decide)) ((k_is_whole bi cs ds).mono (by decide))
theorem k_is_condition (bi : Bi mg) (cs : Cs mg) (ds : Ds K mg) : Cal P w K mg base 3 "is_condition" false 2 m_is_condition :=
  c_is_condition (k := 2) bi cs ds.d_is_condition ((k_inner_conditions bi cs ds).mono (by decide))
theorem k_atoms_of (bi : Bi mg) (cs : Cs mg) (ds : Ds K mg) : Cal P w K mg base 1 "atoms_of" false 1 m_atoms_of :=
  c_atoms_of (k := 0) bi cs ds.d_atoms_of 
theorem k_holds (bi : Bi mg) (cs : Cs mg) (ds : Ds K mg) : ∀ n : Nat, Cal P w K mg base (0 + n) "holds" false 2 (m_holds n)
  | 0 => by
    obtain ⟨f, fd, F, hm, hb⟩ := ds.d_holds
    exact (Cal.zero F hm hb).mono (Nat.zero_le _)
  | n + 1 => c_holds (k := 0 + n) bi cs ds.d_holds (k_holds bi cs ds n)
theorem k_atoms_where (bi : Bi mg) (cs : Cs mg) (ds : Ds K mg) : Cal P w K mg base 21 "atoms_where" false 2 (m_atoms_where 20) :=
  c_atoms_where (k := 20) bi cs ds.d_atoms_where ((k_atoms_of bi cs ds).mono (by decide)) ((k_holds bi cs ds 20).mono (by decide))
theorem k_joined (bi : Bi mg) (cs : Cs mg) (ds : Ds K mg) : Cal P w K mg base 1 "joined" false 2 m_joined :=
  c_joined (k := 0) bi cs ds.d_joined 
theorem k_atom_condition (bi : Bi mg) (cs : Cs mg) (ds : Ds K mg) : Cal P w K mg base 21 "atom_condition" false 2 (m_atom_condition 20) :=
  c_atom_condition (k := 20) bi cs ds.d_atom_condition ((k_joined bi cs ds).mono (by decide)) ((k_holds bi cs ds 20).mono (by decide))
theorem k_condition_of (bi : Bi mg) (cs : Cs mg) (ds : Ds K mg) : Cal P w K mg base 22 "condition_of" false 2 (m_condition_of 20) :=
  c_condition_of (k := 21) bi cs ds.d_condition_of ((k_joined bi cs ds).mono (by decide)) ((k_atoms_of bi cs ds).mono (by decide)) ((k_atom_condition bi cs ds).mono (by decide))
theorem k_same_condition (bi : Bi mg) (cs : Cs mg) (ds : Ds K mg) : Cal P w K mg base 22 "same_condition" false 3 (m_same_condition 20) :=
  c_same_condition (k := 21) bi cs ds.d_same_condition ((k_atoms_where bi cs ds).mono (by decide))
theorem k_law_same (bi : Bi mg) (cs : Cs mg) (ds : Ds K mg) : ∀ n : Nat, Cal P w K mg base (0 + n) "_law_same" false 2 (m_law_same n)
  | 0 => by
    obtain ⟨f, fd, F, hm, hb⟩ := ds.d_law_same
    exact (Cal.zero F hm hb).mono (Nat.zero_le _)
  | n + 1 => c_law_same (k := 0 + n) bi cs ds.d_law_same (k_law_same bi cs ds n)
theorem k_law_is_integer (bi : Bi mg) (cs : Cs mg) (ds : Ds K mg) : Cal P w K mg base 1 "_law_is_integer" false 1 m_law_is_integer :=
  c_law_is_integer (k := 0) bi cs ds.d_law_is_integer 
theorem k_law_pool (bi : Bi mg) (cs : Cs mg) (ds : Ds K mg) : CalS P w K mg base 1 "_law_pool" m_law_pool :=
  c_law_pool (k := 0) bi cs ds.d_law_pool 
theorem k_law_spread (bi : Bi mg) (cs : Cs mg) (ds : Ds K mg) : Cal P w K mg base 1 "_law_spread" false 1 m_law_spread :=
  c_law_spread (k := 0) bi cs ds.d_law_spread 
theorem k_law_draw (bi : Bi mg) (cs : Cs mg) (ds : Ds K mg) : Cal P w K mg base 2 "_law_draw" true 2 m_law_draw :=
  c_law_draw (k := 1) bi cs ds.d_law_draw ((k_law_spread bi cs ds).mono (by decide))
theorem k_law_pick (bi : Bi mg) (cs : Cs mg) (ds : Ds K mg) : Cal P w K mg base 3 "_law_pick" true 2 m_law_pick :=
  c_law_pick (k := 2) bi cs ds.d_law_pick ((k_law_draw bi cs ds).mono (by decide))
theorem k_law_bent (bi : Bi mg) (cs : Cs mg) (ds : Ds K mg) : ∀ n : Nat, Cal P w K mg base (2 + n) "_law_bent" true 2 (m_law_bent n)
  | 0 => by
    obtain ⟨f, fd, F, hm, hb⟩ := ds.d_law_bent
    exact (Cal.zero F hm hb).mono (Nat.zero_le _)
  | n + 1 => c_law_bent (k := 2 + n) bi cs ds.d_law_bent ((k_law_draw bi cs ds).mono (by omega)) ((k_law_is_integer bi cs ds).mono (by omega)) (k_law_bent bi cs ds n)
theorem k_law_shuffled (bi : Bi mg) (cs : Cs mg) (ds : Ds K mg) : Cal P w K mg base 3 "_law_shuffled" true 2 m_law_shuffled :=
  c_law_shuffled (k := 2) bi cs ds.d_law_shuffled ((k_law_draw bi cs ds).mono (by decide))
theorem k_law_world (bi : Bi mg) (cs : Cs mg) (ds : Ds K mg) : Cal P w K mg base 4 "_law_world" true 2 m_law_world :=
  c_law_world (k := 3) bi cs ds.d_law_world ((k_law_pick bi cs ds).mono (by decide))
theorem k_law_atoms (bi : Bi mg) (cs : Cs mg) (ds : Ds K mg) : Cal P w K mg base 1 "_law_atoms" false 1 m_law_atoms :=
  c_law_atoms (k := 0) bi cs ds.d_law_atoms 
theorem k_law_condition (bi : Bi mg) (cs : Cs mg) (ds : Ds K mg) : ∀ n : Nat, Cal P w K mg base (2 + n) "_law_condition" true 3 (m_law_condition n)
  | 0 => by
    obtain ⟨f, fd, F, hm, hb⟩ := ds.d_law_condition
    exact (Cal.zero F hm hb).mono (Nat.zero_le _)
  | n + 1 => c_law_condition (k := 2 + n) bi cs ds.d_law_condition ((k_law_draw bi cs ds).mono (by omega)) (k_law_condition bi cs ds n)
theorem k_law_holds (bi : Bi mg) (cs : Cs mg) (ds : Ds K mg) : ∀ n : Nat, Cal P w K mg base (0 + n) "_law_holds" false 2 (m_law_holds n)
  | 0 => by
    obtain ⟨f, fd, F, hm, hb⟩ := ds.d_law_holds
    exact (Cal.zero F hm hb).mono (Nat.zero_le _)
  | n + 1 => c_law_holds (k := 0 + n) bi cs ds.d_law_holds (k_law_holds bi cs ds n)
theorem k_law_is_condition (bi : Bi mg) (cs : Cs mg) (ds : Ds K mg) : ∀ n : Nat, Cal P w K mg base (1 + n) "_law_is_condition" false 3 (m_law_is_condition n)
  | 0 => by
    obtain ⟨f, fd, F, hm, hb⟩ := ds.d_law_is_condition
    exact (Cal.zero F hm hb).mono (Nat.zero_le _)
  | n + 1 => c_law_is_condition (k := 1 + n) bi cs ds.d_law_is_condition (k_law_is_condition bi cs ds n) ((k_law_is_integer bi cs ds).mono (by omega))
theorem k_law (bi : Bi mg) (cs : Cs mg) (ds : Ds K mg) {f : Addr} {qual : Str} {cdv : Value} {s : Shared} {H : Hp} {E : XK} (hr : Room 62 (PySem.callerA.deeper (PyProof.Rows.envOfC qual (defScope (topS 28)) s.heap.objs.size f cdv))) :
    DSs0 (cxOf CX0 P w K mg base ["script", "pool", "world", "value", "good", "b", "c", "rows", "some", "made", "deep", "k", "tried", "shown", "x", "a"] qual (defScope (topS 28)) f cdv PySem.callerA [] s H E).nox (defBody (topS 28)) (b_law m_law_pool m_law_world (m_condition_of 20) (m_law_condition 6) (m_law_same 30) (m_same_condition 20) m_law_pick m_law_atoms (m_law_holds 20) m_law_shuffled m_is_condition (m_atoms_where 20) (m_law_bent 60) m_is_world m_atoms_of m_law_draw (m_holds 20) (m_law_is_condition 45) m_law_is_integer) :=
  ds_law (k := 62) bi cs ((k_law_pool bi cs ds).mono (by decide)) ((k_law_world bi cs ds).mono (by decide)) ((k_condition_of bi cs ds).mono (by decide)) ((k_law_condition bi cs ds 6).mono (by decide)) ((k_law_same bi cs ds 30).mono (by decide)) ((k_same_condition bi cs ds).mono (by decide)) ((k_law_pick bi cs ds).mono (by decide)) ((k_law_atoms bi cs ds).mono (by decide)) ((k_law_holds bi cs ds 20).mono (by decide)) ((k_law_shuffled bi cs ds).mono (by decide)) ((k_is_condition bi cs ds).mono (by decide)) ((k_atoms_where bi cs ds).mono (by decide)) ((k_law_bent bi cs ds 60).mono (by decide)) ((k_is_world bi cs ds).mono (by decide)) ((k_atoms_of bi cs ds).mono (by decide)) ((k_law_draw bi cs ds).mono (by decide)) ((k_holds bi cs ds 20).mono (by decide)) ((k_law_is_condition bi cs ds 45).mono (by decide)) ((k_law_is_integer bi cs ds).mono (by decide)) hr
end
/-- the top's facts give the defs -/
theorem all_mk {l : PySem.W.OpenLaw} {w : World} {K : PySem.W.Frag} {h : Heap} {mg : Str → Option Value} {fa : Addr} (X : K.In h) (G : h.Ns mainGlobals mg) (hfa : mg "law" = some (.ref fa))
    {f1 f2 f3 f4 f5 f6 f7 f8 f9 f10 f11 f12 f13 f14 f15 f16 f17 f18 f19 f20 f21 f22 f23 f24 f25 f26 : Addr}
    {od1 an1 od2 an2 od3 an3 od4 an4 od5 an5 od6 an6 od7 an7 od8 an8 od9 an9 od10 an10 od11 an11 od12 an12 od13 an13 od14 an14 od15 an15 od16 an16 od17 an17 od18 an18 od19 an19 od20 an20 od21 an21 od22 an22 od23 an23 od24 an24 od25 an25 od26 an26 : Option Addr}
    {sl1 sl2 sl3 sl4 sl5 sl6 sl7 sl8 sl9 sl10 sl11 sl12 sl13 sl14 sl15 sl16 sl17 sl18 sl19 sl20 sl21 sl22 sl23 sl24 sl25 sl26 : Array (Option Value)}
    {oc1 kV1 dc1 pm1 cd1 ct1 oc2 kV2 dc2 pm2 cd2 ct2 oc3 kV3 dc3 pm3 cd3 ct3 oc4 kV4 dc4 pm4 cd4 ct4 oc5 kV5 dc5 pm5 cd5 ct5 oc6 kV6 dc6 pm6 cd6 ct6 oc7 kV7 dc7 pm7 cd7 ct7 oc8 kV8 dc8 pm8 cd8 ct8 oc9 kV9 dc9 pm9 cd9 ct9 oc10 kV10 dc10 pm10 cd10 ct10 oc11 kV11 dc11 pm11 cd11 ct11 oc12 kV12 dc12 pm12 cd12 ct12 oc13 kV13 dc13 pm13 cd13 ct13 oc14 kV14 dc14 pm14 cd14 ct14 oc15 kV15 dc15 pm15 cd15 ct15 oc16 kV16 dc16 pm16 cd16 ct16 oc17 kV17 dc17 pm17 cd17 ct17 oc18 kV18 dc18 pm18 cd18 ct18 oc19 kV19 dc19 pm19 cd19 ct19 oc20 kV20 dc20 pm20 cd20 ct20 oc21 kV21 dc21 pm21 cd21 ct21 oc22 kV22 dc22 pm22 cd22 ct22 oc23 kV23 dc23 pm23 cd23 ct23 oc24 kV24 dc24 pm24 cd24 ct24 oc25 kV25 dc25 pm25 cd25 ct25 oc26 kV26 dc26 pm26 cd26 ct26 : Value}
    {t0 : Tok}
    (a1 : PySem.W.nsIn K mainGlobals "is_whole" = some (some (.ref f1))) (l1 : K.lookup f1 = some ⟨oc1, od1, .func (PySem.W.fnOf "is_whole" "is_whole" (defArgs (topS 2)) (defBody (topS 2)) (defScope (topS 2)) .none kV1 dc1 pm1 an1 cd1 ct1), sl1⟩) (c1 : PySem.W.codeIn K cd1 "is_whole" = true) (k1 : PySem.W.keepIn K (.ref f1) = true)
    (a2 : PySem.W.nsIn K mainGlobals "name_of" = some (some (.ref f2))) (l2 : K.lookup f2 = some ⟨oc2, od2, .func (PySem.W.fnOf "name_of" "name_of" (defArgs (topS 3)) (defBody (topS 3)) (defScope (topS 3)) .none kV2 dc2 pm2 an2 cd2 ct2), sl2⟩) (c2 : PySem.W.codeIn K cd2 "name_of" = true) (k2 : PySem.W.keepIn K (.ref f2) = true)
    (a3 : PySem.W.nsIn K mainGlobals "is_world" = some (some (.ref f3))) (l3 : K.lookup f3 = some ⟨oc3, od3, .func (PySem.W.fnOf "is_world" "is_world" (defArgs (topS 4)) (defBody (topS 4)) (defScope (topS 4)) .none kV3 dc3 pm3 an3 cd3 ct3), sl3⟩) (c3 : PySem.W.codeIn K cd3 "is_world" = true) (k3 : PySem.W.keepIn K (.ref f3) = true)
    (a4 : PySem.W.nsIn K mainGlobals "inner_conditions" = some (some (.ref f4))) (l4 : K.lookup f4 = some ⟨oc4, od4, .func (PySem.W.fnOf "inner_conditions" "inner_conditions" (defArgs (topS 5)) (defBody (topS 5)) (defScope (topS 5)) .none kV4 dc4 pm4 an4 cd4 ct4), sl4⟩) (c4 : PySem.W.codeIn K cd4 "inner_conditions" = true) (k4 : PySem.W.keepIn K (.ref f4) = true)
    (a5 : PySem.W.nsIn K mainGlobals "is_condition" = some (some (.ref f5))) (l5 : K.lookup f5 = some ⟨oc5, od5, .func (PySem.W.fnOf "is_condition" "is_condition" (defArgs (topS 6)) (defBody (topS 6)) (defScope (topS 6)) .none kV5 dc5 pm5 an5 cd5 ct5), sl5⟩) (c5 : PySem.W.codeIn K cd5 "is_condition" = true) (k5 : PySem.W.keepIn K (.ref f5) = true)
    (a6 : PySem.W.nsIn K mainGlobals "atoms_of" = some (some (.ref f6))) (l6 : K.lookup f6 = some ⟨oc6, od6, .func (PySem.W.fnOf "atoms_of" "atoms_of" (defArgs (topS 7)) (defBody (topS 7)) (defScope (topS 7)) .none kV6 dc6 pm6 an6 cd6 ct6), sl6⟩) (c6 : PySem.W.codeIn K cd6 "atoms_of" = true) (k6 : PySem.W.keepIn K (.ref f6) = true)
    (a7 : PySem.W.nsIn K mainGlobals "holds" = some (some (.ref f7))) (l7 : K.lookup f7 = some ⟨oc7, od7, .func (PySem.W.fnOf "holds" "holds" (defArgs (topS 8)) (defBody (topS 8)) (defScope (topS 8)) .none kV7 dc7 pm7 an7 cd7 ct7), sl7⟩) (c7 : PySem.W.codeIn K cd7 "holds" = true) (k7 : PySem.W.keepIn K (.ref f7) = true)
    (a8 : PySem.W.nsIn K mainGlobals "atoms_where" = some (some (.ref f8))) (l8 : K.lookup f8 = some ⟨oc8, od8, .func (PySem.W.fnOf "atoms_where" "atoms_where" (defArgs (topS 9)) (defBody (topS 9)) (defScope (topS 9)) .none kV8 dc8 pm8 an8 cd8 ct8), sl8⟩) (c8 : PySem.W.codeIn K cd8 "atoms_where" = true) (k8 : PySem.W.keepIn K (.ref f8) = true)
    (a9 : PySem.W.nsIn K mainGlobals "joined" = some (some (.ref f9))) (l9 : K.lookup f9 = some ⟨oc9, od9, .func (PySem.W.fnOf "joined" "joined" (defArgs (topS 10)) (defBody (topS 10)) (defScope (topS 10)) .none kV9 dc9 pm9 an9 cd9 ct9), sl9⟩) (c9 : PySem.W.codeIn K cd9 "joined" = true) (k9 : PySem.W.keepIn K (.ref f9) = true)
    (a10 : PySem.W.nsIn K mainGlobals "atom_condition" = some (some (.ref f10))) (l10 : K.lookup f10 = some ⟨oc10, od10, .func (PySem.W.fnOf "atom_condition" "atom_condition" (defArgs (topS 11)) (defBody (topS 11)) (defScope (topS 11)) .none kV10 dc10 pm10 an10 cd10 ct10), sl10⟩) (c10 : PySem.W.codeIn K cd10 "atom_condition" = true) (k10 : PySem.W.keepIn K (.ref f10) = true)
    (a11 : PySem.W.nsIn K mainGlobals "condition_of" = some (some (.ref f11))) (l11 : K.lookup f11 = some ⟨oc11, od11, .func (PySem.W.fnOf "condition_of" "condition_of" (defArgs (topS 12)) (defBody (topS 12)) (defScope (topS 12)) .none kV11 dc11 pm11 an11 cd11 ct11), sl11⟩) (c11 : PySem.W.codeIn K cd11 "condition_of" = true) (k11 : PySem.W.keepIn K (.ref f11) = true)
    (a12 : PySem.W.nsIn K mainGlobals "same_condition" = some (some (.ref f12))) (l12 : K.lookup f12 = some ⟨oc12, od12, .func (PySem.W.fnOf "same_condition" "same_condition" (defArgs (topS 13)) (defBody (topS 13)) (defScope (topS 13)) .none kV12 dc12 pm12 an12 cd12 ct12), sl12⟩) (c12 : PySem.W.codeIn K cd12 "same_condition" = true) (k12 : PySem.W.keepIn K (.ref f12) = true)
    (a13 : PySem.W.nsIn K mainGlobals "_law_same" = some (some (.ref f13))) (l13 : K.lookup f13 = some ⟨oc13, od13, .func (PySem.W.fnOf "_law_same" "_law_same" (defArgs (topS 15)) (defBody (topS 15)) (defScope (topS 15)) .none kV13 dc13 pm13 an13 cd13 ct13), sl13⟩) (c13 : PySem.W.codeIn K cd13 "_law_same" = true) (k13 : PySem.W.keepIn K (.ref f13) = true)
    (a14 : PySem.W.nsIn K mainGlobals "_law_is_integer" = some (some (.ref f14))) (l14 : K.lookup f14 = some ⟨oc14, od14, .func (PySem.W.fnOf "_law_is_integer" "_law_is_integer" (defArgs (topS 16)) (defBody (topS 16)) (defScope (topS 16)) .none kV14 dc14 pm14 an14 cd14 ct14), sl14⟩) (c14 : PySem.W.codeIn K cd14 "_law_is_integer" = true) (k14 : PySem.W.keepIn K (.ref f14) = true)
    (a15 : PySem.W.nsIn K mainGlobals "_law_pool" = some (some (.ref f15))) (l15 : K.lookup f15 = some ⟨oc15, od15, .func (PySem.W.fnOf "_law_pool" "_law_pool" (defArgs (topS 17)) (defBody (topS 17)) (defScope (topS 17)) .none kV15 dc15 pm15 an15 cd15 ct15), sl15⟩) (c15 : PySem.W.codeIn K cd15 "_law_pool" = true) (k15 : PySem.W.keepIn K (.ref f15) = true)
    (a16 : PySem.W.nsIn K mainGlobals "_law_spread" = some (some (.ref f16))) (l16 : K.lookup f16 = some ⟨oc16, od16, .func (PySem.W.fnOf "_law_spread" "_law_spread" (defArgs (topS 18)) (defBody (topS 18)) (defScope (topS 18)) .none kV16 dc16 pm16 an16 cd16 ct16), sl16⟩) (c16 : PySem.W.codeIn K cd16 "_law_spread" = true) (k16 : PySem.W.keepIn K (.ref f16) = true)
    (a17 : PySem.W.nsIn K mainGlobals "_law_draw" = some (some (.ref f17))) (l17 : K.lookup f17 = some ⟨oc17, od17, .func (PySem.W.fnOf "_law_draw" "_law_draw" (defArgs (topS 19)) (defBody (topS 19)) (defScope (topS 19)) .none kV17 dc17 pm17 an17 cd17 ct17), sl17⟩) (c17 : PySem.W.codeIn K cd17 "_law_draw" = true) (k17 : PySem.W.keepIn K (.ref f17) = true)
    (a18 : PySem.W.nsIn K mainGlobals "_law_pick" = some (some (.ref f18))) (l18 : K.lookup f18 = some ⟨oc18, od18, .func (PySem.W.fnOf "_law_pick" "_law_pick" (defArgs (topS 20)) (defBody (topS 20)) (defScope (topS 20)) .none kV18 dc18 pm18 an18 cd18 ct18), sl18⟩) (c18 : PySem.W.codeIn K cd18 "_law_pick" = true) (k18 : PySem.W.keepIn K (.ref f18) = true)
    (a19 : PySem.W.nsIn K mainGlobals "_law_bent" = some (some (.ref f19))) (l19 : K.lookup f19 = some ⟨oc19, od19, .func (PySem.W.fnOf "_law_bent" "_law_bent" (defArgs (topS 21)) (defBody (topS 21)) (defScope (topS 21)) .none kV19 dc19 pm19 an19 cd19 ct19), sl19⟩) (c19 : PySem.W.codeIn K cd19 "_law_bent" = true) (k19 : PySem.W.keepIn K (.ref f19) = true)
    (a20 : PySem.W.nsIn K mainGlobals "_law_shuffled" = some (some (.ref f20))) (l20 : K.lookup f20 = some ⟨oc20, od20, .func (PySem.W.fnOf "_law_shuffled" "_law_shuffled" (defArgs (topS 22)) (defBody (topS 22)) (defScope (topS 22)) .none kV20 dc20 pm20 an20 cd20 ct20), sl20⟩) (c20 : PySem.W.codeIn K cd20 "_law_shuffled" = true) (k20 : PySem.W.keepIn K (.ref f20) = true)
    (a21 : PySem.W.nsIn K mainGlobals "_law_world" = some (some (.ref f21))) (l21 : K.lookup f21 = some ⟨oc21, od21, .func (PySem.W.fnOf "_law_world" "_law_world" (defArgs (topS 23)) (defBody (topS 23)) (defScope (topS 23)) .none kV21 dc21 pm21 an21 cd21 ct21), sl21⟩) (c21 : PySem.W.codeIn K cd21 "_law_world" = true) (k21 : PySem.W.keepIn K (.ref f21) = true)
    (a22 : PySem.W.nsIn K mainGlobals "_law_atoms" = some (some (.ref f22))) (l22 : K.lookup f22 = some ⟨oc22, od22, .func (PySem.W.fnOf "_law_atoms" "_law_atoms" (defArgs (topS 24)) (defBody (topS 24)) (defScope (topS 24)) .none kV22 dc22 pm22 an22 cd22 ct22), sl22⟩) (c22 : PySem.W.codeIn K cd22 "_law_atoms" = true) (k22 : PySem.W.keepIn K (.ref f22) = true)
    (a23 : PySem.W.nsIn K mainGlobals "_law_condition" = some (some (.ref f23))) (l23 : K.lookup f23 = some ⟨oc23, od23, .func (PySem.W.fnOf "_law_condition" "_law_condition" (defArgs (topS 25)) (defBody (topS 25)) (defScope (topS 25)) .none kV23 dc23 pm23 an23 cd23 ct23), sl23⟩) (c23 : PySem.W.codeIn K cd23 "_law_condition" = true) (k23 : PySem.W.keepIn K (.ref f23) = true)
    (a24 : PySem.W.nsIn K mainGlobals "_law_holds" = some (some (.ref f24))) (l24 : K.lookup f24 = some ⟨oc24, od24, .func (PySem.W.fnOf "_law_holds" "_law_holds" (defArgs (topS 26)) (defBody (topS 26)) (defScope (topS 26)) .none kV24 dc24 pm24 an24 cd24 ct24), sl24⟩) (c24 : PySem.W.codeIn K cd24 "_law_holds" = true) (k24 : PySem.W.keepIn K (.ref f24) = true)
    (a25 : PySem.W.nsIn K mainGlobals "_law_is_condition" = some (some (.ref f25))) (l25 : K.lookup f25 = some ⟨oc25, od25, .func (PySem.W.fnOf "_law_is_condition" "_law_is_condition" (defArgs (topS 27)) (defBody (topS 27)) (defScope (topS 27)) .none kV25 dc25 pm25 an25 cd25 ct25), sl25⟩) (c25 : PySem.W.codeIn K cd25 "_law_is_condition" = true) (k25 : PySem.W.keepIn K (.ref f25) = true)
    (a26 : PySem.W.nsIn K mainGlobals "law" = some (some (.ref f26))) (l26 : K.lookup f26 = some ⟨oc26, od26, .func (PySem.W.fnOf "law" "law" (defArgs (topS 28)) (defBody (topS 28)) (defScope (topS 28)) .none kV26 dc26 pm26 an26 cd26 ct26), sl26⟩) (c26 : PySem.W.codeIn K cd26 "law" = true) (k26 : PySem.W.keepIn K (.ref f26) = true)
    (v0 : PySem.W.nsIn K mainGlobals "MOST_DEPTH" = some (some (.int 40 t0)))
    (z0 : PySem.W.nsIn K mainGlobals "list" = some none)
    (z1 : PySem.W.nsIn K mainGlobals "range" = some none)
    (z2 : PySem.W.nsIn K mainGlobals "sorted" = some none)
    (z3 : PySem.W.nsIn K mainGlobals "isinstance" = some none)
    (z4 : PySem.W.nsIn K mainGlobals "int" = some none)
    (z5 : PySem.W.nsIn K mainGlobals "str" = some none)
    (z6 : PySem.W.nsIn K mainGlobals "tuple" = some none)
    (z7 : PySem.W.nsIn K mainGlobals "all" = some none)
    (z8 : PySem.W.nsIn K mainGlobals "len" = some none)
    (z9 : PySem.W.nsIn K mainGlobals "set" = some none)
    (z10 : PySem.W.nsIn K mainGlobals "bool" = some none)
    (z11 : PySem.W.nsIn K mainGlobals "repr" = some none)
    : ∃ fd : FuncData, Fun K "law" "law" (topS 28) fa fd ∧ (∀ (s : Shared) (u : Value), BindsTo s fd ⟨[u], []⟩ [("script", u)]) ∧ ∀ base : Heap, K.In base → base.Ns mainGlobals mg → ∀ (cdv : Value) (s : Shared) (H : Hp) (E : XK),
      Room 62 (PySem.callerA.deeper (PyProof.Rows.envOfC "law" (defScope (topS 28)) s.heap.objs.size fa cdv)) →
      DSs0 (cxOf CX0 l.prog w K mg base ["script", "pool", "world", "value", "good", "b", "c", "rows", "some", "made", "deep", "k", "tried", "shown", "x", "a"] "law" (defScope (topS 28)) fa cdv PySem.callerA [] s H E).nox (defBody (topS 28)) (b_law m_law_pool m_law_world (m_condition_of 20) (m_law_condition 6) (m_law_same 30) (m_same_condition 20) m_law_pick m_law_atoms (m_law_holds 20) m_law_shuffled m_is_condition (m_atoms_where 20) (m_law_bent 60) m_is_world m_atoms_of m_law_draw (m_holds 20) (m_law_is_condition 45) m_law_is_integer) := by
  have e := hfa.symm.trans (PySem.W.mg_of X G a26)
  cases e
  have bi : Bi mg := ⟨PySem.W.mg_none_of X G z0, PySem.W.mg_none_of X G z1, PySem.W.mg_none_of X G z2, PySem.W.mg_none_of X G z3, PySem.W.mg_none_of X G z4, PySem.W.mg_none_of X G z5, PySem.W.mg_none_of X G z6, PySem.W.mg_none_of X G z7, PySem.W.mg_none_of X G z8, PySem.W.mg_none_of X G z9, PySem.W.mg_none_of X G z10, PySem.W.mg_none_of X G z11⟩
  have cs : Cs mg := ⟨⟨t0, PySem.W.mg_of X G v0⟩⟩
  have F1 := fun_mk (st := topS 2) l1 c1 k1
  have b1 := F1.binds (ps := ["value"]) fun _ _ _ _ _ _ us hl => match us, hl with | [_], _ => rfl
  have F2 := fun_mk (st := topS 3) l2 c2 k2
  have b2 := F2.binds (ps := ["value"]) fun _ _ _ _ _ _ us hl => match us, hl with | [_], _ => rfl
  have F3 := fun_mk (st := topS 4) l3 c3 k3
  have b3 := F3.binds (ps := ["value"]) fun _ _ _ _ _ _ us hl => match us, hl with | [_], _ => rfl
  have F4 := fun_mk (st := topS 5) l4 c4 k4
  have b4 := F4.binds (ps := ["world", "part"]) fun _ _ _ _ _ _ us hl => match us, hl with | [_, _], _ => rfl
  have F5 := fun_mk (st := topS 6) l5 c5 k5
  have b5 := F5.binds (ps := ["world", "value"]) fun _ _ _ _ _ _ us hl => match us, hl with | [_, _], _ => rfl
  have F6 := fun_mk (st := topS 7) l6 c6 k6
  have b6 := F6.binds (ps := ["world"]) fun _ _ _ _ _ _ us hl => match us, hl with | [_], _ => rfl
  have F7 := fun_mk (st := topS 8) l7 c7 k7
  have b7 := F7.binds (ps := ["condition", "atom"]) fun _ _ _ _ _ _ us hl => match us, hl with | [_, _], _ => rfl
  have F8 := fun_mk (st := topS 9) l8 c8 k8
  have b8 := F8.binds (ps := ["world", "condition"]) fun _ _ _ _ _ _ us hl => match us, hl with | [_, _], _ => rfl
  have F9 := fun_mk (st := topS 10) l9 c9 k9
  have b9 := F9.binds (ps := ["name", "items"]) fun _ _ _ _ _ _ us hl => match us, hl with | [_, _], _ => rfl
  have F10 := fun_mk (st := topS 11) l10 c10 k10
  have b10 := F10.binds (ps := ["world", "atom"]) fun _ _ _ _ _ _ us hl => match us, hl with | [_, _], _ => rfl
  have F11 := fun_mk (st := topS 12) l11 c11 k11
  have b11 := F11.binds (ps := ["world", "atoms"]) fun _ _ _ _ _ _ us hl => match us, hl with | [_, _], _ => rfl
  have F12 := fun_mk (st := topS 13) l12 c12 k12
  have b12 := F12.binds (ps := ["world", "one", "two"]) fun _ _ _ _ _ _ us hl => match us, hl with | [_, _, _], _ => rfl
  have F13 := fun_mk (st := topS 15) l13 c13 k13
  have b13 := F13.binds (ps := ["actual", "due"]) fun _ _ _ _ _ _ us hl => match us, hl with | [_, _], _ => rfl
  have F14 := fun_mk (st := topS 16) l14 c14 k14
  have b14 := F14.binds (ps := ["actual"]) fun _ _ _ _ _ _ us hl => match us, hl with | [_], _ => rfl
  have F15 := fun_mk (st := topS 17) l15 c15 k15
  have b15 := F15.binds (ps := ["script"]) fun _ _ _ _ _ _ us hl => match us, hl with | [_], _ => rfl
  have F16 := fun_mk (st := topS 18) l16 c16 k16
  have b16 := F16.binds (ps := ["cell"]) fun _ _ _ _ _ _ us hl => match us, hl with | [_], _ => rfl
  have F17 := fun_mk (st := topS 19) l17 c17 k17
  have b17 := F17.binds (ps := ["pool", "many"]) fun _ _ _ _ _ _ us hl => match us, hl with | [_, _], _ => rfl
  have F18 := fun_mk (st := topS 20) l18 c18 k18
  have b18 := F18.binds (ps := ["pool", "items"]) fun _ _ _ _ _ _ us hl => match us, hl with | [_, _], _ => rfl
  have F19 := fun_mk (st := topS 21) l19 c19 k19
  have b19 := F19.binds (ps := ["pool", "value"]) fun _ _ _ _ _ _ us hl => match us, hl with | [_, _], _ => rfl
  have F20 := fun_mk (st := topS 22) l20 c20 k20
  have b20 := F20.binds (ps := ["pool", "items"]) fun _ _ _ _ _ _ us hl => match us, hl with | [_, _], _ => rfl
  have F21 := fun_mk (st := topS 23) l21 c21 k21
  have b21 := F21.binds (ps := ["pool", "most"]) fun _ _ _ _ _ _ us hl => match us, hl with | [_, _], _ => rfl
  have F22 := fun_mk (st := topS 24) l22 c22 k22
  have b22 := F22.binds (ps := ["world"]) fun _ _ _ _ _ _ us hl => match us, hl with | [_], _ => rfl
  have F23 := fun_mk (st := topS 25) l23 c23 k23
  have b23 := F23.binds (ps := ["pool", "world", "deep"]) fun _ _ _ _ _ _ us hl => match us, hl with | [_, _, _], _ => rfl
  have F24 := fun_mk (st := topS 26) l24 c24 k24
  have b24 := F24.binds (ps := ["b", "atom"]) fun _ _ _ _ _ _ us hl => match us, hl with | [_, _], _ => rfl
  have F25 := fun_mk (st := topS 27) l25 c25 k25
  have b25 := F25.binds (ps := ["world", "value", "deep"]) fun _ _ _ _ _ _ us hl => match us, hl with | [_, _, _], _ => rfl
  have ds : Ds K mg := ⟨⟨_, _, F1, PySem.W.mg_of X G a1, b1⟩, ⟨_, _, F2, PySem.W.mg_of X G a2, b2⟩, ⟨_, _, F3, PySem.W.mg_of X G a3, b3⟩, ⟨_, _, F4, PySem.W.mg_of X G a4, b4⟩, ⟨_, _, F5, PySem.W.mg_of X G a5, b5⟩, ⟨_, _, F6, PySem.W.mg_of X G a6, b6⟩, ⟨_, _, F7, PySem.W.mg_of X G a7, b7⟩, ⟨_, _, F8, PySem.W.mg_of X G a8, b8⟩, ⟨_, _, F9, PySem.W.mg_of X G a9, b9⟩, ⟨_, _, F10, PySem.W.mg_of X G a10, b10⟩, ⟨_, _, F11, PySem.W.mg_of X G a11, b11⟩, ⟨_, _, F12, PySem.W.mg_of X G a12, b12⟩, ⟨_, _, F13, PySem.W.mg_of X G a13, b13⟩, ⟨_, _, F14, PySem.W.mg_of X G a14, b14⟩, ⟨_, _, F15, PySem.W.mg_of X G a15, b15⟩, ⟨_, _, F16, PySem.W.mg_of X G a16, b16⟩, ⟨_, _, F17, PySem.W.mg_of X G a17, b17⟩, ⟨_, _, F18, PySem.W.mg_of X G a18, b18⟩, ⟨_, _, F19, PySem.W.mg_of X G a19, b19⟩, ⟨_, _, F20, PySem.W.mg_of X G a20, b20⟩, ⟨_, _, F21, PySem.W.mg_of X G a21, b21⟩, ⟨_, _, F22, PySem.W.mg_of X G a22, b22⟩, ⟨_, _, F23, PySem.W.mg_of X G a23, b23⟩, ⟨_, _, F24, PySem.W.mg_of X G a24, b24⟩, ⟨_, _, F25, PySem.W.mg_of X G a25, b25⟩⟩
  exact ⟨_, fun_mk (st := topS 28) l26 c26 k26, fun s v => .of_eq rfl, fun base _ _ cdv s H E hr => k_law bi cs ds hr⟩
theorem room_law : Room (62 + 1) PySem.callerA := ⟨rfl, by decide, by decide⟩
end K1
open PySem PySem.W PyProof.Rows
set_option maxRecDepth 100000 in
set_option maxHeartbeats 0 in
theorem PySem.Challenge.cw_deedsagain_k01_worlds_and_conditions_holds : PySem.Challenge.rw_deedsagain_k01_worlds_and_conditions.Holds := by
  w_on; o_law; k_head; (case hw => w_witness2)
  k_fill
  refine Dg.law_at (l := PySem.Challenge.rw_deedsagain_k01_worlds_and_conditions) (x := "law") (qual := "law") (y := "script") rfl rfl K1.room_law (fun w h Y => PySem.W.kIn_of Y) K1.sc_law (by decide) ?F (fun ns _ _ => K1.law_true ns)
  case F =>
    intro w mg fa h KX G hmg
    refine' K1.all_mk KX G hmg ?a1 ?l1 ?c1 ?k1 ?a2 ?l2 ?c2 ?k2 ?a3 ?l3 ?c3 ?k3 ?a4 ?l4 ?c4 ?k4 ?a5 ?l5 ?c5 ?k5 ?a6 ?l6 ?c6 ?k6 ?a7 ?l7 ?c7 ?k7 ?a8 ?l8 ?c8 ?k8 ?a9 ?l9 ?c9 ?k9 ?a10 ?l10 ?c10 ?k10 ?a11 ?l11 ?c11 ?k11 ?a12 ?l12 ?c12 ?k12 ?a13 ?l13 ?c13 ?k13 ?a14 ?l14 ?c14 ?k14 ?a15 ?l15 ?c15 ?k15 ?a16 ?l16 ?c16 ?k16 ?a17 ?l17 ?c17 ?k17 ?a18 ?l18 ?c18 ?k18 ?a19 ?l19 ?c19 ?k19 ?a20 ?l20 ?c20 ?k20 ?a21 ?l21 ?c21 ?k21 ?a22 ?l22 ?c22 ?k22 ?a23 ?l23 ?c23 ?k23 ?a24 ?l24 ?c24 ?k24 ?a25 ?l25 ?c25 ?k25 ?a26 ?l26 ?c26 ?k26 ?v0 ?z0 ?z1 ?z2 ?z3 ?z4 ?z5 ?z6 ?z7 ?z8 ?z9 ?z10 ?z11
    (case a1 => k_is)
    (case l1 => k_is)
    (case c1 => k_is)
    (case k1 => k_is)
    (case a2 => k_is)
    (case l2 => k_is)
    (case c2 => k_is)
    (case k2 => k_is)
    (case a3 => k_is)
    (case l3 => k_is)
    (case c3 => k_is)
    (case k3 => k_is)
    (case a4 => k_is)
    (case l4 => k_is)
    (case c4 => k_is)
    (case k4 => k_is)
    (case a5 => k_is)
    (case l5 => k_is)
    (case c5 => k_is)
    (case k5 => k_is)
    (case a6 => k_is)
    (case l6 => k_is)
    (case c6 => k_is)
    (case k6 => k_is)
    (case a7 => k_is)
    (case l7 => k_is)
    (case c7 => k_is)
    (case k7 => k_is)
    (case a8 => k_is)
    (case l8 => k_is)
    (case c8 => k_is)
    (case k8 => k_is)
    (case a9 => k_is)
    (case l9 => k_is)
    (case c9 => k_is)
    (case k9 => k_is)
    (case a10 => k_is)
    (case l10 => k_is)
    (case c10 => k_is)
    (case k10 => k_is)
    (case a11 => k_is)
    (case l11 => k_is)
    (case c11 => k_is)
    (case k11 => k_is)
    (case a12 => k_is)
    (case l12 => k_is)
    (case c12 => k_is)
    (case k12 => k_is)
    (case a13 => k_is)
    (case l13 => k_is)
    (case c13 => k_is)
    (case k13 => k_is)
    (case a14 => k_is)
    (case l14 => k_is)
    (case c14 => k_is)
    (case k14 => k_is)
    (case a15 => k_is)
    (case l15 => k_is)
    (case c15 => k_is)
    (case k15 => k_is)
    (case a16 => k_is)
    (case l16 => k_is)
    (case c16 => k_is)
    (case k16 => k_is)
    (case a17 => k_is)
    (case l17 => k_is)
    (case c17 => k_is)
    (case k17 => k_is)
    (case a18 => k_is)
    (case l18 => k_is)
    (case c18 => k_is)
    (case k18 => k_is)
    (case a19 => k_is)
    (case l19 => k_is)
    (case c19 => k_is)
    (case k19 => k_is)
    (case a20 => k_is)
    (case l20 => k_is)
    (case c20 => k_is)
    (case k20 => k_is)
    (case a21 => k_is)
    (case l21 => k_is)
    (case c21 => k_is)
    (case k21 => k_is)
    (case a22 => k_is)
    (case l22 => k_is)
    (case c22 => k_is)
    (case k22 => k_is)
    (case a23 => k_is)
    (case l23 => k_is)
    (case c23 => k_is)
    (case k23 => k_is)
    (case a24 => k_is)
    (case l24 => k_is)
    (case c24 => k_is)
    (case k24 => k_is)
    (case a25 => k_is)
    (case l25 => k_is)
    (case c25 => k_is)
    (case k25 => k_is)
    (case a26 => k_is)
    (case l26 => k_is)
    (case c26 => k_is)
    (case k26 => k_is)
    (case v0 => k_is)
    (case z0 => k_is)
    (case z1 => k_is)
    (case z2 => k_is)
    (case z3 => k_is)
    (case z4 => k_is)
    (case z5 => k_is)
    (case z6 => k_is)
    (case z7 => k_is)
    (case z8 => k_is)
    (case z9 => k_is)
    (case z10 => k_is)
    (case z11 => k_is)
