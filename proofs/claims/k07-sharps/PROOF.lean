import PyProof.Rows.All
import Wide.All
import OpenK.AllK
import Wide.FinOn
import HandS.ForMost
import HandS.Exc
import HandS.WordsExc
import HandS.Deep
import HandS.EndTab
import HandS.Nested
import HandS.IsInst
import HandS.Conv
import HandS.TupLen
import HandS.AnyAll
import HandS.NoneIn
import HandS.TupAny
import HandS.TupMul
import HandS.SortInts
import KE.GoesEnum
import HandS.Small
import HandS.DictComp
import HandS.NamedTupSort
import HandS.TupLe
import HandS.SortRule
import KE.KDictCopyH
import KE.KDictSum
import HandS.GenOver
import HandS.Defaults
import HandS.Head0
import HandS.Head1
import HandS.Head2
import HandS.HeadEnd
import HandS.HeadHook1
import HandS.HeadHook2
import HandS.HeadHook3
import HandS.HeadHook4
import HandS.HeadWalk
import HandS.Lambda
import HandS.ExcOwn
import PySem.Challenge.RW_nobodystays_k07_whole_sharps
set_option Elab.async false
set_option linter.all false
set_option maxRecDepth 100000
set_option maxHeartbeats 4000000
namespace Nb
open PySem PySem.Spec L2

/-- what a slot holds, as data: nothing known, data that stays, a list of one's own, a list lent by the caller, a dict of one's own (its keys, all values True; t: keys are tuples), a dict that stays, a function -/
inductive SV where
  | un
  | d (x : PyData)
  | ls (xs : List PyData)
  | br (xs : List PyData)
  | dc (t : Bool) (ks : List PyData)
  | fd (t : Bool) (ks : List PyData)
  | fn (F : PyData → Option PyData)
def SV.isOwn : SV → Bool
  | .ls _ => true
  | .br _ => true
  | .dc _ _ => true
  | _ => false
structure Exn where
  cls : Str
  fs : List (Str × PyData)
inductive Res (α : Type) where
  | fail
  | exn (c : Exn)
  | ok (a : α) (ρ : List SV)
abbrev M (α : Type) := List SV → Res α
def Res.bind {α β : Type} : Res α → (α → M β) → Res β
  | .fail, _ => .fail
  | .exn c, _ => .exn c
  | .ok a ρ, k => k a ρ
def M.bind {α β : Type} (f : M α) (k : α → M β) : M β := fun ρ => (f ρ).bind k
def ret {α : Type} (a : α) : M α := fun ρ => .ok a ρ
def failM {α : Type} : M α := fun _ => .fail
def ofO {α : Type} : Option α → M α
  | some a => ret a
  | none => failM

inductive TK where
  | gen
  | lam (nm : Nat → Nat → Str)
abbrev Tabs := List (Addr × TK)
def TabsOk (T : Tabs) (H : Hp) : Prop := ∀ p ∈ T, match p.2 with
  | .gen => GxR.TabG H p.1
  | .lam nm => NdefX.TabN H p.1 nm

abbrev Sub (G G' : Hp) : Prop := ∀ b o, G b = some o → G' b = some o
structure Wd where
  K : PySem.W.Frag
  T : Tabs
  Fv : Hp → V → (PyData → Option PyData) → Prop
  Fm : ∀ {G G' : Hp} {v : V} {F : PyData → Option PyData}, Sub G G' → Fv G v F → Fv G' v F
  Ex : Exn → Value → Option Addr → Hp → Prop

theorem SqL.mono {K : PySem.W.Frag} {G G' : Hp} {a : Addr} {xs : List V} (s : Sub G G') (h : SqL K G a xs) : SqL K G' a xs := by
  rcases h with (h | ⟨o, h⟩) | h
  · exact .inl (.inl (s _ _ h))
  · exact .inl (.inr ⟨o, s _ _ h⟩)
  · exact .inr h
theorem SqT.mono {K : PySem.W.Frag} {G G' : Hp} {a : Addr} {xs : List V} (s : Sub G G') (h : SqT K G a xs) : SqT K G' a xs := by
  rcases h with (h | ⟨o, h⟩) | h
  · exact .inl (.inl (s _ _ h))
  · exact .inl (.inr ⟨o, s _ _ h⟩)
  · exact .inr h
mutual
/-- data at a value, over what stays: lists are tracked as they are; the script stands for itself -/
inductive Dq (K : PySem.W.Frag) (G : Hp) : V → PyData → Prop
  | non : Dq K G .non .none
  | bl (b : Bool) : Dq K G (.bl b) (.bool b)
  | int (i : Int) : Dq K G (.int i) (.int i)
  | str (x : Str) : Dq K G (.str x) (.str x)
  | lst {a : Addr} {xs : List V} {ds : List PyData} : G a = some (.lst xs) → DqAll K G xs ds → Dq K G (.ref a) (.list ds)
  | tup {a : Addr} {xs : List V} {ds : List PyData} : G a = some (.tup xs) → DqAll K G xs ds → Dq K G (.ref a) (.tuple ds)
  | ktp {a : Addr} {xs : List V} {ds : List PyData} : SqT K G a xs → DqAll K G xs ds → Dq K G (.ref a) (.dict [(.none, .tuple ds)])
  | scr {a : Addr} {ns : List Int} {kvs : List (PyData × PyData)} : SqL K G a (ns.map V.int) → kvs = ns.map (fun n => (PyData.int n, PyData.none)) → Dq K G (.ref a) (.dict kvs)
inductive DqAll (K : PySem.W.Frag) (G : Hp) : List V → List PyData → Prop
  | nil : DqAll K G [] []
  | cons {v : V} {vs : List V} {d : PyData} {ds : List PyData} : Dq K G v d → DqAll K G vs ds → DqAll K G (v :: vs) (d :: ds)
end
mutual
theorem Dq.mono {K : PySem.W.Frag} {G G' : Hp} (s : Sub G G') : ∀ {d : PyData} {v : V}, Dq K G v d → Dq K G' v d
  | .none, _, h => by cases h; exact .non
  | .bool b, _, h => by cases h; exact .bl b
  | .int i, _, h => by cases h; exact .int i
  | .str x, _, h => by cases h; exact .str x
  | .list ds, _, h => by
    cases h with
    | lst hs ha => exact .lst (s _ _ hs) (DqAll.mono s ha)
  | .tuple ds, _, h => by
    cases h with
    | tup hs ha => exact .tup (s _ _ hs) (DqAll.mono s ha)
  | .dict _, _, h => by
    cases h with
    | scr hs e => exact .scr (SqL.mono s hs) e
    | ktp hs ha => exact .ktp (SqT.mono s hs) (DqAll.mono s ha)
theorem DqAll.mono {K : PySem.W.Frag} {G G' : Hp} (s : Sub G G') : ∀ {ds : List PyData} {vs : List V}, DqAll K G vs ds → DqAll K G' vs ds
  | [], _, h => by cases h; exact .nil
  | d :: ds, _, h => by
    cases h with
    | cons h1 h2 => exact .cons (Dq.mono s h1) (DqAll.mono s h2)
end
mutual
/-- no script within -/
def plainD : PyData → Bool
  | .dict _ => false
  | .list ds => plainAll ds
  | .tuple ds => plainAll ds
  | _ => true
def plainAll : List PyData → Bool
  | [] => true
  | d :: ds => plainD d && plainAll ds
end
mutual
theorem Dq.dp {K : PySem.W.Frag} {G : Hp} : ∀ {d : PyData} {v : V}, Dq K G v d → plainD d = true → Dp K G v d
  | .none, _, h, _ => by cases h; exact .non
  | .bool b, _, h, _ => by cases h; exact .bl b
  | .int i, _, h, _ => by cases h; exact .int i
  | .str x, _, h, _ => by cases h; exact .str x
  | .list ds, _, h, p => by
    cases h with
    | lst hs ha => exact .lst (SqL.of hs) (DqAll.dp ha (by simpa only [plainD] using p))
  | .tuple ds, _, h, p => by
    cases h with
    | tup hs ha => exact .tup (SqT.of hs) (DqAll.dp ha (by simpa only [plainD] using p))
  | .dict _, _, _, p => by simp [plainD] at p
theorem DqAll.dp {K : PySem.W.Frag} {G : Hp} : ∀ {ds : List PyData} {vs : List V}, DqAll K G vs ds → plainAll ds = true → DpAll K G vs ds
  | [], _, h, _ => by cases h; exact .nil
  | d :: ds, _, h, p => by
    cases h with
    | cons h1 h2 =>
      have p' : plainD d = true ∧ plainAll ds = true := by simpa only [plainAll, Bool.and_eq_true] using p
      exact .cons (Dq.dp h1 p'.1) (DqAll.dp h2 p'.2)
end

theorem DqAll.length {K : PySem.W.Frag} {G : Hp} : ∀ {ds : List PyData} {vs : List V}, DqAll K G vs ds → vs.length = ds.length
  | [], _, h => by cases h; rfl
  | _ :: _, _, h => by
    cases h with
    | cons _ h2 => simp [DqAll.length h2]
theorem DqAll.append {K : PySem.W.Frag} {G : Hp} {es : List PyData} {us : List V} (h' : DqAll K G us es) : ∀ {ds : List PyData} {vs : List V}, DqAll K G vs ds → DqAll K G (vs ++ us) (ds ++ es)
  | [], _, h => by cases h; exact h'
  | _ :: _, _, h => by
    cases h with
    | cons h1 h2 => exact .cons h1 (DqAll.append h' h2)
theorem DqAll.get {K : PySem.W.Frag} {G : Hp} : ∀ {ds : List PyData} {vs : List V} {i : Nat} {x : PyData}, DqAll K G vs ds → ds[i]? = some x → ∃ v, vs[i]? = some v ∧ Dq K G v x
  | [], _, _, _, _, e => by simp at e
  | d :: ds, _, 0, x, h, e => by
    cases h with
    | cons h1 h2 => simp at e; subst e; exact ⟨_, rfl, h1⟩
  | d :: ds, _, i + 1, x, h, e => by
    cases h with
    | cons h1 h2 =>
      obtain ⟨v, e1, e2⟩ := DqAll.get (i := i) h2 (by simpa using e)
      exact ⟨v, by simpa using e1, e2⟩
theorem DqAll.get' {K : PySem.W.Frag} {G : Hp} : ∀ {ds : List PyData} {vs : List V} {i : Nat} {v : V}, DqAll K G vs ds → vs[i]? = some v → ∃ x, ds[i]? = some x ∧ Dq K G v x
  | [], _, _, _, h, e => by cases h; simp at e
  | d :: ds, _, 0, x, h, e => by
    cases h with
    | cons h1 h2 => simp at e; subst e; exact ⟨_, rfl, h1⟩
  | d :: ds, _, i + 1, x, h, e => by
    cases h with
    | cons h1 h2 =>
      obtain ⟨v, e1, e2⟩ := DqAll.get' (i := i) h2 (by simpa using e)
      exact ⟨v, by simpa using e1, e2⟩
theorem DqAll.set {K : PySem.W.Frag} {G : Hp} {v : V} {x : PyData} (hx : Dq K G v x) : ∀ {ds : List PyData} {vs : List V} (i : Nat), DqAll K G vs ds → DqAll K G (vs.set i v) (ds.set i x)
  | [], _, _, h => by cases h; exact .nil
  | _ :: _, _, 0, h => by
    cases h with
    | cons h1 h2 => exact .cons hx h2
  | _ :: _, _, i + 1, h => by
    cases h with
    | cons h1 h2 => exact .cons h1 (DqAll.set hx i h2)
theorem DqAll.take {K : PySem.W.Frag} {G : Hp} : ∀ {ds : List PyData} {vs : List V} (n : Nat), DqAll K G vs ds → DqAll K G (vs.take n) (ds.take n)
  | _, _, 0, _ => .nil
  | [], _, _ + 1, h => by cases h; exact .nil
  | _ :: _, _, n + 1, h => by
    cases h with
    | cons h1 h2 => exact .cons h1 (DqAll.take n h2)
theorem DqAll.drop {K : PySem.W.Frag} {G : Hp} : ∀ {ds : List PyData} {vs : List V} (n : Nat), DqAll K G vs ds → DqAll K G (vs.drop n) (ds.drop n)
  | _, _, 0, h => h
  | [], _, _ + 1, h => by cases h; exact .nil
  | _ :: _, _, n + 1, h => by
    cases h with
    | cons h1 h2 => exact DqAll.drop n h2
theorem DqAll.eraseIdx {K : PySem.W.Frag} {G : Hp} : ∀ {ds : List PyData} {vs : List V} (i : Nat), DqAll K G vs ds → DqAll K G (vs.eraseIdx i) (ds.eraseIdx i)
  | [], _, _, h => by cases h; exact .nil
  | _ :: _, _, 0, h => by
    cases h with
    | cons h1 h2 => exact h2
  | _ :: _, _, i + 1, h => by
    cases h with
    | cons h1 h2 => exact .cons h1 (DqAll.eraseIdx i h2)
theorem DqAll.dropLast {K : PySem.W.Frag} {G : Hp} {ds : List PyData} {vs : List V} (h : DqAll K G vs ds) : DqAll K G vs.dropLast ds.dropLast := by
  rw [List.dropLast_eq_take, List.dropLast_eq_take, DqAll.length h]
  exact DqAll.take _ h
theorem DqAll.rep {K : PySem.W.Frag} {G : Hp} {ds : List PyData} {vs : List V} (h : DqAll K G vs ds) : ∀ n : Nat, DqAll K G (List.replicate n vs).flatten (List.replicate n ds).flatten
  | 0 => .nil
  | n + 1 => by
    rw [List.replicate_succ, List.replicate_succ, List.flatten_cons, List.flatten_cons]
    exact DqAll.append (DqAll.rep h n) h
theorem DqAll.reverse {K : PySem.W.Frag} {G : Hp} : ∀ {ds : List PyData} {vs : List V}, DqAll K G vs ds → DqAll K G vs.reverse ds.reverse
  | [], _, h => by cases h; exact .nil
  | _ :: _, _, h => by
    cases h with
    | cons h1 h2 => rw [List.reverse_cons, List.reverse_cons]; exact DqAll.append (.cons h1 .nil) (DqAll.reverse h2)
theorem DqAll.ints {K : PySem.W.Frag} {G : Hp} : ∀ (ns : List Int), DqAll K G (ns.map V.int) (ns.map PyData.int)
  | [] => .nil
  | n :: ns => .cons (.int n) (DqAll.ints ns)
theorem DqAll.bls {K : PySem.W.Frag} {G : Hp} : ∀ (ns : List Bool), DqAll K G (ns.map V.bl) (ns.map PyData.bool)
  | [] => .nil
  | n :: ns => .cons (.bl n) (DqAll.bls ns)
theorem DqAll.strs {K : PySem.W.Frag} {G : Hp} : ∀ (ns : List Str), DqAll K G (ns.map V.str) (ns.map PyData.str)
  | [] => .nil
  | n :: ns => .cons (.str n) (DqAll.strs ns)
theorem DqAll.ints_inv {K : PySem.W.Frag} {G : Hp} : ∀ {ns : List Int} {vs : List V}, DqAll K G vs (ns.map PyData.int) → vs = ns.map V.int
  | [], _, h => by cases h; rfl
  | n :: ns, _, h => by
    cases h with
    | cons h1 h2 => cases h1; rw [DqAll.ints_inv h2]; rfl
theorem DqAll.strs_inv {K : PySem.W.Frag} {G : Hp} : ∀ {ns : List Str} {vs : List V}, DqAll K G vs (ns.map PyData.str) → vs = ns.map V.str
  | [], _, h => by cases h; rfl
  | n :: ns, _, h => by
    cases h with
    | cons h1 h2 => cases h1; rw [DqAll.strs_inv h2]; rfl
theorem DqAll.bls_inv {K : PySem.W.Frag} {G : Hp} : ∀ {ns : List Bool} {vs : List V}, DqAll K G vs (ns.map PyData.bool) → vs = ns.map V.bl
  | [], _, h => by cases h; rfl
  | n :: ns, _, h => by
    cases h with
    | cons h1 h2 => cases h1; rw [DqAll.bls_inv h2]; rfl

def keyD : Key → PyData
  | .inl i => .int i
  | .inr x => .str x
def DicAt (t : Bool) (H : Hp) (p : Addr) (ks : List PyData) : Prop :=
  if t then ∃ kk : List (List Key), H p = some (.dT (kk.map fun k => (k, V.bl true))) ∧ ks = kk.map fun k => .tuple (k.map keyD)
  else ∃ kk : List Key, H p = some (.dK (kk.map fun k => (k, V.bl true))) ∧ ks = kk.map keyD
theorem DicAt.at {t : Bool} {H H' : Hp} {p : Addr} {ks : List PyData} (h : DicAt t H p ks) (e : ∀ o, H p = some o → H' p = some o) : DicAt t H' p ks := by
  unfold DicAt at h ⊢
  cases t with
  | true =>
    obtain ⟨kk, h1, h2⟩ := h
    exact ⟨kk, e _ h1, h2⟩
  | false =>
    obtain ⟨kk, h1, h2⟩ := h
    exact ⟨kk, e _ h1, h2⟩
theorem DicAt.some {t : Bool} {H : Hp} {p : Addr} {ks : List PyData} (h : DicAt t H p ks) : ∃ o, H p = some o ∧ ∀ ps, o ≠ .tbl ps := by
  unfold DicAt at h
  cases t with
  | true =>
    obtain ⟨kk, h1, h2⟩ := h
    exact ⟨_, h1, fun _ z => by cases z⟩
  | false =>
    obtain ⟨kk, h1, h2⟩ := h
    exact ⟨_, h1, fun _ z => by cases z⟩
theorem DicAt.noTup {t : Bool} {H : Hp} {p : Addr} {ks : List PyData} (h : DicAt t H p ks) {o : HO} (e : H p = Option.some o) : ∀ xs, o ≠ .tup xs := by
  unfold DicAt at h
  cases t with
  | true => obtain ⟨kk, h1, h2⟩ := h; rw [h1] at e; cases e; exact fun _ z => by cases z
  | false => obtain ⟨kk, h1, h2⟩ := h; rw [h1] at e; cases e; exact fun _ z => by cases z

/-- what the slot's content is -/
def SOk (W : Wd) (G H : Hp) : SV → Option V → Prop
  | .un, _ => True
  | .d x, ov => ∃ v, ov = some v ∧ Dq W.K G v x
  | .ls xs, ov => ∃ p vs, ov = some (.ref p) ∧ H p = some (.lst vs) ∧ G p = none ∧ DqAll W.K G vs xs
  | .br xs, ov => ∃ p vs, ov = some (.ref p) ∧ H p = some (.lst vs) ∧ G p = none ∧ DqAll W.K G vs xs
  | .dc t ks, ov => ∃ p, ov = some (.ref p) ∧ DicAt t H p ks ∧ G p = none
  | .fd t ks, ov => ∃ p, ov = some (.ref p) ∧ DicAt t G p ks
  | .fn F, ov => ∃ v, ov = some v ∧ W.Fv G v F

def OwnS (ρ : List SV) (σ : St) (b : Addr) : Prop := ∃ (i : Nat) (w : SV), ρ[i]? = some w ∧ w.isOwn = true ∧ σ[i]? = some (some (V.ref b))

structure Lk (W : Wd) (G H : Hp) (ρ : List SV) (σ : St) : Prop where
  sub : Sub G H
  gt : ∀ b ps, G b ≠ some (.tbl ps)
  len : ρ.length = σ.length
  slot : ∀ (i : Nat) (w : SV) (ov : Option V), ρ[i]? = some w → σ[i]? = some ov → SOk W G H w ov
  sep : ∀ (i j : Nat) (wi wj : SV) (p : Addr), i ≠ j → ρ[i]? = some wi → ρ[j]? = some wj → wi.isOwn = true → wj.isOwn = true → σ[i]? = some (some (V.ref p)) → σ[j]? = some (some (V.ref p)) → False
  tabs : TabsOk W.T H

structure Fr' (G H : Hp) (O : Addr → Prop) (G' H' : Hp) : Prop where
  keep : ∀ b o, H b = some o → ¬ O b → (∀ ps, o ≠ .tbl ps) → H' b = some o
  tbl : ∀ b ps, H b = some (.tbl ps) → ∃ ps', H' b = some (.tbl ps')
  gsub : Sub G G'
  gnew : ∀ b o, G' b = some o → G b = some o ∨ H b = none ∨ O b ∨ (H b = some o ∧ ∃ xs, o = .tup xs)
structure Tr (W : Wd) (ρ : List SV) (σ : St) (G H : Hp) (ρ' : List SV) (σ' : St) (G' H' : Hp) : Prop where
  lk : Lk W G' H' ρ' σ'
  fr : Fr' G H (OwnS ρ σ) G' H'
  onew : ∀ b, OwnS ρ' σ' b → H b = none ∨ OwnS ρ σ b
  brs : ∀ (i : Nat) (xs : List PyData), ρ[i]? = some (.br xs) → ∃ xs', ρ'[i]? = some (.br xs') ∧ σ'[i]? = σ[i]?

/-- a result's value, behind the step -/
def ROk (W : Wd) (ρ : List SV) (σ : St) (H : Hp) (ρ' : List SV) (σ' : St) (G' H' : Hp) (w : SV) (v : V) : Prop :=
  SOk W G' H' w (some v) ∧ (w.isOwn = true → ∀ p, v = .ref p → ¬ OwnS ρ' σ' p ∧ (H p = none ∨ OwnS ρ σ p)) ∧ ∀ xs, w ≠ .br xs
def Wish (W : Wd) (E : XK) (c : Exn) (ρ : List SV) (σ : St) (G H : Hp) : Prop :=
  ∀ cls dx H', W.Ex c cls dx H' → (∀ b o, H b = some o → ¬ OwnS ρ σ b → (∀ ps, o ≠ .tbl ps) → H' b = some o) → (∀ b ps, H b = some (.tbl ps) → ∃ ps', H' b = some (.tbl ps')) → TabsOk W.T H' → E cls dx H'
def Go (W : Wd) (E : XK) (r : Res SV) (ρ : List SV) (σ : St) (G H : Hp) (Q : VK) : Prop := match r with
  | .ok w ρ' => ∀ v G' H', Tr W ρ σ G H ρ' σ G' H' → ROk W ρ σ H ρ' σ G' H' w v → Q v H'
  | .exn c => Wish W E c ρ σ G H
  | .fail => False
def GoD (W : Wd) (E : XK) (r : Res PyData) (ρ : List SV) (σ : St) (G H : Hp) (Q : VK) : Prop := match r with
  | .ok x ρ' => ∀ v G' H', Tr W ρ σ G H ρ' σ G' H' → Dq W.K G' v x → Q v H'
  | .exn c => Wish W E c ρ σ G H
  | .fail => False
def tV (W : Wd) (E : XK) (f : M SV) : TE := fun σ H Q => ∃ G ρ, Lk W G H ρ σ ∧ Go W E (f ρ) ρ σ G H Q
def tD (W : Wd) (E : XK) (f : M PyData) : TE := fun σ H Q => ∃ G ρ, Lk W G H ρ σ ∧ GoD W E (f ρ) ρ σ G H Q

theorem Fr'.refl {G H : Hp} {O : Addr → Prop} : Fr' G H O G H := ⟨fun _ _ e _ _ => e, fun _ ps e => ⟨ps, e⟩, fun _ _ e => e, fun _ _ e => .inl e⟩
theorem Fr'.lost {G H G' H' : Hp} {O : Addr → Prop} (f : Fr' G H O G' H') {b : Addr} (e : H' b = none) : H b = none ∨ O b := by
  cases q : H b with
  | none => exact .inl rfl
  | some o =>
    by_cases hO : O b
    · exact .inr hO
    · by_cases ht : ∃ ps, o = .tbl ps
      · obtain ⟨ps, rfl⟩ := ht
        obtain ⟨ps', z⟩ := f.tbl b ps q
        rw [z] at e
        cases e
      · have z := f.keep b o q hO fun ps z => ht ⟨ps, z⟩
        rw [z] at e
        cases e
theorem Fr'.trans {G H G1 H1 G2 H2 : Hp} {O O1 : Addr → Prop} (f : Fr' G H O G1 H1) (g : Fr' G1 H1 O1 G2 H2) (ho : ∀ b, O1 b → H b = none ∨ O b) : Fr' G H O G2 H2 := by
  refine ⟨fun b o e n nt => ?_, fun b ps e => ?_, fun b o e => g.gsub b o (f.gsub b o e), fun b o e => ?_⟩
  · refine g.keep b o (f.keep b o e n nt) (fun h => ?_) nt
    rcases ho b h with z | z
    · rw [z] at e; cases e
    · exact n z
  · obtain ⟨ps', z⟩ := f.tbl b ps e
    exact g.tbl b ps' z
  · rcases g.gnew b o e with z | z | z | ⟨z, xs, rfl⟩
    · exact f.gnew b o z
    · exact .inr ((f.lost z).imp_right .inl)
    · exact .inr ((ho b z).imp_right .inl)
    · cases q : H b with
      | none => exact .inr (.inl rfl)
      | some o' =>
        by_cases hO : O b
        · exact .inr (.inr (.inl hO))
        · by_cases ht : ∃ ps, o' = .tbl ps
          · obtain ⟨ps, rfl⟩ := ht
            obtain ⟨ps', y⟩ := f.tbl b ps q
            rw [y] at z
            cases z
          · have y := f.keep b o' q hO fun ps y => ht ⟨ps, y⟩
            rw [y] at z
            cases z
            exact .inr (.inr (.inr ⟨rfl, xs, rfl⟩))
theorem Tr.refl {W : Wd} {ρ : List SV} {σ : St} {G H : Hp} (l : Lk W G H ρ σ) : Tr W ρ σ G H ρ σ G H := ⟨l, .refl, fun _ h => .inr h, fun i xs e => ⟨xs, e, rfl⟩⟩
theorem Tr.trans {W : Wd} {ρ ρ1 ρ2 : List SV} {σ σ1 σ2 : St} {G H G1 H1 G2 H2 : Hp} (a : Tr W ρ σ G H ρ1 σ1 G1 H1) (b : Tr W ρ1 σ1 G1 H1 ρ2 σ2 G2 H2) : Tr W ρ σ G H ρ2 σ2 G2 H2 := by
  refine ⟨b.lk, a.fr.trans b.fr a.onew, fun p h => ?_, fun i xs e => ?_⟩
  · rcases b.onew p h with z | z
    · exact a.fr.lost z
    · exact a.onew p z
  · obtain ⟨xs1, e1, s1⟩ := a.brs i xs e
    obtain ⟨xs2, e2, s2⟩ := b.brs i xs1 e1
    exact ⟨xs2, e2, s2.trans s1⟩
theorem ROk.trans {W : Wd} {ρ ρ1 ρ2 : List SV} {σ σ1 σ2 : St} {G H G1 H1 G2 H2 : Hp} {w : SV} {v : V} (a : Tr W ρ σ G H ρ1 σ1 G1 H1) (b : ROk W ρ1 σ1 H1 ρ2 σ2 G2 H2 w v) : ROk W ρ σ H ρ2 σ2 G2 H2 w v := by
  refine ⟨b.1, fun o p e => ?_, b.2.2⟩
  obtain ⟨n, z⟩ := b.2.1 o p e
  refine ⟨n, ?_⟩
  rcases z with z | z
  · exact a.fr.lost z
  · exact a.onew p z
theorem Wish.shift {W : Wd} {E : XK} {c : Exn} {ρ ρ1 : List SV} {σ σ1 : St} {G H G1 H1 : Hp} (h : Wish W E c ρ σ G H) (a : Tr W ρ σ G H ρ1 σ1 G1 H1) : Wish W E c ρ1 σ1 G1 H1 := by
  intro cls dx H' hx k u t
  refine h cls dx H' hx (fun b o e n nt => k b o (a.fr.keep b o e n nt) (fun z => ?_) nt) (fun b ps e => by
    obtain ⟨ps', e'⟩ := a.fr.tbl b ps e
    exact u b ps' e') t
  rcases a.onew b z with q | q
  · rw [q] at e; cases e
  · exact n q
theorem Go.shift {W : Wd} {E : XK} {r : Res SV} {ρ ρ1 : List SV} {σ : St} {G H G1 H1 : Hp} {Q : VK} (h : Go W E r ρ σ G H Q) (a : Tr W ρ σ G H ρ1 σ G1 H1) : Go W E r ρ1 σ G1 H1 Q := by
  cases r with
  | fail => exact h
  | exn c => exact Wish.shift h a
  | ok w ρ' => exact fun v G' H' b rk => h v G' H' (a.trans b) (rk.trans a)
theorem GoD.shift {W : Wd} {E : XK} {r : Res PyData} {ρ ρ1 : List SV} {σ : St} {G H G1 H1 : Hp} {Q : VK} (h : GoD W E r ρ σ G H Q) (a : Tr W ρ σ G H ρ1 σ G1 H1) : GoD W E r ρ1 σ G1 H1 Q := by
  cases r with
  | fail => exact h
  | exn c => exact Wish.shift h a
  | ok w ρ' => exact fun v G' H' b rk => h v G' H' (a.trans b) rk

/-- a step that yields data, then the rest -/
theorem stepD {W : Wd} {E : XK} {f : M PyData} {k : PyData → M SV} {ρ : List SV} {σ : St} {G H : Hp} {Q R : VK} (l : Lk W G H ρ σ) (h : Go W E (M.bind f k ρ) ρ σ G H Q)
    (hk : ∀ x ρ1 v G1 H1, Tr W ρ σ G H ρ1 σ G1 H1 → Dq W.K G1 v x → Go W E (k x ρ1) ρ1 σ G1 H1 Q → R v H1) : tD W E f σ H R := by
  refine ⟨G, ρ, l, ?_⟩
  unfold M.bind at h
  cases e : f ρ with
  | fail => rw [e] at h; exact h
  | exn c => rw [e] at h; exact h
  | ok x ρ1 =>
    rw [e] at h
    exact fun v G1 H1 a dp => hk x ρ1 v G1 H1 a dp (Go.shift (r := k x ρ1) h a)
theorem stepDD {W : Wd} {E : XK} {f : M PyData} {k : PyData → M PyData} {ρ : List SV} {σ : St} {G H : Hp} {Q R : VK} (l : Lk W G H ρ σ) (h : GoD W E (M.bind f k ρ) ρ σ G H Q)
    (hk : ∀ x ρ1 v G1 H1, Tr W ρ σ G H ρ1 σ G1 H1 → Dq W.K G1 v x → GoD W E (k x ρ1) ρ1 σ G1 H1 Q → R v H1) : tD W E f σ H R := by
  refine ⟨G, ρ, l, ?_⟩
  unfold M.bind at h
  cases e : f ρ with
  | fail => rw [e] at h; exact h
  | exn c => rw [e] at h; exact h
  | ok x ρ1 =>
    rw [e] at h
    exact fun v G1 H1 a dp => hk x ρ1 v G1 H1 a dp (GoD.shift (r := k x ρ1) h a)
theorem PE.imp {X : Cx} {e : Expr} {t t' : TE} (h : PE X e t) (hi : ∀ σ H Q, t' σ H Q → t σ H Q) : PE X e t' := ⟨fun pins s σ H Q I hq => h.run pins s σ H Q I (hi σ H Q hq)⟩
theorem PT.imp {X : Cx} {e : Expr} {t t' : TT} (h : PT X e t) (hi : ∀ σ H Q, t' σ H Q → t σ H Q) : PT X e t' := ⟨fun pins s σ H Q I hq => h.run pins s σ H Q I (hi σ H Q hq)⟩
theorem PS.imp {X : Cx} {e : Stmt} {t t' : TS} (h : PS X e t) (hi : ∀ D σ H, t' D σ H → t D σ H) : PS X e t' := ⟨fun pins s σ H Q I hq => h.run pins s σ H Q I (hi Q σ H hq)⟩
theorem PSs.imp {X : Cx} {e : List Stmt} {t t' : TS} (h : PSs X e t) (hi : ∀ D σ H, t' D σ H → t D σ H) : PSs X e t' := ⟨fun pins s σ H Q I hq => h.run pins s σ H Q I (hi Q σ H hq)⟩
end Nb

set_option Elab.async false
set_option linter.all false
set_option maxRecDepth 100000
set_option maxHeartbeats 4000000
namespace Nb
open PySem PySem.Spec L2

/-! ### frames -/
theorem OwnS.some {W : Wd} {G H : Hp} {ρ : List SV} {σ : St} {b : Addr} (l : Lk W G H ρ σ) (h : OwnS ρ σ b) : (∃ o, H b = some o ∧ (∀ ps, o ≠ .tbl ps) ∧ ∀ xs, o ≠ .tup xs) ∧ G b = none := by
  obtain ⟨i, w, e1, e2, e3⟩ := h
  have s := l.slot i w _ e1 e3
  cases w with
  | ls xs =>
    obtain ⟨p, vs, q, h1, h2, _⟩ := s
    cases q
    exact ⟨⟨_, h1, (fun _ z => by cases z), fun _ z => by cases z⟩, h2⟩
  | br xs =>
    obtain ⟨p, vs, q, h1, h2, _⟩ := s
    cases q
    exact ⟨⟨_, h1, (fun _ z => by cases z), fun _ z => by cases z⟩, h2⟩
  | dc t ks =>
    obtain ⟨p, q, h1, h2⟩ := s
    cases q
    obtain ⟨o, ho, nt⟩ := h1.some
    exact ⟨⟨o, ho, nt, h1.noTup ho⟩, h2⟩
  | un => cases e2
  | d x => cases e2
  | fd t ks => cases e2
  | fn F => cases e2
theorem SOk.mono {W : Wd} {G H G' H' : Hp} {w : SV} {ov : Option V} (h : SOk W G H w ov) (s : Sub G G') (k : ∀ p o, w.isOwn = true → ov = some (.ref p) → H p = some o → (∀ ps, o ≠ .tbl ps) → H' p = some o) (g : ∀ p, w.isOwn = true → ov = some (.ref p) → G p = none → G' p = none) : SOk W G' H' w ov := by
  cases w with
  | un => trivial
  | d x => obtain ⟨v, e, d⟩ := h; exact ⟨v, e, Dq.mono s d⟩
  | ls xs => obtain ⟨p, vs, e, h1, h2, d⟩ := h; exact ⟨p, vs, e, k p _ rfl e h1 (fun _ z => by cases z), g p rfl e h2, DqAll.mono s d⟩
  | br xs => obtain ⟨p, vs, e, h1, h2, d⟩ := h; exact ⟨p, vs, e, k p _ rfl e h1 (fun _ z => by cases z), g p rfl e h2, DqAll.mono s d⟩
  | dc t ks =>
    obtain ⟨p, e, h1, h2⟩ := h
    obtain ⟨o, ho, hn⟩ := h1.some
    exact ⟨p, e, h1.at fun o' e' => k p o' rfl e e' (by rw [ho] at e'; cases e'; exact hn), g p rfl e h2⟩
  | fd t ks => obtain ⟨p, e, h1⟩ := h; exact ⟨p, e, h1.at fun o e' => s p o e'⟩
  | fn F => obtain ⟨v, e, h1⟩ := h; exact ⟨v, e, W.Fm s h1⟩
/-- a step that touches nothing of ours -/
theorem Lk.frame {W : Wd} {G H G' H' : Hp} {ρ : List SV} {σ : St} {O : Addr → Prop} (l : Lk W G H ρ σ) (f : Fr' G H O G' H') (ho : ∀ b, OwnS ρ σ b → ¬ O b) (s : Sub G' H') (gt : ∀ b ps, G' b ≠ some (.tbl ps)) (t : TabsOk W.T H') : Lk W G' H' ρ σ := by
  refine ⟨s, gt, l.len, fun i w ov e1 e2 => ?_, l.sep, t⟩
  refine (l.slot i w ov e1 e2).mono f.gsub (fun p o hw e h nt => f.keep p o h (ho p ⟨i, w, e1, hw, by rw [e2, e]⟩) nt) fun p hw e h => ?_
  have own : OwnS ρ σ p := ⟨i, w, e1, hw, by rw [e2, e]⟩
  cases q : G' p with
  | none => rfl
  | some o =>
    rcases f.gnew p o q with z | z | z | ⟨z, xs, hz⟩
    · rw [h] at z; cases z
    · obtain ⟨⟨o', ho', _⟩, _⟩ := OwnS.some l own
      rw [ho'] at z; cases z
    · exact absurd z (ho p own)
    · obtain ⟨⟨o', ho', _, nu⟩, _⟩ := OwnS.some l own
      rw [ho'] at z; cases z
      exact absurd hz (nu xs)
theorem Tr.frame {W : Wd} {G H G' H' : Hp} {ρ : List SV} {σ : St} (l : Lk W G H ρ σ) (f : Fr' G H (fun _ => False) G' H') (s : Sub G' H') (gt : ∀ b ps, G' b ≠ some (.tbl ps)) (t : TabsOk W.T H') : Tr W ρ σ G H ρ σ G' H' :=
  ⟨l.frame f (fun _ _ z => z) s gt t, ⟨fun b o e _ nt => f.keep b o e (fun z => z) nt, f.tbl, f.gsub, fun b o e => by
    rcases f.gnew b o e with z | z | z | z
    · exact .inl z
    · exact .inr (.inl z)
    · exact z.elim
    · exact .inr (.inr (.inr z))⟩, fun _ h => .inr h, fun i xs e => ⟨xs, e, rfl⟩⟩
theorem TabsOk.put {T : Tabs} {H : Hp} {p : Addr} {o : HO} (t : TabsOk T H) (n : ∀ u, H p = some u → (∀ ps, u ≠ .tbl ps) ∧ (∀ c q, u ≠ LamX.CodeO c q)) : TabsOk T (upd H p o) := fun x hx => by
  have q := t x hx
  have ne : ∀ b ps, H b = some (.tbl ps) → b ≠ p := fun b ps e z => by
    subst z
    exact (n _ e).1 ps rfl
  have nc : ∀ b c r, H b = some (LamX.CodeO c r) → b ≠ p := fun b c r e z => by
    subst z
    exact (n _ e).2 c r rfl
  cases hk : x.2 with
  | gen =>
    rw [hk] at q
    obtain ⟨ps, h1, h2⟩ := q
    exact ⟨ps, by rw [upd_ne (ne _ _ h1)]; exact h1, h2⟩
  | lam nm =>
    rw [hk] at q
    obtain ⟨ps, h1, h2, h3⟩ := q
    refine ⟨ps, by rw [upd_ne (ne _ _ h1)]; exact h1, h2, fun pos cv hc => ?_⟩
    obtain ⟨c, e1, e2⟩ := h3 pos cv hc
    exact ⟨c, e1, by rw [upd_ne (nc _ _ _ e2)]; exact e2⟩
theorem TabsOk.fresh {T : Tabs} {H : Hp} {p : Addr} {o : HO} (t : TabsOk T H) (n : H p = none) : TabsOk T (upd H p o) := t.put fun u e => by rw [n] at e; cases e
theorem Sub.put {G H : Hp} {p : Addr} {o : HO} (s : Sub G H) (n : G p = none) : Sub G (upd H p o) := fun b u e => by
  rw [upd_ne (ne_of_none e n)]; exact s b u e
theorem Sub.put2 {G H : Hp} {p : Addr} {o : HO} (s : Sub G H) : Sub (upd G p o) (upd H p o) := fun b u e => by
  by_cases h : b = p
  · subst h; rw [upd_same] at e ⊢; exact e
  · rw [upd_ne h] at e ⊢; exact s b u e
theorem Sub.self {G : Hp} {p : Addr} {o : HO} (n : G p = none) : Sub G (upd G p o) := fun b u e => by
  rw [upd_ne (ne_of_none e n)]; exact e
theorem Lk.gn {W : Wd} {G H : Hp} {ρ : List SV} {σ : St} (l : Lk W G H ρ σ) {p : Addr} (n : H p = none) : G p = none := by
  cases q : G p with
  | none => rfl
  | some o => rw [l.sub p o q] at n; cases n
/-- a new object that stays -/
theorem Tr.newG {W : Wd} {G H : Hp} {ρ : List SV} {σ : St} (l : Lk W G H ρ σ) {p : Addr} {o : HO} (n : H p = none) (nt : ∀ ps, o ≠ .tbl ps) : Tr W ρ σ G H ρ σ (upd G p o) (upd H p o) := by
  refine Tr.frame l ⟨fun b u e _ _ => ?_, fun b ps e => ⟨ps, ?_⟩, Sub.self (l.gn n), fun b u e => ?_⟩ (Sub.put2 l.sub) (fun b ps e => ?_) (l.tabs.fresh n)
  · rw [upd_ne (ne_of_none e n)]; exact e
  · rw [upd_ne (ne_of_none e n)]; exact e
  · by_cases h : b = p
    · subst h; exact .inr (.inl n)
    · rw [upd_ne h] at e; exact .inl e
  · by_cases h : b = p
    · subst h; rw [upd_same] at e; cases e; exact nt ps rfl
    · rw [upd_ne h] at e; exact l.gt b ps e
/-- a new object, not ours to keep -/
theorem Tr.newH {W : Wd} {G H : Hp} {ρ : List SV} {σ : St} (l : Lk W G H ρ σ) {p : Addr} {o : HO} (n : H p = none) : Tr W ρ σ G H ρ σ G (upd H p o) := by
  refine Tr.frame l ⟨fun b u e _ _ => ?_, fun b ps e => ⟨ps, ?_⟩, fun _ _ e => e, fun b u e => .inl e⟩ (Sub.put l.sub (l.gn n)) l.gt (l.tabs.fresh n)
  · rw [upd_ne (ne_of_none e n)]; exact e
  · rw [upd_ne (ne_of_none e n)]; exact e
theorem notOwn {W : Wd} {G H : Hp} {ρ : List SV} {σ : St} (l : Lk W G H ρ σ) {p : Addr} (n : H p = none) : ¬ OwnS ρ σ p := fun h => by
  obtain ⟨⟨o, e, _⟩, _⟩ := OwnS.some l h
  rw [n] at e; cases e
/-- a fresh list as the result -/
theorem Go.lst {W : Wd} {E : XK} {G H : Hp} {ρ : List SV} {σ : St} {Q : VK} {xs : List PyData} {vs : List V} {p : Addr} (l : Lk W G H ρ σ) (h : Go W E (.ok (.ls xs) ρ) ρ σ G H Q) (n : H p = none) (d : DqAll W.K G vs xs) : Q (.ref p) (upd H p (.lst vs)) := by
  refine h (.ref p) G _ (Tr.newH l n) ⟨⟨p, vs, rfl, upd_same, l.gn n, d⟩, fun _ q e => ?_, fun _ z => by cases z⟩
  cases e
  exact ⟨notOwn l n, .inl n⟩
theorem Go.dct {W : Wd} {E : XK} {G H : Hp} {ρ : List SV} {σ : St} {Q : VK} {t : Bool} {ks : List PyData} {p : Addr} {o : HO} (l : Lk W G H ρ σ) (h : Go W E (.ok (.dc t ks) ρ) ρ σ G H Q) (n : H p = none) (d : DicAt t (upd H p o) p ks) : Q (.ref p) (upd H p o) := by
  refine h (.ref p) G _ (Tr.newH l n) ⟨⟨p, rfl, d, l.gn n⟩, fun _ q e => ?_, fun _ z => by cases z⟩
  cases e
  exact ⟨notOwn l n, .inl n⟩
theorem Go.d {W : Wd} {E : XK} {G H : Hp} {ρ : List SV} {σ : St} {Q : VK} {x : PyData} {v : V} (l : Lk W G H ρ σ) (h : Go W E (.ok (.d x) ρ) ρ σ G H Q) (d : Dq W.K G v x) : Q v H :=
  h v G H (Tr.refl l) ⟨⟨v, rfl, d⟩, fun z => (by cases z), fun _ z => (by cases z)⟩
theorem GoD.d {W : Wd} {E : XK} {G H : Hp} {ρ : List SV} {σ : St} {Q : VK} {x : PyData} {v : V} (l : Lk W G H ρ σ) (h : GoD W E (.ok x ρ) ρ σ G H Q) (d : Dq W.K G v x) : Q v H :=
  h v G H (Tr.refl l) d
theorem GoD.tup {W : Wd} {E : XK} {G H : Hp} {ρ : List SV} {σ : St} {Q : VK} {xs : List PyData} {vs : List V} {p : Addr} (l : Lk W G H ρ σ) (h : GoD W E (.ok (.tuple xs) ρ) ρ σ G H Q) (n : H p = none) (d : DqAll W.K G vs xs) : Q (.ref p) (upd H p (.tup vs)) :=
  h (.ref p) _ _ (Tr.newG l n (fun _ z => by cases z)) (.tup upd_same (DqAll.mono (Sub.self (l.gn n)) d))

/-! ### the context -/
structure Kx (X : Cx) (W : Wd) (E : XK) (k : Nat) : Prop where
  K : X.K = W.K
  calm : X.calm = true
  nd : X.N.Nodup
  room : Room k X.A
  pas : Passes (L2.CX X.prog X.w) X E
theorem Kx.hu {X : Cx} {W : Wd} {E : XK} {k : Nat} (c : Kx X W E k) : X.A.units + 65 < cLine := by have := c.room.un; omega
theorem Kx.blk {X : Cx} {W : Wd} {E : XK} {k : Nat} (c : Kx X W E k) {s : Shared} {H : Hp} {scope : Scope} {cenv : Env} {fp : List Addr} : Kx (X.blk s H scope cenv fp) W E0 k :=
  ⟨c.K, c.calm, c.nd, c.room, fun _ _ _ _ _ _ _ h => by
    obtain ⟨_, _, _, _, _, _, _, _, _, _, _, _, z⟩ := h
    exact z⟩

/-! ### freezing -/
def frz : SV → SV
  | .ls xs => .d (.list xs)
  | .dc t ks => .fd t ks
  | w => w
def toDO : SV → Option PyData
  | .d x => some x
  | .ls xs => some (.list xs)
  | _ => none
def toD (f : M SV) : M PyData := M.bind f fun w => ofO (toDO w)
def toV (f : M PyData) : M SV := M.bind f fun x => ret (.d x)
/-- a list result freezes -/
theorem q_d {X : Cx} {W : Wd} {E : XK} {e : Expr} {f : M SV} (h : PE X e (tV W E f)) : PE X e (tD W E (toD f)) := by
  refine Nb.PE.imp h fun σ H Q ⟨G, ρ, l, g⟩ => ⟨G, ρ, l, ?_⟩
  unfold toD M.bind at g
  cases q : f ρ with
  | fail => rw [q] at g; exact g
  | exn c => rw [q] at g; exact g
  | ok w ρ1 =>
    rw [q] at g
    intro v G1 H1 a rk
    cases w with
    | d x =>
      obtain ⟨⟨v', e', d⟩, _, _⟩ := rk
      cases e'
      exact g v G1 H1 a d
    | ls xs =>
      obtain ⟨⟨p, vs, e', h1, h2, d⟩, ho, _⟩ := rk
      cases e'
      obtain ⟨no, nw⟩ := ho rfl p rfl
      -- freeze p
      have lk' : Lk W (upd G1 p (.lst vs)) H1 ρ1 σ := by
        refine ⟨fun b o e => ?_, fun b ps e => ?_, a.lk.len, fun i w ov e1 e2 => ?_, a.lk.sep, a.lk.tabs⟩
        · by_cases hb : b = p
          · subst hb; rw [upd_same] at e; cases e; exact h1
          · rw [upd_ne hb] at e; exact a.lk.sub b o e
        · by_cases hb : b = p
          · subst hb; rw [upd_same] at e; cases e
          · rw [upd_ne hb] at e; exact a.lk.gt b ps e
        · refine (a.lk.slot i w ov e1 e2).mono (Sub.self h2) (fun _ _ _ _ z _ => z) fun q hw e z => ?_
          have : q ≠ p := fun z' => no ⟨i, w, e1, hw, by rw [e2, e, z']⟩
          rw [upd_ne this]; exact z
      have tr : Tr W ρ σ G H ρ1 σ (upd G1 p (.lst vs)) H1 := by
        refine ⟨lk', ⟨a.fr.keep, a.fr.tbl, fun b o e => Sub.self h2 b o (a.fr.gsub b o e), fun b o e => ?_⟩, a.onew, a.brs⟩
        by_cases hb : b = p
        · subst hb
          rcases nw with z | z
          · exact .inr (.inl z)
          · exact .inr (.inr (.inl z))
        · rw [upd_ne hb] at e; exact a.fr.gnew b o e
      exact g (.ref p) _ H1 tr (.lst upd_same (DqAll.mono (Sub.self h2) d))
    | un => exact g.elim
    | br xs => exact g.elim
    | dc t ks => exact g.elim
    | fd t ks => exact g.elim
    | fn F => exact g.elim
end Nb

set_option Elab.async false
set_option linter.all false
set_option maxRecDepth 100000
set_option maxHeartbeats 4000000
namespace Nb
open PySem PySem.Spec L2
/-! ### data, once more -/
mutual
theorem plain_of_lay : ∀ {d : PyData}, d.canLay0 = true → plainD d = true
  | .none, _ => rfl
  | .bool b, _ => rfl
  | .int i, _ => rfl
  | .str x, _ => rfl
  | .list ds, h => by simp only [plainD]; exact plainAll_of_lay (by simpa only [PyData.canLay0] using h)
  | .tuple ds, h => by simp only [plainD]; exact plainAll_of_lay (by simpa only [PyData.canLay0] using h)
  | .dict _, h => by simp [PyData.canLay0] at h
theorem plainAll_of_lay : ∀ {ds : List PyData}, PyData.canLayAll0 ds = true → plainAll ds = true
  | [], _ => rfl
  | d :: ds, h => by
    have h' : d.canLay0 = true ∧ PyData.canLayAll0 ds = true := by simpa only [PyData.canLayAll0, Bool.and_eq_true] using h
    simp only [plainAll, Bool.and_eq_true]
    exact ⟨plain_of_lay h'.1, plainAll_of_lay h'.2⟩
end
theorem Dq.dps {K : PySem.W.Frag} {G : Hp} {d : PyData} {v : V} (h : Dq K G v d) (s : SeqAt.shaped d = true) : Dp K G v d := h.dp (plain_of_lay (SeqAt.canLay_of_shaped s))
/-- data at a value now: it stays, or a list whose items stay -/
def Pk (K : PySem.W.Frag) (G H : Hp) (v : V) (x : PyData) : Prop := Dq K G v x ∨ ∃ p vs xs, v = .ref p ∧ x = .list xs ∧ H p = some (.lst vs) ∧ DqAll K G vs xs
theorem Pk.dq {K : PySem.W.Frag} {G H : Hp} {v : V} {x : PyData} (s : Sub G H) (h : Pk K G H v x) : Dq K H v x := by
  rcases h with h | ⟨p, vs, xs, rfl, rfl, h1, h2⟩
  · exact h.mono s
  · exact .lst h1 (DqAll.mono s h2)
theorem Pk.list {K : PySem.W.Frag} {G H : Hp} {v : V} {xs : List PyData} (s : Sub G H) (h : Pk K G H v (.list xs)) : ∃ p vs, v = .ref p ∧ H p = some (.lst vs) ∧ DqAll K G vs xs := by
  rcases h with h | ⟨p, vs, xs', rfl, e, h1, h2⟩
  · cases h with
    | lst hs ha => exact ⟨_, _, rfl, s _ _ hs, ha⟩
  · cases e; exact ⟨_, _, rfl, h1, h2⟩
theorem Dq.tup_inv {K : PySem.W.Frag} {G : Hp} {v : V} {xs : List PyData} (h : Dq K G v (.tuple xs)) : ∃ a vs, v = .ref a ∧ G a = some (.tup vs) ∧ DqAll K G vs xs := by
  cases h with
  | tup hs ha => exact ⟨_, _, rfl, hs, ha⟩
theorem Dq.lst_inv {K : PySem.W.Frag} {G : Hp} {v : V} {xs : List PyData} (h : Dq K G v (.list xs)) : ∃ a vs, v = .ref a ∧ G a = some (.lst vs) ∧ DqAll K G vs xs := by
  cases h with
  | lst hs ha => exact ⟨_, _, rfl, hs, ha⟩
theorem Pk.tup {K : PySem.W.Frag} {G H : Hp} {v : V} {xs : List PyData} (h : Pk K G H v (.tuple xs)) : ∃ a vs, v = .ref a ∧ G a = some (.tup vs) ∧ DqAll K G vs xs := by
  rcases h with h | ⟨p, vs, xs', _, e, _⟩
  · exact h.tup_inv
  · cases e
def peekO : SV → Option PyData
  | .d x => some x
  | .ls xs => some (.list xs)
  | .br xs => some (.list xs)
  | _ => none
def peek (i : Nat) : M PyData := fun ρ => match ρ[i]? with
  | some w => match peekO w with
    | some x => .ok x ρ
    | none => .fail
  | none => .fail
theorem peek_ok {i : Nat} {ρ ρ' : List SV} {x : PyData} (h : peek i ρ = .ok x ρ') : ρ' = ρ ∧ ∃ w, ρ[i]? = some w ∧ peekO w = some x := by
  unfold peek at h
  cases e : ρ[i]? with
  | none => rw [e] at h; cases h
  | some w =>
    rw [e] at h
    simp only at h
    cases e2 : peekO w with
    | none => rw [e2] at h; cases h
    | some y => rw [e2] at h; cases h; exact ⟨rfl, w, rfl, e2⟩
theorem peek_no {i : Nat} {ρ : List SV} {c : Exn} (h : peek i ρ = .exn c) : False := by
  unfold peek at h
  cases e : ρ[i]? with
  | none => rw [e] at h; cases h
  | some w =>
    rw [e] at h
    simp only at h
    cases e2 : peekO w with
    | none => rw [e2] at h; cases h
    | some y => rw [e2] at h; cases h
theorem Lk.peek {W : Wd} {G H : Hp} {ρ : List SV} {σ : L2.St} (l : Lk W G H ρ σ) {i : Nat} {w : SV} {x : PyData} (e : ρ[i]? = some w) (h : peekO w = some x) : ∃ v, σ[i]? = some (some v) ∧ Pk W.K G H v x := by
  have hi : i < σ.length := by rw [← l.len]; exact (List.getElem?_eq_some_iff.mp e).1
  have s := l.slot i w _ e (List.getElem?_eq_getElem hi)
  have e2 : σ[i]? = some σ[i] := List.getElem?_eq_getElem hi
  cases w with
  | d y =>
    cases h
    obtain ⟨v, q, d⟩ := s
    exact ⟨v, by rw [e2, q], .inl d⟩
  | ls xs =>
    cases h
    obtain ⟨p, vs, q, h1, h2, d⟩ := s
    exact ⟨.ref p, by rw [e2, q], .inr ⟨p, vs, xs, rfl, rfl, h1, d⟩⟩
  | br xs =>
    cases h
    obtain ⟨p, vs, q, h1, h2, d⟩ := s
    exact ⟨.ref p, by rw [e2, q], .inr ⟨p, vs, xs, rfl, rfl, h1, d⟩⟩
  | un => cases h
  | dc t ks => cases h
  | fd t ks => cases h
  | fn F => cases h

/-! ### names, constants -/
/-- a name as a value: a list of one's own stays from now on -/
def getD (i : Nat) : M PyData := fun ρ => match ρ[i]? with
  | some (.d x) => .ok x ρ
  | some (.ls xs) => .ok (.list xs) (ρ.set i (.d (.list xs)))
  | _ => .fail
/-- a dict, as a value -/
def getF (i : Nat) : M SV := fun ρ => match ρ[i]? with
  | some (.dc t ks) => .ok (.fd t ks) (ρ.set i (.fd t ks))
  | some (.fd t ks) => .ok (.fd t ks) ρ
  | some (.fn F) => .ok (.fn F) ρ
  | _ => .fail
/-- a slot's content exchanged for what stands in the heap alike -/
theorem Tr.setSlot {W : Wd} {G H G' : Hp} {ρ : List SV} {σ : L2.St} (l : Lk W G H ρ σ) {i : Nat} {w w' : SV} {p : Addr} {o : HO} (e : ρ[i]? = some w) (hw : w.isOwn = true) (nb : ∀ xs, w ≠ .br xs) (hw' : w'.isOwn = false) (es : σ[i]? = some (some (.ref p))) (hp : H p = some o) (nt : ∀ ps, o ≠ .tbl ps)
    (gp : G p = none) (eG : G' = upd G p o) (s : SOk W G' H w' (some (.ref p))) : Tr W ρ σ G H (ρ.set i w') σ G' H := by
  subst eG
  have hi : i < ρ.length := (List.getElem?_eq_some_iff.mp e).1
  have own : OwnS ρ σ p := ⟨i, w, e, hw, es⟩
  have sep : ∀ j u, j ≠ i → ρ[j]? = some u → u.isOwn = true → σ[j]? ≠ some (some (V.ref p)) := fun j u hj ej hu z => l.sep j i u w p hj ej e hu hw z es
  have slots : ∀ (j : Nat) (u : SV), (ρ.set i w')[j]? = some u → (j = i ∧ u = w') ∨ (j ≠ i ∧ ρ[j]? = some u) := fun j u ej => by
    by_cases hj : j = i
    · subst hj
      rw [List.getElem?_set_self hi] at ej
      cases ej
      exact .inl ⟨rfl, rfl⟩
    · rw [List.getElem?_set_ne (Ne.symm hj)] at ej
      exact .inr ⟨hj, ej⟩
  refine ⟨⟨fun b u eb => ?_, fun b ps eb => ?_, by rw [List.length_set]; exact l.len, fun j u ov ej eo => ?_, fun j k wj wk q hjk ej ek hj hk sj sk => ?_, l.tabs⟩, ⟨fun b u eb _ _ => eb, fun b ps eb => ⟨ps, eb⟩, Sub.self gp, fun b u eb => ?_⟩, fun b ⟨j, u, ej, hu, sj⟩ => ?_, fun j xs ej => ?_⟩
  · by_cases hb : b = p
    · subst hb; rw [upd_same] at eb; cases eb; exact hp
    · rw [upd_ne hb] at eb; exact l.sub b u eb
  · by_cases hb : b = p
    · subst hb; rw [upd_same] at eb; cases eb; exact nt ps rfl
    · rw [upd_ne hb] at eb; exact l.gt b ps eb
  · rcases slots j u ej with ⟨rfl, rfl⟩ | ⟨hj, ej⟩
    · rw [es] at eo; cases eo; exact s
    · refine (l.slot j u ov ej eo).mono (Sub.self gp) (fun _ _ _ _ z _ => z) fun q hu eq z => ?_
      have : q ≠ p := fun z' => sep j u hj ej hu (by rw [eo, eq, z'])
      rw [upd_ne this]; exact z
  · rcases slots j wj ej with ⟨rfl, rfl⟩ | ⟨hj', ej⟩
    · rw [hw'] at hj; cases hj
    · rcases slots k wk ek with ⟨rfl, rfl⟩ | ⟨hk', ek⟩
      · rw [hw'] at hk; cases hk
      · exact l.sep j k wj wk q hjk ej ek hj hk sj sk
  · by_cases hb : b = p
    · subst hb; exact .inr (.inr (.inl own))
    · rw [upd_ne hb] at eb; exact .inl eb
  · rcases slots j u ej with ⟨rfl, rfl⟩ | ⟨hj, ej⟩
    · rw [hw'] at hu; cases hu
    · exact .inr ⟨j, u, ej, hu, sj⟩
  · have hj : j ≠ i := fun z => by
      subst z
      rw [e] at ej; cases ej
      exact nb xs rfl
    exact ⟨xs, by rw [List.getElem?_set_ne (Ne.symm hj)]; exact ej, rfl⟩
section
variable {X : Cx} {W : Wd} {E : XK} {k : Nat}
theorem slotAt {G H : Hp} {ρ : List SV} {σ : L2.St} {w : SV} {i : Nat} (l : Lk W G H ρ σ) (e : ρ[i]? = some w) : ∃ ov, σ[i]? = some ov ∧ SOk W G H w ov := by
  have hi : i < σ.length := by rw [← l.len]; exact (List.getElem?_eq_some_iff.mp e).1
  exact ⟨_, List.getElem?_eq_getElem hi, l.slot i w _ e (List.getElem?_eq_getElem hi)⟩
theorem q_name (i : Nat) {x : Str} {pos : Pos} (hN : X.N[i]? = some x) (hv : Vis X.env.scope x) (hd : (x == ("__debug__" : Str)) = false := by decide) (hcd : (x == ("__classdict__" : Str)) = false := by decide) : PE X (.Name x pos) (tD W E (getD i)) := by
  refine Nb.PE.imp (pe_var hN hv hd hcd) fun σ H Q ⟨G, ρ, l, g⟩ => ?_
  unfold getD at g
  cases e : ρ[i]? with
  | none => rw [e] at g; exact g.elim
  | some w =>
    rw [e] at g
    obtain ⟨ov, es, s⟩ := slotAt l e
    cases w with
    | d x =>
      obtain ⟨v, rfl, d⟩ := s
      exact ⟨v, es, GoD.d l g d⟩
    | ls xs =>
      obtain ⟨p, vs, rfl, h1, h2, d⟩ := s
      refine ⟨.ref p, es, g (.ref p) (upd G p (.lst vs)) H ?_ (.lst upd_same (DqAll.mono (Sub.self h2) d))⟩
      exact Tr.setSlot l e rfl (fun _ z => by cases z) rfl es h1 (fun _ z => by cases z) h2 rfl ⟨.ref p, rfl, .lst upd_same (DqAll.mono (Sub.self h2) d)⟩
    | un => exact g.elim
    | br xs => exact g.elim
    | dc t ks => exact g.elim
    | fd t ks => exact g.elim
    | fn F => exact g.elim
theorem q_nameF (i : Nat) {x : Str} {pos : Pos} (hN : X.N[i]? = some x) (hv : Vis X.env.scope x) (hd : (x == ("__debug__" : Str)) = false := by decide) (hcd : (x == ("__classdict__" : Str)) = false := by decide) : PE X (.Name x pos) (tV W E (getF i)) := by
  refine Nb.PE.imp (pe_var hN hv hd hcd) fun σ H Q ⟨G, ρ, l, g⟩ => ?_
  unfold getF at g
  cases e : ρ[i]? with
  | none => rw [e] at g; exact g.elim
  | some w =>
    rw [e] at g
    obtain ⟨ov, es, s⟩ := slotAt l e
    cases w with
    | dc t ks =>
      obtain ⟨p, rfl, h1, h2⟩ := s
      obtain ⟨o, ho, nt⟩ := h1.some
      have h3 : DicAt t (upd G p o) p ks := h1.at fun o' e' => by rw [ho] at e'; cases e'; exact upd_same
      refine ⟨.ref p, es, g (.ref p) (upd G p o) H ?_ ⟨⟨p, rfl, h3⟩, fun z => (by cases z), fun _ z => (by cases z)⟩⟩
      exact Tr.setSlot l e rfl (fun _ z => by cases z) rfl es ho nt h2 rfl ⟨p, rfl, h3⟩
    | fd t ks =>
      obtain ⟨p, rfl, h1⟩ := s
      exact ⟨.ref p, es, g _ G H (Tr.refl l) ⟨⟨p, rfl, h1⟩, fun z => (by cases z), fun _ z => (by cases z)⟩⟩
    | fn F =>
      obtain ⟨v, rfl, h1⟩ := s
      exact ⟨v, es, g _ G H (Tr.refl l) ⟨⟨v, rfl, h1⟩, fun z => (by cases z), fun _ z => (by cases z)⟩⟩
    | un => exact g.elim
    | br xs => exact g.elim
    | d x => exact g.elim
    | ls xs => exact g.elim
theorem q_int {i : Int} {j pos} : PE X (.Constant (.int i) j pos) (tD W E (ret (.int i))) := Nb.PE.imp pe_int fun σ H Q ⟨G, ρ, l, g⟩ => GoD.d l g (.int i)
theorem q_bl {i : Bool} {j pos} : PE X (.Constant (.bool i) j pos) (tD W E (ret (.bool i))) := Nb.PE.imp pe_bl fun σ H Q ⟨G, ρ, l, g⟩ => GoD.d l g (.bl i)
theorem q_non {j pos} : PE X (.Constant .none j pos) (tD W E (ret .none)) := Nb.PE.imp pe_non fun σ H Q ⟨G, ρ, l, g⟩ => GoD.d l g .non
theorem q_str {x : Str} {j pos} : PE X (.Constant (.str x) j pos) (tD W E (ret (.str x))) := Nb.PE.imp pe_str fun σ H Q ⟨G, ρ, l, g⟩ => GoD.d l g (.str x)
/-- a constant of the module -/
theorem q_glob {x : Str} {u : Value} {v : V} {d : PyData} {pos : Pos} (hg : Gl X x) (hm : X.mg x = some u) (r : RelV v u) (hd : ∀ G, Dq W.K G v d) (hdb : (x == ("__debug__" : Str)) = false := by decide) : PE X (.Name x pos) (tD W E (ret d)) :=
  Nb.PE.imp (pe_glob hg hm r hdb) fun σ H Q ⟨G, ρ, l, g⟩ => GoD.d l g (hd G)

/-! ### argument lists, displays -/
def GoL (W : Wd) (E : XK) (r : Res (List PyData)) (ρ : List SV) (σ : L2.St) (G H : Hp) (Q : List V → Hp → Prop) : Prop := match r with
  | .ok xs ρ' => ∀ vs G' H', Tr W ρ σ G H ρ' σ G' H' → DqAll W.K G' vs xs → Q vs H'
  | .exn c => Wish W E c ρ σ G H
  | .fail => False
def tL (W : Wd) (E : XK) (f : M (List PyData)) : TA := fun σ H Q => ∃ G ρ, Lk W G H ρ σ ∧ GoL W E (f ρ) ρ σ G H Q
theorem GoL.shift {r : Res (List PyData)} {ρ ρ1 : List SV} {σ : L2.St} {G H G1 H1 : Hp} {Q : List V → Hp → Prop} (h : GoL W E r ρ σ G H Q) (a : Tr W ρ σ G H ρ1 σ G1 H1) : GoL W E r ρ1 σ G1 H1 Q := by
  cases r with
  | fail => exact h
  | exn c => exact Wish.shift h a
  | ok w ρ' => exact fun v G' H' b rk => h v G' H' (a.trans b) rk
def consM (f : M PyData) (g : M (List PyData)) : M (List PyData) := M.bind f fun x => M.bind g fun xs => ret (x :: xs)
theorem q_nil : PA X [] (tL W E (ret [])) := ⟨fun pos pins s σ H Q I ⟨G, ρ, l, g⟩ => pa_nil.run pos pins s σ H Q I (g [] G H (Tr.refl l) .nil)⟩
theorem PA.imp {es : List Expr} {t t' : TA} (h : PA X es t) (hi : ∀ σ H Q, t' σ H Q → t σ H Q) : PA X es t' := ⟨fun pos pins s σ H Q I hq => h.run pos pins s σ H Q I (hi σ H Q hq)⟩
theorem q_cons {e : Expr} {es : List Expr} {f : M PyData} {g : M (List PyData)} (h1 : PE X e (tD W E f)) (h2 : PA X es (tL W E g)) (hs : starEach (e :: es) X.env = (false, eval e X.env) :: starEach es X.env := by rfl) : PA X (e :: es) (tL W E (consM f g)) := by
  refine PA.imp (pa_cons h1 h2 hs) fun σ H Q ⟨G, ρ, l, h⟩ => ⟨G, ρ, l, ?_⟩
  unfold consM M.bind at h
  cases e : f ρ with
  | fail => rw [e] at h; exact h
  | exn c => rw [e] at h; exact h
  | ok x ρ1 =>
    rw [e] at h
    intro v G1 H1 a dp
    have h' := GoL.shift h a
    refine ⟨G1, ρ1, a.lk, ?_⟩
    simp only [Res.bind] at h'
    cases e2 : g ρ1 with
    | fail => rw [e2] at h'; exact h'
    | exn c => rw [e2] at h'; exact h'
    | ok xs ρ2 =>
      rw [e2] at h'
      exact fun vs G2 H2 b dps => h' (v :: vs) G2 H2 b (.cons (Dq.mono b.fr.gsub dp) dps)
theorem stepL {f : M (List PyData)} {k : List PyData → M SV} {ρ : List SV} {σ : L2.St} {G H : Hp} {Q : VK} {R : List V → Hp → Prop} (l : Lk W G H ρ σ) (h : Go W E (M.bind f k ρ) ρ σ G H Q)
    (hk : ∀ xs ρ1 vs G1 H1, Tr W ρ σ G H ρ1 σ G1 H1 → DqAll W.K G1 vs xs → Go W E (k xs ρ1) ρ1 σ G1 H1 Q → R vs H1) : tL W E f σ H R := by
  refine ⟨G, ρ, l, ?_⟩
  unfold M.bind at h
  cases e : f ρ with
  | fail => rw [e] at h; exact h
  | exn c => rw [e] at h; exact h
  | ok x ρ1 =>
    rw [e] at h
    exact fun v G1 H1 a dp => hk x ρ1 v G1 H1 a dp (Go.shift (r := k x ρ1) h a)
theorem stepLD {f : M (List PyData)} {k : List PyData → M PyData} {ρ : List SV} {σ : L2.St} {G H : Hp} {Q : VK} {R : List V → Hp → Prop} (l : Lk W G H ρ σ) (h : GoD W E (M.bind f k ρ) ρ σ G H Q)
    (hk : ∀ xs ρ1 vs G1 H1, Tr W ρ σ G H ρ1 σ G1 H1 → DqAll W.K G1 vs xs → GoD W E (k xs ρ1) ρ1 σ G1 H1 Q → R vs H1) : tL W E f σ H R := by
  refine ⟨G, ρ, l, ?_⟩
  unfold M.bind at h
  cases e : f ρ with
  | fail => rw [e] at h; exact h
  | exn c => rw [e] at h; exact h
  | ok x ρ1 =>
    rw [e] at h
    exact fun v G1 H1 a dp => hk x ρ1 v G1 H1 a dp (GoD.shift (r := k x ρ1) h a)
def fits {α β : Type} (xs : List α) (y : M β) : M β := if xs.length ≤ sizeLine then y else failM
def tupM (f : M (List PyData)) : M PyData := M.bind f fun xs => fits xs (ret (.tuple xs))
def lstM (f : M (List PyData)) : M SV := M.bind f fun xs => fits xs (ret (.ls xs))
theorem fits_ok {α : Type} {xs : List α} {y : M SV} {ρ : List SV} {σ : L2.St} {G H : Hp} {Q : VK} (h : Go W E (fits xs y ρ) ρ σ G H Q) : xs.length ≤ sizeLine ∧ Go W E (y ρ) ρ σ G H Q := by
  unfold fits at h
  split at h
  · exact ⟨by assumption, h⟩
  · exact h.elim
theorem fits_okD {α : Type} {xs : List α} {y : M PyData} {ρ : List SV} {σ : L2.St} {G H : Hp} {Q : VK} (h : GoD W E (fits xs y ρ) ρ σ G H Q) : xs.length ≤ sizeLine ∧ GoD W E (y ρ) ρ σ G H Q := by
  unfold fits at h
  split at h
  · exact ⟨by assumption, h⟩
  · exact h.elim
theorem q_tup {es : List Expr} {f : M (List PyData)} {x1 pos} (h : PA X es (tL W E f)) : PE X (.Tuple es x1 pos) (tD W E (tupM f)) := by
  refine Nb.PE.imp (pe_tup h) fun σ H Q ⟨G, ρ, l, g⟩ => ?_
  refine stepLD l g fun xs ρ1 vs G1 H1 a dp g1 => ?_
  obtain ⟨hz, g2⟩ := fits_okD g1
  exact ⟨by rw [DqAll.length dp]; exact hz, fun p np => GoD.tup a.lk g2 np dp⟩
theorem q_lst {es : List Expr} {f : M (List PyData)} {pos} (h : PA X es (tL W E f)) : PE X (.List es pos) (tV W E (lstM f)) := by
  refine Nb.PE.imp (pe_lst h) fun σ H Q ⟨G, ρ, l, g⟩ => ?_
  refine stepL l g fun xs ρ1 vs G1 H1 a dp g1 => ?_
  obtain ⟨hz, g2⟩ := fits_ok g1
  exact ⟨by rw [DqAll.length dp]; exact hz, fun p np => Go.lst a.lk g2 np dp⟩
end
end Nb

set_option Elab.async false
set_option linter.all false
set_option maxRecDepth 100000
set_option maxHeartbeats 4000000
namespace Nb
open PySem PySem.Spec L2
section
variable {X : Cx} {W : Wd} {E : XK} {k : Nat}
/-- a condition -/
def gM {α : Type} (c : Prop) [Decidable c] (y : M α) : M α := fun ρ => if c then y ρ else .fail
theorem gM_ok {c : Prop} [Decidable c] {y : M SV} {ρ : List SV} {σ : L2.St} {G H : Hp} {Q : VK} (h : Go W E (gM c y ρ) ρ σ G H Q) : c ∧ Go W E (y ρ) ρ σ G H Q := by
  unfold gM at h
  by_cases hc : c
  · rw [if_pos hc] at h; exact ⟨hc, h⟩
  · rw [if_neg hc] at h; exact h.elim
theorem gM_okD {c : Prop} [Decidable c] {y : M PyData} {ρ : List SV} {σ : L2.St} {G H : Hp} {Q : VK} (h : GoD W E (gM c y ρ) ρ σ G H Q) : c ∧ GoD W E (y ρ) ρ σ G H Q := by
  unfold gM at h
  by_cases hc : c
  · rw [if_pos hc] at h; exact ⟨hc, h⟩
  · rw [if_neg hc] at h; exact h.elim
/-! ### operators -/
abbrev Op2 := PyData → PyData → M SV
def binM (o : Op2) (f g : M PyData) : M SV := M.bind f fun x => M.bind g fun y => o x y
/-- an operation upon data, by its rule -/
def Law2 (W : Wd) (E : XK) (r : R2) (o : Op2) : Prop := ∀ x y ρ σ G H Q v u, Lk W G H ρ σ → Dq W.K G v x → Dq W.K G u y → Go W E (o x y ρ) ρ σ G H Q → r v u H Q
theorem bin_red {r : R2} {o : Op2} {f g : M PyData} {ta tb : TE} (hr : Law2 W E r o) (hf : ∀ σ H Q, tD W E f σ H Q → ta σ H Q) (hg : ∀ σ H Q, tD W E g σ H Q → tb σ H Q) : ∀ σ H Q, tV W E (binM o f g) σ H Q → tOp r ta tb σ H Q := by
  intro σ H Q ⟨G, ρ, l, h⟩
  refine hf _ _ _ (stepD l h fun x ρ1 v G1 H1 a dx h1 => hg _ _ _ (stepD a.lk h1 fun y ρ2 u G2 H2 b dy h2 => ?_))
  exact hr x y ρ2 σ G2 H2 Q v u b.lk (Dq.mono b.fr.gsub dx) dy h2
theorem q_bin {op : Operator} {r : R2} {o : Op2} {a b : Expr} {f g : M PyData} {pos : Pos} (ho : OpR X (binaryOp op) r) (hr : Law2 W E r o) (hf : PE X a (tD W E f)) (hg : PE X b (tD W E g)) : PE X (.BinOp a op b pos) (tV W E (binM o f g)) :=
  Nb.PE.imp (pe_op ho hf hg) (bin_red hr (fun _ _ _ h => h) fun _ _ _ h => h)
/-- ints -/
def intM (C : Int → Int → Bool) (g : Int → Int → Int) : Op2
  | .int i, .int j => gM (C i j = true) (ret (.d (.int (g i j))))
  | _, _ => failM
theorem law_int {C : Int → Int → Bool} {P : Int → Int → Prop} {g : Int → Int → Int} (h : ∀ i j, C i j = true → P i j) : Law2 W E (rI P fun i j => .int (g i j)) (intM C g) := by
  intro x y ρ σ G H Q v u l dx dy h1
  cases x <;> first | exact h1.elim | skip
  cases y <;> first | exact h1.elim | skip
  rename_i i j
  obtain ⟨hc, h1⟩ := gM_ok h1
  cases dx; cases dy
  exact ⟨i, j, rfl, rfl, h i j hc, Go.d l h1 (.int _)⟩
def subM : Op2 := intM (fun _ _ => true) fun i j => i - j
def fdivM : Op2 := intM (fun _ j => decide (0 < j) && decide (j < 1073741824)) fun i j => i / j
def modM : Op2 := intM (fun _ j => decide (0 < j)) fun i j => i % j
def powM : Op2 := intM (fun i j => decide (0 ≤ j) && decide (j ≤ 1000000) && decide (i.natAbs < 2 ^ 64)) fun i j => i ^ j.toNat
theorem law_sub : Law2 W E (rI (fun _ _ => True) fun i j => .int (i - j)) subM := law_int fun _ _ _ => trivial
theorem op_subC : OpR X (binaryOp .Sub) (rI (fun _ _ => True) fun i j => .int (i - j)) := opI fun _ _ _ _ _ _ _ _ q => PyProof.Rows.sub_int q
theorem q_sub {a b : Expr} {f g : M PyData} {pos : Pos} (hf : PE X a (tD W E f)) (hg : PE X b (tD W E g)) : PE X (.BinOp a .Sub b pos) (tV W E (binM subM f g)) := q_bin op_subC law_sub hf hg
theorem q_fdiv {a b : Expr} {f g : M PyData} {pos : Pos} (hf : PE X a (tD W E f)) (hg : PE X b (tD W E g)) : PE X (.BinOp a .FloorDiv b pos) (tV W E (binM fdivM f g)) :=
  q_bin op_fdiv (law_int fun i j h => by simpa [CDiv] using h) hf hg
theorem q_mod {a b : Expr} {f g : M PyData} {pos : Pos} (hf : PE X a (tD W E f)) (hg : PE X b (tD W E g)) : PE X (.BinOp a .Mod b pos) (tV W E (binM modM f g)) :=
  q_bin op_mod (law_int fun i j h => by simpa using h) hf hg
theorem q_pow {a b : Expr} {f g : M PyData} {pos : Pos} (hf : PE X a (tD W E f)) (hg : PE X b (tD W E g)) : PE X (.BinOp a .Pow b pos) (tV W E (binM powM f g)) :=
  q_bin op_pow (law_int fun i j h => by simp only [Bool.and_eq_true, decide_eq_true_eq] at h; exact ⟨h.1.1, h.1.2, h.2⟩) hf hg
def addM : Op2
  | .int i, .int j => ret (.d (.int (i + j)))
  | .str a, .str b => gM (a.length + b.length ≤ sizeLine) (ret (.d (.str (a ++ b))))
  | .list xs, .list ys => gM (xs.length + ys.length ≤ sizeLine) (ret (.ls (xs ++ ys)))
  | .tuple xs, .tuple ys => gM (xs.length + ys.length ≤ sizeLine) (ret (.d (.tuple (xs ++ ys))))
  | _, _ => failM
def rStrAdd : R2 := fun x y H Q => ∃ i j, x = .str i ∧ y = .str j ∧ i.length + j.length ≤ sizeLine ∧ Q (.str (i ++ j)) H
def rAddA (K : PySem.W.Frag) : R2 := fun x y H Q => rI0 (fun i j => .int (i + j)) x y H Q ∨ rStrAdd x y H Q ∨ rCat x y H Q ∨ rCatA K x y H Q
theorem op_addA : OpR X (binaryOp .Add) (rAddA X.K) := op_add.or (op_add_str.or (op_cat.or op_catA))
theorem Dq.nil_iff {K : PySem.W.Frag} {G : Hp} {xs : List PyData} {vs : List V} (h : DqAll K G vs xs) : vs = [] ↔ xs = [] := by
  have e := DqAll.length h
  constructor
  · intro z; subst z; exact List.eq_nil_of_length_eq_zero e.symm
  · intro z; subst z; exact List.eq_nil_of_length_eq_zero e
theorem law_add (hK : X.K = W.K) : Law2 W E (rAddA X.K) addM := by
  intro x y ρ σ G H Q v u l dx dy h1
  rw [hK]
  cases x with
  | int i =>
    cases y <;> first | exact h1.elim | skip
    cases dx; cases dy
    exact .inl ⟨_, _, rfl, rfl, Go.d l h1 (.int _)⟩
  | str a =>
    cases y <;> first | exact h1.elim | skip
    rename_i b
    obtain ⟨hz, h1⟩ := gM_ok h1
    · cases dx; cases dy
      exact .inr (.inl ⟨_, _, rfl, rfl, hz, Go.d l h1 (.str _)⟩)
  | list xs =>
    cases y <;> first | exact h1.elim | skip
    rename_i ys
    obtain ⟨hz, h1⟩ := gM_ok h1
    · obtain ⟨p, vs, rfl, hp, dp⟩ := Dq.lst_inv dx
      obtain ⟨q, us, rfl, hq, dq⟩ := Dq.lst_inv dy
      exact .inr (.inr (.inl ⟨p, q, vs, us, rfl, rfl, l.sub _ _ hp, l.sub _ _ hq, by rw [DqAll.length dp, DqAll.length dq]; exact hz, fun r nr => Go.lst l h1 nr (DqAll.append dq dp)⟩))
  | tuple xs =>
    cases y <;> first | exact h1.elim | skip
    rename_i ys
    obtain ⟨hz, h1⟩ := gM_ok h1
    · obtain ⟨p, vs, rfl, hp, dp⟩ := Dq.tup_inv dx
      obtain ⟨q, us, rfl, hq, dq⟩ := Dq.tup_inv dy
      refine .inr (.inr (.inr ⟨p, q, vs, us, rfl, rfl, SqT.of (l.sub _ _ hp), SqT.of (l.sub _ _ hq), by rw [DqAll.length dp, DqAll.length dq]; exact hz, fun e => ?_, fun _ e => ?_, fun _ _ r nr => ?_⟩))
      · have e' := (Dq.nil_iff dp).mp e
        subst e'
        exact Go.d l h1 (by rw [List.nil_append]; exact dy)
      · have e' := (Dq.nil_iff dq).mp e
        subst e'
        exact Go.d l h1 (by rw [List.append_nil]; exact dx)
      · exact h1 (.ref r) _ _ (Tr.newG l nr (fun _ z => by cases z)) ⟨⟨_, rfl, .tup upd_same (DqAll.mono (Sub.self (l.gn nr)) (DqAll.append dq dp))⟩, fun z => (by cases z), fun _ z => (by cases z)⟩
  | none => exact h1.elim
  | bool b => exact h1.elim
  | dict d => exact h1.elim
theorem q_add {a b : Expr} {f g : M PyData} {pos : Pos} (c : Kx X W E k) (hf : PE X a (tD W E f)) (hg : PE X b (tD W E g)) : PE X (.BinOp a .Add b pos) (tV W E (binM addM f g)) := q_bin op_addA (law_add c.K) hf hg
def mulM : Op2
  | .int i, .int j => gM ((-(2 ^ 64) < i ∧ i < 2 ^ 64) ∨ (-(2 ^ 64) < j ∧ j < 2 ^ 64)) (ret (.d (.int (i * j))))
  | .list xs, .int j => gM (-(2 ^ 63) ≤ j ∧ j < 2 ^ 63 ∧ xs.length * j.toNat ≤ sizeLine) (ret (.ls (List.replicate j.toNat xs).flatten))
  | .tuple xs, .int j => gM (xs ≠ [] ∧ 2 ≤ j ∧ j ≤ 1000 ∧ xs.length ≤ 1000) (ret (.d (.tuple (List.replicate j.toNat xs).flatten)))
  | _, _ => failM
def rMulA (K : PySem.W.Frag) : R2 := fun x y H Q => rI CMul (fun i j => .int (i * j)) x y H Q ∨ rRep x y H Q ∨ rRepT K x y H Q
theorem op_mulA : OpR X (binaryOp .Mult) (rMulA X.K) := op_mul.or (op_rep.or op_repT)
theorem law_mul (hK : X.K = W.K) : Law2 W E (rMulA X.K) mulM := by
  intro x y ρ σ G H Q v u l dx dy h1
  rw [hK]
  cases x with
  | int i =>
    cases y <;> first | exact h1.elim | skip
    obtain ⟨hz, h1⟩ := gM_ok h1
    · cases dx; cases dy
      exact .inl ⟨_, _, rfl, rfl, hz, Go.d l h1 (.int _)⟩
  | list xs =>
    cases y <;> first | exact h1.elim | skip
    obtain ⟨hz, h1⟩ := gM_ok h1
    · obtain ⟨p, vs, rfl, hp, dp⟩ := Dq.lst_inv dx
      cases dy
      exact .inr (.inl ⟨p, _, vs, rfl, rfl, l.sub _ _ hp, hz.1, hz.2.1, by rw [DqAll.length dp]; exact hz.2.2, fun r nr => Go.lst l h1 nr (DqAll.rep dp _)⟩)
  | tuple xs =>
    cases y <;> first | exact h1.elim | skip
    obtain ⟨hz, h1⟩ := gM_ok h1
    · obtain ⟨p, vs, rfl, hp, dp⟩ := Dq.tup_inv dx
      cases dy
      refine .inr (.inr ⟨p, _, vs, rfl, rfl, SqT.of (l.sub _ _ hp), fun e => hz.1 ((Dq.nil_iff dp).mp e), hz.2.1, hz.2.2.1, by rw [DqAll.length dp]; exact hz.2.2.2, fun r nr => ?_⟩)
      exact h1 (.ref r) _ _ (Tr.newG l nr (fun _ z => by cases z)) ⟨⟨_, rfl, .tup upd_same (DqAll.mono (Sub.self (l.gn nr)) (DqAll.rep dp _))⟩, fun z => (by cases z), fun _ z => (by cases z)⟩
  | none => exact h1.elim
  | bool b => exact h1.elim
  | str d => exact h1.elim
  | dict d => exact h1.elim
theorem q_mul {a b : Expr} {f g : M PyData} {pos : Pos} (c : Kx X W E k) (hf : PE X a (tD W E f)) (hg : PE X b (tD W E g)) : PE X (.BinOp a .Mult b pos) (tV W E (binM mulM f g)) := q_bin op_mulA (law_mul c.K) hf hg

/-! ### comparisons -/
theorem q_cmpR {op : CmpOp} {r : R2} {o : Op2} {a b : Expr} {f g : M PyData} {pos : Pos} (ho : OpR X (compareOp op) r) (hr : Law2 W E r o) (hf : PE X a (tD W E f)) (hg : PE X b (tD W E g)) (hm : behindInMarks op b = false) : PE X (.Compare a [op] [b] pos) (tV W E (binM o f g)) :=
  Nb.PE.imp (pe_cmpR ho hf hg hm) (bin_red hr (fun _ _ _ h => h) fun _ _ _ h => h)
def eqM (n : Bool) : Op2 := fun x y => gM ((SeqAt.shaped x && SeqAt.shaped y) = true) (ret (.d (.bool (if n then !PyData.eqv x y else PyData.eqv x y))))
theorem law_eq (hK : X.K = W.K) : Law2 W E (rEqD X.K) (eqM false) := by
  intro x y ρ σ G H Q v u l dx dy h1
  obtain ⟨hs, h1⟩ := gM_ok h1
  · rw [Bool.and_eq_true] at hs
    rw [hK]
    exact ⟨x, y, (dx.mono l.sub).dps hs.1, (dy.mono l.sub).dps hs.2, hs.1, hs.2, Go.d l h1 (.bl _)⟩
theorem law_ne (hK : X.K = W.K) : Law2 W E (rNeD X.K) (eqM true) := by
  intro x y ρ σ G H Q v u l dx dy h1
  obtain ⟨hs, h1⟩ := gM_ok h1
  · rw [Bool.and_eq_true] at hs
    rw [hK]
    exact ⟨x, y, (dx.mono l.sub).dps hs.1, (dy.mono l.sub).dps hs.2, hs.1, hs.2, Go.d l h1 (.bl _)⟩
def ordM (p : Int → Int → Bool) : Op2
  | .int i, .int j => ret (.d (.bool (p i j)))
  | _, _ => failM
theorem law_ord {p : Int → Int → Bool} : Law2 W E (rI0 fun i j => .bl (p i j)) (ordM p) := by
  intro x y ρ σ G H Q v u l dx dy h1
  cases x <;> first | exact h1.elim | skip
  cases y <;> first | exact h1.elim | skip
  cases dx; cases dy
  exact ⟨_, _, rfl, rfl, Go.d l h1 (.bl _)⟩
/-- the operators' rules by name: eq, ne, lt, le, gt, ge -/
structure Cp (X : Cx) (W : Wd) (E : XK) (op : CmpOp) (o : Op2) : Prop where
  ex : ∃ r, OpR X (compareOp op) r ∧ Law2 W E r o
theorem c_eq (c : Kx X W E k) : Cp X W E .Eq (eqM false) := ⟨_, op_eqD (by have := c.hu; omega), law_eq c.K⟩
theorem c_ne (c : Kx X W E k) : Cp X W E .NotEq (eqM true) := ⟨_, op_neD (by have := c.hu; omega), law_ne c.K⟩
theorem c_lt : Cp X W E .Lt (ordM fun i j => decide (i < j)) := ⟨_, op_lt, law_ord⟩
theorem c_le : Cp X W E .LtE (ordM fun i j => decide (i ≤ j)) := ⟨_, op_le, law_ord⟩
theorem c_gt : Cp X W E .Gt (ordM fun i j => decide (j < i)) := ⟨_, op_gt, law_ord⟩
theorem c_ge : Cp X W E .GtE (ordM fun i j => decide (j ≤ i)) := ⟨_, op_ge, law_ord⟩
def isNM (n : Bool) : Op2 := fun x y => match y with
  | .none => ret (.d (.bool (match x with | .none => !n | _ => n)))
  | _ => failM
theorem law_is : Law2 W E (fun x y H Q => y = .non ∧ Q (.bl (decide (x = .non))) H) (isNM false) := by
  intro x y ρ σ G H Q v u l dx dy h1
  cases y <;> first | exact h1.elim | skip
  cases dy
  refine ⟨rfl, ?_⟩
  cases dx <;> exact Go.d l h1 (.bl _)
theorem law_isn : Law2 W E (fun x y H Q => y = .non ∧ Q (.bl (!decide (x = .non))) H) (isNM true) := by
  intro x y ρ σ G H Q v u l dx dy h1
  cases y <;> first | exact h1.elim | skip
  cases dy
  refine ⟨rfl, ?_⟩
  cases dx <;> exact Go.d l h1 (.bl _)
theorem c_is : Cp X W E .Is (isNM false) := ⟨_, op_isN, law_is⟩
theorem c_isn : Cp X W E .IsNot (isNM true) := ⟨_, op_notN, law_isn⟩
theorem q_cmp {op : CmpOp} {o : Op2} {a b : Expr} {f g : M PyData} {pos : Pos} (h : Cp X W E op o) (hf : PE X a (tD W E f)) (hg : PE X b (tD W E g)) (hm : behindInMarks op b = false := by exact nomark _) : PE X (.Compare a [op] [b] pos) (tV W E (binM o f g)) := by
  obtain ⟨r, h1, h2⟩ := h.ex
  exact q_cmpR h1 h2 hf hg hm
/-- a op b, a the name of the i-th slot, read when b is there -/
def binN (o : Op2) (i : Nat) (g : M PyData) : M SV := M.bind g fun y => M.bind (peek i) fun x => o x y
/-- .. for operations that read what stands now -/
def LawP (W : Wd) (E : XK) (r : R2) (o : Op2) : Prop := ∀ x y ρ σ G H Q v u, Lk W G H ρ σ → Pk W.K G H v x → Dq W.K G u y → Go W E (o x y ρ) ρ σ G H Q → r v u H Q
theorem Fr'.sv {X : Cx} : True := trivial
/-! ### tests -/
def GoB (W : Wd) (E : XK) (r : Res Bool) (ρ : List SV) (σ : L2.St) (G H : Hp) (Q : Bool → Hp → Prop) : Prop := match r with
  | .ok b ρ' => ∀ G' H', Tr W ρ σ G H ρ' σ G' H' → Q b H'
  | .exn c => Wish W E c ρ σ G H
  | .fail => False
def tT (W : Wd) (E : XK) (f : M Bool) : TT := fun σ H Q => ∃ G ρ, Lk W G H ρ σ ∧ GoB W E (f ρ) ρ σ G H Q
theorem GoB.shift {r : Res Bool} {ρ ρ1 : List SV} {σ : L2.St} {G H G1 H1 : Hp} {Q : Bool → Hp → Prop} (h : GoB W E r ρ σ G H Q) (a : Tr W ρ σ G H ρ1 σ G1 H1) : GoB W E r ρ1 σ G1 H1 Q := by
  cases r with
  | fail => exact h
  | exn c => exact Wish.shift h a
  | ok w ρ' => exact fun G' H' b => h G' H' (a.trans b)
theorem stepB {α : Type} {GoX : Res α → List SV → Hp → Hp → Prop} {f : M PyData} {kk : PyData → M α} {ρ : List SV} {σ : L2.St} {G H : Hp} {R : VK} (l : Lk W G H ρ σ) (h : GoX (M.bind f kk ρ) ρ G H)
    (h0 : ∀ ρ G H, ¬ GoX .fail ρ G H) (he : ∀ c ρ G H, GoX (.exn c) ρ G H → Wish W E c ρ σ G H) (hs : ∀ r ρ ρ1 G H G1 H1, GoX r ρ G H → Tr W ρ σ G H ρ1 σ G1 H1 → GoX r ρ1 G1 H1)
    (hk : ∀ x ρ1 v G1 H1, Tr W ρ σ G H ρ1 σ G1 H1 → Dq W.K G1 v x → GoX (kk x ρ1) ρ1 G1 H1 → R v H1) : tD W E f σ H R := by
  refine ⟨G, ρ, l, ?_⟩
  unfold M.bind at h
  cases e : f ρ with
  | fail => rw [e] at h; exact h0 _ _ _ h
  | exn c => rw [e] at h; exact he _ _ _ _ h
  | ok x ρ1 =>
    rw [e] at h
    exact fun v G1 H1 a dp => hk x ρ1 v G1 H1 a dp (hs _ _ _ _ _ _ _ h a)
theorem stepDB {f : M PyData} {kk : PyData → M Bool} {ρ : List SV} {σ : L2.St} {G H : Hp} {Q : Bool → Hp → Prop} {R : VK} (l : Lk W G H ρ σ) (h : GoB W E (M.bind f kk ρ) ρ σ G H Q)
    (hk : ∀ x ρ1 v G1 H1, Tr W ρ σ G H ρ1 σ G1 H1 → Dq W.K G1 v x → GoB W E (kk x ρ1) ρ1 σ G1 H1 Q → R v H1) : tD W E f σ H R :=
  stepB (GoX := fun r ρ G H => GoB W E r ρ σ G H Q) l h (fun _ _ _ h => h) (fun _ _ _ _ h => h) (fun _ _ _ _ _ _ _ h a => GoB.shift h a) hk
theorem stepBB {f : M Bool} {kk : Bool → M Bool} {ρ : List SV} {σ : L2.St} {G H : Hp} {Q R : Bool → Hp → Prop} (l : Lk W G H ρ σ) (h : GoB W E (M.bind f kk ρ) ρ σ G H Q)
    (hk : ∀ x ρ1 G1 H1, Tr W ρ σ G H ρ1 σ G1 H1 → GoB W E (kk x ρ1) ρ1 σ G1 H1 Q → R x H1) : tT W E f σ H R := by
  refine ⟨G, ρ, l, ?_⟩
  unfold M.bind at h
  cases e : f ρ with
  | fail => rw [e] at h; exact h
  | exn c => rw [e] at h; exact h
  | ok x ρ1 =>
    rw [e] at h
    exact fun G1 H1 a => hk x ρ1 G1 H1 a (GoB.shift (r := kk x ρ1) h a)
theorem stepBV {f : M Bool} {kk : Bool → M SV} {ρ : List SV} {σ : L2.St} {G H : Hp} {Q : VK} {R : Bool → Hp → Prop} (l : Lk W G H ρ σ) (h : Go W E (M.bind f kk ρ) ρ σ G H Q)
    (hk : ∀ x ρ1 G1 H1, Tr W ρ σ G H ρ1 σ G1 H1 → Go W E (kk x ρ1) ρ1 σ G1 H1 Q → R x H1) : tT W E f σ H R := by
  refine ⟨G, ρ, l, ?_⟩
  unfold M.bind at h
  cases e : f ρ with
  | fail => rw [e] at h; exact h
  | exn c => rw [e] at h; exact h
  | ok x ρ1 =>
    rw [e] at h
    exact fun G1 H1 a => hk x ρ1 G1 H1 a (Go.shift (r := kk x ρ1) h a)
theorem GoB.b {b : Bool} {ρ : List SV} {σ : L2.St} {G H : Hp} {Q : Bool → Hp → Prop} (l : Lk W G H ρ σ) (h : GoB W E (.ok b ρ) ρ σ G H Q) : Q b H := h G H (Tr.refl l)
/-- a value's truth -/
def truO : PyData → Option Bool
  | .none => some false
  | .bool b => some b
  | .int i => some (i != 0)
  | .str y => if y.length ≤ sizeLine then some ((y.length : Int) != 0) else none
  | .list xs => some (!xs.isEmpty)
  | .tuple xs => some (!xs.isEmpty)
  | .dict _ => none
theorem emp_of {K : PySem.W.Frag} {G : Hp} {xs : List PyData} {vs : List V} (h : DqAll K G vs xs) : vs.isEmpty = xs.isEmpty := by
  cases h <;> rfl
theorem tru_pk {K : PySem.W.Frag} {G H : Hp} {v : V} {x : PyData} {b : Bool} (s : Sub G H) (h : Pk K G H v x) (e : truO x = some b) : TruV K v H b := by
  cases x with
  | none => rcases h with h | ⟨_, _, _, _, z, _⟩; · cases h; cases e; rfl
            · cases z
  | bool c => rcases h with h | ⟨_, _, _, _, z, _⟩; · cases h; cases e; rfl
              · cases z
  | int i => rcases h with h | ⟨_, _, _, _, z, _⟩; · cases h; cases e; rfl
             · cases z
  | str y =>
    rcases h with h | ⟨_, _, _, _, z, _⟩
    · cases h
      have e : (if y.length ≤ sizeLine then some ((y.length : Int) != 0) else Option.none) = some b := e
      by_cases hy : y.length ≤ sizeLine
      · rw [if_pos hy] at e; cases e; exact ⟨hy, rfl⟩
      · rw [if_neg hy] at e; cases e
    · cases z
  | list xs =>
    obtain ⟨p, vs, rfl, hp, d⟩ := Pk.list s h
    cases e
    exact .inl ⟨vs, SqL.of hp, by rw [emp_of d]⟩
  | tuple xs =>
    obtain ⟨p, vs, rfl, hp, d⟩ := Pk.tup h
    cases e
    exact .inr (.inl ⟨vs, SqT.of (s _ _ hp), by rw [emp_of d]⟩)
  | dict d => cases e
def truM (f : M PyData) : M Bool := M.bind f fun x => ofO (truO x)
theorem ofO_go {o : Option Bool} {ρ : List SV} {σ : L2.St} {G H : Hp} {Q : Bool → Hp → Prop} (h : GoB W E (ofO o ρ) ρ σ G H Q) : ∃ b, o = some b ∧ GoB W E (.ok b ρ) ρ σ G H Q := by
  cases o with
  | none => exact h.elim
  | some b => exact ⟨b, rfl, h⟩
theorem t_val (c : Kx X W E k) {e : Expr} {f : M PyData} (h : PE X e (tD W E f)) (he : ∀ whole, isTrue e X.env whole = (do let v ← whole; standAt e.pos; holding [v] (truthy v)) := by intro _; rfl) : PT X e (tT W E (truM f)) := by
  refine Nb.PT.imp (pt_truth h he) fun σ H Q ⟨G, ρ, l, g⟩ => ?_
  refine stepDB l g fun x ρ1 v G1 H1 a dp g1 => ?_
  obtain ⟨b, e1, g2⟩ := ofO_go g1
  rw [c.K]
  exact ⟨b, tru_pk a.lk.sub (.inl dp) e1, GoB.b a.lk g2⟩
theorem peekB {i : Nat} {kk : PyData → M Bool} {ρ : List SV} {σ : L2.St} {G H : Hp} {Q : Bool → Hp → Prop} (l : Lk W G H ρ σ) (h : GoB W E (M.bind (peek i) kk ρ) ρ σ G H Q) : ∃ v x, σ[i]? = some (some v) ∧ Pk W.K G H v x ∧ GoB W E (kk x ρ) ρ σ G H Q := by
  unfold M.bind at h
  cases e : peek i ρ with
  | fail => rw [e] at h; exact h.elim
  | exn c => exact (peek_no e).elim
  | ok x ρ' =>
    rw [e] at h
    obtain ⟨rfl, w, e1, e2⟩ := peek_ok e
    obtain ⟨v, e3, p⟩ := l.peek e1 e2
    exact ⟨v, x, e3, p, h⟩
theorem peekV {i : Nat} {kk : PyData → M SV} {ρ : List SV} {σ : L2.St} {G H : Hp} {Q : VK} (l : Lk W G H ρ σ) (h : Go W E (M.bind (peek i) kk ρ) ρ σ G H Q) : ∃ v x, σ[i]? = some (some v) ∧ Pk W.K G H v x ∧ Go W E (kk x ρ) ρ σ G H Q := by
  unfold M.bind at h
  cases e : peek i ρ with
  | fail => rw [e] at h; exact h.elim
  | exn c => exact (peek_no e).elim
  | ok x ρ' =>
    rw [e] at h
    obtain ⟨rfl, w, e1, e2⟩ := peek_ok e
    obtain ⟨v, e3, p⟩ := l.peek e1 e2
    exact ⟨v, x, e3, p, h⟩
/-- if xs:, while xs: of a name -/
theorem t_name (c : Kx X W E k) (i : Nat) {x : Str} {pos : Pos} (hN : X.N[i]? = some x) (hv : Vis X.env.scope x) (hd : (x == ("__debug__" : Str)) = false := by decide) (hcd : (x == ("__classdict__" : Str)) = false := by decide) : PT X (.Name x pos) (tT W E (truM (peek i))) := by
  refine Nb.PT.imp (pt_truth (pe_var hN hv hd hcd) (by intro _; rfl)) fun σ H Q ⟨G, ρ, l, g⟩ => ?_
  obtain ⟨v, y, e1, p, g1⟩ := peekB l g
  obtain ⟨b, e2, g2⟩ := ofO_go g1
  rw [c.K]
  exact ⟨v, e1, b, tru_pk l.sub p e2, GoB.b l g2⟩
def bolO : SV → Option Bool
  | .d (.bool b) => some b
  | _ => none
/-- a comparison as a test -/
def tstM (f : M SV) : M Bool := M.bind f fun w => ofO (bolO w)
theorem t_cmp {op : CmpOp} {o : Op2} {a b : Expr} {f g : M PyData} {pos : Pos} (h : Cp X W E op o) (hf : PE X a (tD W E f)) (hg : PE X b (tD W E g)) (hm : behindInMarks op b = false := by exact nomark _) : PT X (.Compare a [op] [b] pos) (tT W E (tstM (binM o f g))) := by
  obtain ⟨r, h1, h2⟩ := h.ex
  refine Nb.PT.imp (pt_cmpR h1 hf hg hm) fun σ H Q ⟨G, ρ, l, gg⟩ => ?_
  refine bin_red h2 (fun _ _ _ h => h) (fun _ _ _ h => h) σ H _ ⟨G, ρ, l, ?_⟩
  unfold tstM M.bind at gg
  cases e : binM o f g ρ with
  | fail => rw [e] at gg; exact gg
  | exn c => rw [e] at gg; exact gg
  | ok w ρ1 =>
    rw [e] at gg
    intro v G1 H1 tr rk
    obtain ⟨b, e1, g2⟩ := ofO_go (GoB.shift gg tr)
    cases w <;> first | cases e1 | skip
    rename_i x
    cases x <;> first | cases e1 | skip
    obtain ⟨⟨v', ev, dv⟩, _, _⟩ := rk
    cases ev
    cases dv
    exact ⟨b, rfl, GoB.b tr.lk g2⟩
def andT (f g : M Bool) : M Bool := M.bind f fun b => if b then g else ret false
def orT (f g : M Bool) : M Bool := M.bind f fun b => if b then ret true else g
def notT (f : M Bool) : M Bool := M.bind f fun b => ret (!b)
structure TW (X : Cx) (W : Wd) (E : XK) (e : Expr) (f : M Bool) : Prop where
  pw : PW X e (tT W E f)
theorem PW.imp {e : Expr} {t t' : TT} (h : PW X e t) (hi : ∀ σ H Q, t' σ H Q → t σ H Q) : PW X e t' := ⟨fun wh pins s σ H Q I hq => h.run wh pins s σ H Q I (hi σ H Q hq)⟩
theorem w_and1 {a : Expr} {f : M Bool} {pos : Pos} (h : PT X a (tT W E f)) : TW X W E (.BoolOp .And [a] pos) f := ⟨pw_and1 h⟩
theorem w_or1 {a : Expr} {f : M Bool} {pos : Pos} (h : PT X a (tT W E f)) : TW X W E (.BoolOp .Or [a] pos) f := ⟨pw_or1 h⟩
theorem w_and {a b : Expr} {rest : List Expr} {f g : M Bool} {pos : Pos} (h : PT X a (tT W E f)) (hb : TW X W E (.BoolOp .And (b :: rest) pos) g) : TW X W E (.BoolOp .And (a :: b :: rest) pos) (andT f g) := by
  refine ⟨PW.imp (pw_and h hb.pw) fun σ H Q ⟨G, ρ, l, gg⟩ => ?_⟩
  refine stepBB l gg fun x ρ1 G1 H1 a g1 => ?_
  cases x with
  | true => exact ⟨G1, ρ1, a.lk, g1⟩
  | false => exact GoB.b a.lk g1
theorem w_or {a b : Expr} {rest : List Expr} {f g : M Bool} {pos : Pos} (h : PT X a (tT W E f)) (hb : TW X W E (.BoolOp .Or (b :: rest) pos) g) : TW X W E (.BoolOp .Or (a :: b :: rest) pos) (orT f g) := by
  refine ⟨PW.imp (pw_or h hb.pw) fun σ H Q ⟨G, ρ, l, gg⟩ => ?_⟩
  refine stepBB l gg fun x ρ1 G1 H1 a g1 => ?_
  cases x with
  | true => exact GoB.b a.lk g1
  | false => exact ⟨G1, ρ1, a.lk, g1⟩
theorem t_bool {e : Expr} {f : M Bool} (h : TW X W E e f) : PT X e (tT W E f) := h.pw.pt
theorem t_not {a : Expr} {f : M Bool} {pos : Pos} (h : PT X a (tT W E f)) : PT X (.UnaryOp .Not a pos) (tT W E (notT f)) := by
  refine Nb.PT.imp (pt_not h) fun σ H Q ⟨G, ρ, l, gg⟩ => ?_
  exact stepBB l gg fun x ρ1 G1 H1 a g1 => GoB.b a.lk g1
/-! ### and, or, not of bools as values -/
def andV (f : M PyData) (g : M SV) : M SV := M.bind f fun x => match x with
  | .bool true => g
  | .bool false => ret (.d (.bool false))
  | _ => failM
def orV (f : M PyData) (g : M SV) : M SV := M.bind f fun x => match x with
  | .bool true => ret (.d (.bool true))
  | .bool false => g
  | _ => failM
def notV (f : M PyData) : M PyData := M.bind f fun x => match x with
  | .bool b => ret (.bool (!b))
  | _ => failM
theorem q_one {op} {a : Expr} {f : M SV} {pos : Pos} (h : PE X a (tV W E f)) : PE X (.BoolOp op [a] pos) (tV W E f) := pe_one h
theorem q_and {a b : Expr} {rest : List Expr} {f : M PyData} {g : M SV} {pos : Pos} (h : PE X a (tD W E f)) (hb : PE X (.BoolOp .And (b :: rest) pos) (tV W E g)) : PE X (.BoolOp .And (a :: b :: rest) pos) (tV W E (andV f g)) := by
  refine Nb.PE.imp (pe_and h hb) fun σ H Q ⟨G, ρ, l, gg⟩ => ?_
  refine stepD l gg fun x ρ1 v G1 H1 a dp g1 => ?_
  cases x <;> first | exact g1.elim | skip
  rename_i b
  cases dp
  refine ⟨b, rfl, ?_⟩
  cases b with
  | true => exact ⟨G1, ρ1, a.lk, g1⟩
  | false => exact Go.d a.lk g1 (.bl _)
theorem q_or {a b : Expr} {rest : List Expr} {f : M PyData} {g : M SV} {pos : Pos} (h : PE X a (tD W E f)) (hb : PE X (.BoolOp .Or (b :: rest) pos) (tV W E g)) : PE X (.BoolOp .Or (a :: b :: rest) pos) (tV W E (orV f g)) := by
  refine Nb.PE.imp (pe_or h hb) fun σ H Q ⟨G, ρ, l, gg⟩ => ?_
  refine stepD l gg fun x ρ1 v G1 H1 a dp g1 => ?_
  cases x <;> first | exact g1.elim | skip
  rename_i b
  cases dp
  refine ⟨b, rfl, ?_⟩
  cases b with
  | true => exact Go.d a.lk g1 (.bl _)
  | false => exact ⟨G1, ρ1, a.lk, g1⟩
theorem q_not {a : Expr} {f : M PyData} {pos : Pos} (h : PE X a (tD W E f)) : PE X (.UnaryOp .Not a pos) (tD W E (notV f)) := by
  refine Nb.PE.imp (pe_not h) fun σ H Q ⟨G, ρ, l, gg⟩ => ?_
  refine stepDD l gg fun x ρ1 v G1 H1 a dp g1 => ?_
  cases x <;> first | exact g1.elim | skip
  cases dp
  exact ⟨_, rfl, GoD.d a.lk g1 (.bl _)⟩
/-- a if t else b -/
def iteV (c : M Bool) (f g : M SV) : M SV := M.bind c fun b => if b then f else g
theorem q_if {c a b : Expr} {t : M Bool} {f g : M SV} {pos : Pos} (hc : PT X c (tT W E t)) (ha : PE X a (tV W E f)) (hb : PE X b (tV W E g)) : PE X (.IfExp c a b pos) (tV W E (iteV t f g)) := by
  refine Nb.PE.imp (pe_ifExp hc ha hb) fun σ H Q ⟨G, ρ, l, gg⟩ => ?_
  refine stepBV l gg fun x ρ1 G1 H1 a g1 => ?_
  cases x with
  | true => exact ⟨G1, ρ1, a.lk, g1⟩
  | false => exact ⟨G1, ρ1, a.lk, g1⟩
theorem q_v {e : Expr} {f : M PyData} (h : PE X e (tD W E f)) : PE X e (tV W E (toV f)) := by
  refine Nb.PE.imp h fun σ H Q ⟨G, ρ, l, gg⟩ => ?_
  exact stepD l gg fun x ρ1 v G1 H1 a dp g1 => Go.d a.lk g1 dp
/-! ### chains -/
def chnV (o o' : Op2) (f g h : M PyData) : M SV := M.bind f fun x => M.bind g fun y => M.bind (o x y) fun z => match bolO z with
  | some true => M.bind h fun z' => o' y z'
  | some false => ret (.d (.bool false))
  | none => failM
theorem stepV {f : M SV} {kk : SV → M SV} {ρ : List SV} {σ : L2.St} {G H : Hp} {Q R : VK} (l : Lk W G H ρ σ) (h : Go W E (M.bind f kk ρ) ρ σ G H Q)
    (hk : ∀ x ρ1 v G1 H1, Tr W ρ σ G H ρ1 σ G1 H1 → ROk W ρ σ H ρ1 σ G1 H1 x v → Go W E (kk x ρ1) ρ1 σ G1 H1 Q → R v H1) : Go W E (f ρ) ρ σ G H R := by
  unfold M.bind at h
  cases e : f ρ with
  | fail => rw [e] at h; exact h
  | exn c => rw [e] at h; exact h
  | ok x ρ1 =>
    rw [e] at h
    exact fun v G1 H1 a rk => hk x ρ1 v G1 H1 a rk (Go.shift (r := kk x ρ1) h a)
theorem chn_red {r r' : R2} {o o' : Op2} {f g h : M PyData} (hr : Law2 W E r o) (hr' : Law2 W E r' o') : ∀ σ H Q, tV W E (chnV o o' f g h) σ H Q → tChain r r' (tD W E f) (tD W E g) (tD W E h) σ H Q := by
  intro σ H Q ⟨G, ρ, l, hh⟩
  refine stepD l hh fun x ρ1 v G1 H1 a dx h1 => stepD a.lk h1 fun y ρ2 u G2 H2 b dy h2 => ?_
  refine hr x y ρ2 σ G2 H2 _ v u b.lk (Dq.mono b.fr.gsub dx) dy (stepV b.lk h2 fun z ρ3 zv G3 H3 c3 rk h3 => ?_)
  cases e : bolO z with
  | none => simp only [e] at h3; exact h3.elim
  | some bb =>
    cases z <;> first | cases e | skip
    rename_i zd
    cases zd <;> first | cases e | skip
    obtain ⟨⟨v', ev, dv⟩, _, _⟩ := rk
    cases ev
    cases dv
    refine ⟨bb, rfl, ?_⟩
    cases bb with
    | true => exact stepD c3.lk h3 fun w ρ4 wv G4 H4 d4 dw h4 => hr' y w ρ4 σ G4 H4 Q u wv d4.lk (Dq.mono d4.fr.gsub (Dq.mono c3.fr.gsub dy)) dw h4
    | false => exact Go.d c3.lk h3 (.bl _)
end
end Nb

set_option Elab.async false
set_option linter.all false
set_option maxRecDepth 100000
set_option maxHeartbeats 4000000
namespace Nb
open PySem PySem.Spec L2
section
variable {X : Cx} {W : Wd} {E : XK} {k : Nat}
theorem t_chn {op op' : CmpOp} {o o' : Op2} {a b d : Expr} {f g h : M PyData} {pos : Pos} (h1 : Cp X W E op o) (h2 : Cp X W E op' o') (hf : PE X a (tD W E f)) (hg : PE X b (tD W E g)) (hh : PE X d (tD W E h)) (hm : lastMarks [op, op'] [b, d] = false := by with_unfolding_all rfl) :
    PT X (.Compare a [op, op'] [b, d] pos) (tT W E (tstM (chnV o o' f g h))) := by
  obtain ⟨r, h1, l1⟩ := h1.ex
  obtain ⟨r', h2, l2⟩ := h2.ex
  refine Nb.PT.imp (pt_chain h1 h2 hf hg hh hm) fun σ H Q ⟨G, ρ, l, gg⟩ => ?_
  refine chn_red l1 l2 σ H _ ⟨G, ρ, l, ?_⟩
  unfold tstM M.bind at gg
  cases e : chnV o o' f g h ρ with
  | fail => rw [e] at gg; exact gg
  | exn c => rw [e] at gg; exact gg
  | ok w ρ1 =>
    rw [e] at gg
    intro v G1 H1 tr rk
    obtain ⟨b, e1, g2⟩ := ofO_go (GoB.shift gg tr)
    cases w <;> first | cases e1 | skip
    rename_i x
    cases x <;> first | cases e1 | skip
    obtain ⟨⟨v', ev, dv⟩, _, _⟩ := rk
    cases ev
    cases dv
    exact ⟨b, rfl, GoB.b tr.lk g2⟩
theorem q_chn {op op' : CmpOp} {o o' : Op2} {a b d : Expr} {f g h : M PyData} {pos : Pos} (h1 : Cp X W E op o) (h2 : Cp X W E op' o') (hf : PE X a (tD W E f)) (hg : PE X b (tD W E g)) (hh : PE X d (tD W E h)) (hm : lastMarks [op, op'] [b, d] = false := by with_unfolding_all rfl) :
    PE X (.Compare a [op, op'] [b, d] pos) (tV W E (chnV o o' f g h)) := by
  obtain ⟨r, h1, l1⟩ := h1.ex
  obtain ⟨r', h2, l2⟩ := h2.ex
  exact Nb.PE.imp (pe_chain h1 h2 hf hg hh hm) (chn_red l1 l2)
/-- any reading of a value that is a bool, as a test -/
theorem tst_of {e : Expr} {f : M SV} {t : TE} (h : PT X e (tTest t)) (hi : ∀ σ H Q, tV W E f σ H Q → t σ H Q) : PT X e (tT W E (tstM f)) := by
  refine Nb.PT.imp h fun σ H Q ⟨G, ρ, l, gg⟩ => ?_
  refine hi σ H _ ⟨G, ρ, l, ?_⟩
  unfold tstM M.bind at gg
  cases e : f ρ with
  | fail => rw [e] at gg; exact gg
  | exn c => rw [e] at gg; exact gg
  | ok w ρ1 =>
    rw [e] at gg
    intro v G1 H1 tr rk
    obtain ⟨b, e1, g2⟩ := ofO_go (GoB.shift gg tr)
    cases w <;> first | cases e1 | skip
    rename_i x
    cases x <;> first | cases e1 | skip
    obtain ⟨⟨v', ev, dv⟩, _, _⟩ := rk
    cases ev
    cases dv
    exact ⟨b, rfl, GoB.b tr.lk g2⟩

/-! ### x op name, name op x: the name is read as it stands -/
/-- what stands at a value now -/
def LawR (W : Wd) (E : XK) (r : R2) (o : Op2) : Prop := ∀ x y ρ σ G H Q v u, Lk W G H ρ σ → Dq W.K G v x → Pk W.K G H u y → Go W E (o x y ρ) ρ σ G H Q → r v u H Q
/-- a, then the name -/
def binR (o : Op2) (f : M PyData) (i : Nat) : M SV := M.bind f fun x => M.bind (peek i) fun y => o x y
theorem binR_red {r : R2} {o : Op2} {f : M PyData} {i : Nat} (hr : LawR W E r o) : ∀ σ H Q, tV W E (binR o f i) σ H Q → tOp r (tD W E f) (tVar i) σ H Q := by
  intro σ H Q ⟨G, ρ, l, h⟩
  refine stepD l h fun x ρ1 v G1 H1 a dx h1 => ?_
  obtain ⟨u, y, e, p, h2⟩ := peekV a.lk h1
  exact ⟨u, e, hr x y ρ1 σ G1 H1 Q v u a.lk dx p h2⟩
/-- the name (which must hold something), then b; the name's content is read when b is there -/
def binP (o : Op2) (i : Nat) (g : M PyData) : M SV := M.bind (peek i) fun _ => M.bind g fun y => M.bind (peek i) fun x => o x y
theorem binP_red {r : R2} {o : Op2} {f : M PyData} {i : Nat} (hr : LawP W E r o) : ∀ σ H Q, tV W E (binP o i f) σ H Q → tOp r (tVar i) (tD W E f) σ H Q := by
  intro σ H Q ⟨G, ρ, l, h⟩
  obtain ⟨v, _, e, _, h1⟩ := peekV l h
  refine ⟨v, e, stepD l h1 fun y ρ1 u G1 H1 a dy h2 => ?_⟩
  obtain ⟨v', x, e', p, h3⟩ := peekV a.lk h2
  rw [e] at e'
  cases e'
  exact hr x y ρ1 σ G1 H1 Q v u a.lk p dy h3
theorem LawP.law {r : R2} {o : Op2} (h : LawP W E r o) : Law2 W E r o := fun x y ρ σ G H Q v u l dx dy g => h x y ρ σ G H Q v u l (.inl dx) dy g
theorem LawR.law {r : R2} {o : Op2} (h : LawR W E r o) : Law2 W E r o := fun x y ρ σ G H Q v u l dx dy g => h x y ρ σ G H Q v u l dx (.inl dy) g

/-! ### subscripts -/
def kIx : List (PyData × PyData) → Int → M SV
  | [(.none, .tuple xs)], i => M.bind (ofO (atI xs i)) fun x => ret (.d x)
  | kvs, i => M.bind (ofO (atI kvs i)) fun x => match x with
    | (.int n, .none) => ret (.d (.int n))
    | _ => failM
theorem kIx_scr (ns : List Int) (i : Int) : kIx (ns.map fun n => (PyData.int n, PyData.none)) i = M.bind (ofO (atI (ns.map fun n => (PyData.int n, PyData.none)) i)) fun x => match x with
    | (.int n, .none) => ret (.d (.int n))
    | _ => failM := by
  cases ns with
  | nil => rfl
  | cons n r => cases r <;> rfl
def idxM : Op2
  | .list xs, .int i => M.bind (ofO (atI xs i)) fun x => ret (.d x)
  | .tuple xs, .int i => M.bind (ofO (atI xs i)) fun x => ret (.d x)
  | .str z, .int i => gM (z.length ≤ sizeLine) (M.bind (ofO (atI z.cps.toList i)) fun c => ret (.d (.str ⟨#[c]⟩)))
  | .dict kvs, .int i => kIx kvs i
  | _, _ => failM
theorem ofO_V {α : Type} {o : Option α} {kk : α → M SV} {ρ : List SV} {σ : L2.St} {G H : Hp} {Q : VK} (h : Go W E (M.bind (ofO o) kk ρ) ρ σ G H Q) : ∃ b, o = some b ∧ Go W E (kk b ρ) ρ σ G H Q := by
  cases o with
  | none => exact h.elim
  | some b => exact ⟨b, rfl, h⟩
theorem atI_dq {K : PySem.W.Frag} {G : Hp} {xs : List PyData} {vs : List V} {i : Int} {x : PyData} (d : DqAll K G vs xs) (e : atI xs i = some x) : ∃ v, atI vs i = some v ∧ Dq K G v x := by
  unfold atI at e ⊢
  rw [DqAll.length d]
  cases q : ixN xs.length i with
  | none => rw [q] at e; cases e
  | some j =>
    rw [q] at e
    exact DqAll.get d e
theorem law_idx (hK : X.K = W.K) : LawP W E (rIx X.K) idxM := by
  intro x y ρ σ G H Q v u l px dy h
  rw [hK]
  cases x with
  | list xs =>
    cases y <;> first | exact h.elim | skip
    obtain ⟨x, e, h1⟩ := ofO_V h
    obtain ⟨p, vs, rfl, hp, d⟩ := Pk.list l.sub px
    obtain ⟨w, e2, dw⟩ := atI_dq d e
    cases dy
    exact .inl ⟨p, vs, _, w, rfl, rfl, SqL.of hp, e2, Go.d l h1 dw⟩
  | tuple xs =>
    cases y <;> first | exact h.elim | skip
    obtain ⟨x, e, h1⟩ := ofO_V h
    obtain ⟨p, vs, rfl, hp, d⟩ := Pk.tup px
    obtain ⟨w, e2, dw⟩ := atI_dq d e
    cases dy
    exact .inr (.inl ⟨p, vs, _, w, rfl, rfl, SqT.of (l.sub _ _ hp), e2, Go.d l h1 dw⟩)
  | str z =>
    cases y <;> first | exact h.elim | skip
    obtain ⟨hz, h⟩ := gM_ok h
    obtain ⟨c, e, h1⟩ := ofO_V h
    rcases px with px | ⟨_, _, _, _, q, _⟩
    · cases px
      cases dy
      exact .inr (.inr ⟨z, _, c, rfl, rfl, hz, e, Go.d l h1 (.str _)⟩)
    · cases q
  | dict kvs =>
    cases y <;> first | exact h.elim | skip
    rename_i i
    have h : Go W E (kIx kvs i ρ) ρ σ G H Q := h
    rcases px with px | ⟨_, _, _, _, q, _⟩
    · cases px with
      | @scr p ns _ hs ek =>
        subst ek
        rw [kIx_scr] at h
        obtain ⟨x, e, h1⟩ := ofO_V h
        obtain ⟨a, b⟩ := x
        cases a <;> first | exact h1.elim | skip
        cases b <;> first | exact h1.elim | skip
        rename_i n
        cases dy
        have e2 : atI (ns.map V.int) i = some (.int n) := by
          unfold atI at e ⊢
          rw [List.length_map] at e ⊢
          cases q : ixN ns.length i with
          | none => rw [q] at e; cases e
          | some j =>
            rw [q] at e
            have e : (ns.map fun n => (PyData.int n, PyData.none))[j]? = some (.int n, .none) := e
            show (ns.map V.int)[j]? = some (.int n)
            rw [List.getElem?_map] at e ⊢
            cases q2 : ns[j]? with
            | none => rw [q2] at e; cases e
            | some m => rw [q2] at e; cases e; rfl
        exact .inl ⟨p, _, _, _, rfl, rfl, SqL.mono l.sub hs, e2, Go.d l h1 (.int _)⟩
      | @ktp p vs ds hs d =>
        obtain ⟨x, e, h1⟩ := ofO_V h
        obtain ⟨w, e2, dw⟩ := atI_dq d e
        cases dy
        exact .inr (.inl ⟨p, vs, _, w, rfl, rfl, SqT.mono l.sub hs, e2, Go.d l h1 dw⟩)
    · cases q
  | none => exact h.elim
  | bool b => exact h.elim
  | int i => exact h.elim
theorem q_ix (c : Kx X W E k) {a b : Expr} {f g : M PyData} {pos : Pos} (hf : PE X a (tD W E f)) (hg : PE X b (tD W E g)) (hs : PlainIx b := by intro _ _; rfl) : PE X (.Subscript a b pos) (tV W E (binM idxM f g)) :=
  Nb.PE.imp (pe_ix ix_seq hf hg hs) (bin_red (law_idx c.K).law (fun _ _ _ h => h) fun _ _ _ h => h)
theorem q_ixN (c : Kx X W E k) (i : Nat) {x : Str} {b : Expr} {g : M PyData} {px pos : Pos} (hN : X.N[i]? = some x) (hv : Vis X.env.scope x) (hg : PE X b (tD W E g)) (hs : PlainIx b := by intro _ _; rfl) (hd : (x == ("__debug__" : Str)) = false := by decide) (hcd : (x == ("__classdict__" : Str)) = false := by decide) :
    PE X (.Subscript (.Name x px) b pos) (tV W E (binP idxM i g)) :=
  Nb.PE.imp (pe_ix ix_seq (pe_var hN hv hd hcd) hg hs) (binP_red (law_idx c.K))

/-! ### == and the like, a name on the left -/
theorem law_eqP (hK : X.K = W.K) : LawP W E (rEqD X.K) (eqM false) := by
  intro x y ρ σ G H Q v u l px dy h1
  obtain ⟨hs, h1⟩ := gM_ok h1
  rw [Bool.and_eq_true] at hs
  rw [hK]
  exact ⟨x, y, (px.dq l.sub).dps hs.1, (dy.mono l.sub).dps hs.2, hs.1, hs.2, Go.d l h1 (.bl _)⟩
theorem law_neP (hK : X.K = W.K) : LawP W E (rNeD X.K) (eqM true) := by
  intro x y ρ σ G H Q v u l px dy h1
  obtain ⟨hs, h1⟩ := gM_ok h1
  rw [Bool.and_eq_true] at hs
  rw [hK]
  exact ⟨x, y, (px.dq l.sub).dps hs.1, (dy.mono l.sub).dps hs.2, hs.1, hs.2, Go.d l h1 (.bl _)⟩
structure CpP (X : Cx) (W : Wd) (E : XK) (op : CmpOp) (o : Op2) : Prop where
  ex : ∃ r, OpR X (compareOp op) r ∧ LawP W E r o
theorem cp_eq (c : Kx X W E k) : CpP X W E .Eq (eqM false) := ⟨_, op_eqD (by have := c.hu; omega), law_eqP c.K⟩
theorem cp_ne (c : Kx X W E k) : CpP X W E .NotEq (eqM true) := ⟨_, op_neD (by have := c.hu; omega), law_neP c.K⟩
theorem q_cmpN {op : CmpOp} {o : Op2} (h : CpP X W E op o) (i : Nat) {x : Str} {b : Expr} {g : M PyData} {px pos : Pos} (hN : X.N[i]? = some x) (hv : Vis X.env.scope x) (hg : PE X b (tD W E g)) (hm : behindInMarks op b = false := by exact nomark _)
    (hd : (x == ("__debug__" : Str)) = false := by decide) (hcd : (x == ("__classdict__" : Str)) = false := by decide) : PE X (.Compare (.Name x px) [op] [b] pos) (tV W E (binP o i g)) := by
  obtain ⟨r, h1, h2⟩ := h.ex
  exact Nb.PE.imp (pe_cmpR h1 (pe_var hN hv hd hcd) hg hm) (binP_red h2)
theorem t_cmpN {op : CmpOp} {o : Op2} (h : CpP X W E op o) (i : Nat) {x : Str} {b : Expr} {g : M PyData} {px pos : Pos} (hN : X.N[i]? = some x) (hv : Vis X.env.scope x) (hg : PE X b (tD W E g)) (hm : behindInMarks op b = false := by exact nomark _)
    (hd : (x == ("__debug__" : Str)) = false := by decide) (hcd : (x == ("__classdict__" : Str)) = false := by decide) : PT X (.Compare (.Name x px) [op] [b] pos) (tT W E (tstM (binP o i g))) := by
  obtain ⟨r, h1, h2⟩ := h.ex
  exact tst_of (pt_cmpR h1 (pe_var hN hv hd hcd) hg hm) (binP_red h2)

/-! ### in, not in -/
def rInT (K : PySem.W.Frag) (n : Bool) : R2 := fun x y H Q => ∃ d ds, Dp K H x d ∧ Dp K H y (.tuple ds) ∧ SeqAt.shaped d = true ∧ SeqAt.shaped (.tuple ds) = true ∧ Q (.bl (if n then !(ds.any fun y => PyData.eqv y d) else ds.any fun y => PyData.eqv y d)) H
theorem room_in_tup {A : Around} {d : PyData} {ds : List PyData} (sd : SeqAt.shaped d = true) (hu : A.units + 65 < cLine) : A.units + 1 + min (PyData.depthAll ds) d.depth < cLine := by
  have h1 := SeqAt.depth_of_shaped sd
  have h2 : min (PyData.depthAll ds) d.depth ≤ d.depth := Nat.min_le_right _ _
  omega
theorem op_inT (hu : X.A.units + 65 < cLine) : OpR X (compareOp .In) (rInT X.K false) := by
  intro pins s σ H x y v u Q I rx ry h
  obtain ⟨d, ds, hd, he, sd, se, q⟩ := h
  obtain ⟨as, r1⟩ := Dp.reads I d x v hd rx
  obtain ⟨bs, r2⟩ := Dp.reads I (.tuple ds) y u he ry
  exact SeqAt.in_tuple_reads r2 r1 (by simpa only [PyData.canLay0] using SeqAt.canLay_of_shaped se) (SeqAt.canLay_of_shaped sd) (room_in_tup sd hu) ⟨.bl _, H, I, rfl, q⟩
theorem op_notInT (hu : X.A.units + 65 < cLine) : OpR X (compareOp .NotIn) (rInT X.K true) := by
  intro pins s σ H x y v u Q I rx ry h
  obtain ⟨d, ds, hd, he, sd, se, q⟩ := h
  obtain ⟨as, r1⟩ := Dp.reads I d x v hd rx
  obtain ⟨bs, r2⟩ := Dp.reads I (.tuple ds) y u he ry
  exact SeqAt.notIn_tuple_reads r2 r1 (by simpa only [PyData.canLay0] using SeqAt.canLay_of_shaped se) (SeqAt.canLay_of_shaped sd) (room_in_tup sd hu) ⟨.bl _, H, I, rfl, q⟩
def inB (n : Bool) (b : Bool) : Bool := if n then !b else b
def inM (n : Bool) : Op2
  | x, .list ds => gM ((SeqAt.shaped x && SeqAt.shaped (.list ds)) = true) (ret (.d (.bool (inB n (ds.any fun y => PyData.eqv y x)))))
  | x, .tuple ds => gM ((SeqAt.shaped x && SeqAt.shaped (.tuple ds)) = true) (ret (.d (.bool (inB n (ds.any fun y => PyData.eqv y x)))))
  | .str a, .str b => ret (.d (.bool (inB n (!(Builtin.Str.occurrences b a 0 b.length 1).isEmpty))))
  | _, _ => failM
def rInA (K : PySem.W.Frag) : R2 := fun x y H Q => rInD K x y H Q ∨ rInT K false x y H Q ∨ (∃ i j, x = .str i ∧ y = .str j ∧ Q (.bl (!(Builtin.Str.occurrences j i 0 j.length 1).isEmpty)) H)
def rNotInA (K : PySem.W.Frag) : R2 := fun x y H Q => rNotInD K x y H Q ∨ rInT K true x y H Q ∨ (∃ i j, x = .str i ∧ y = .str j ∧ Q (.bl (!(!(Builtin.Str.occurrences j i 0 j.length 1).isEmpty))) H)
theorem law_in (hK : X.K = W.K) : LawR W E (rInA X.K) (inM false) := by
  intro x y ρ σ G H Q v u l dx py h
  rw [hK]
  cases y with
  | list ds =>
    obtain ⟨hs, h⟩ := gM_ok h
    rw [Bool.and_eq_true] at hs
    exact .inl ⟨x, ds, (dx.mono l.sub).dps hs.1, (py.dq l.sub).dps hs.2, hs.1, hs.2, Go.d l h (.bl _)⟩
  | tuple ds =>
    obtain ⟨hs, h⟩ := gM_ok h
    rw [Bool.and_eq_true] at hs
    exact .inr (.inl ⟨x, ds, (dx.mono l.sub).dps hs.1, (py.dq l.sub).dps hs.2, hs.1, hs.2, Go.d l h (.bl _)⟩)
  | str b =>
    cases x <;> first | exact h.elim | skip
    rcases py with py | ⟨_, _, _, _, q, _⟩
    · cases dx; cases py
      exact .inr (.inr ⟨_, _, rfl, rfl, Go.d l h (.bl _)⟩)
    · cases q
  | none => cases x <;> exact h.elim
  | bool b => cases x <;> exact h.elim
  | int b => cases x <;> exact h.elim
  | dict b => cases x <;> exact h.elim
theorem law_notIn (hK : X.K = W.K) : LawR W E (rNotInA X.K) (inM true) := by
  intro x y ρ σ G H Q v u l dx py h
  rw [hK]
  cases y with
  | list ds =>
    obtain ⟨hs, h⟩ := gM_ok h
    rw [Bool.and_eq_true] at hs
    exact .inl ⟨x, ds, (dx.mono l.sub).dps hs.1, (py.dq l.sub).dps hs.2, hs.1, hs.2, Go.d l h (.bl _)⟩
  | tuple ds =>
    obtain ⟨hs, h⟩ := gM_ok h
    rw [Bool.and_eq_true] at hs
    exact .inr (.inl ⟨x, ds, (dx.mono l.sub).dps hs.1, (py.dq l.sub).dps hs.2, hs.1, hs.2, Go.d l h (.bl _)⟩)
  | str b =>
    cases x <;> first | exact h.elim | skip
    rcases py with py | ⟨_, _, _, _, q, _⟩
    · cases dx; cases py
      exact .inr (.inr ⟨_, _, rfl, rfl, Go.d l h (.bl _)⟩)
    · cases q
  | none => cases x <;> exact h.elim
  | bool b => cases x <;> exact h.elim
  | int b => cases x <;> exact h.elim
  | dict b => cases x <;> exact h.elim
structure CpR (X : Cx) (W : Wd) (E : XK) (op : CmpOp) (o : Op2) : Prop where
  ex : ∃ r, OpR X (compareOp op) r ∧ LawR W E r o
theorem cr_in (c : Kx X W E k) : CpR X W E .In (inM false) := ⟨_, (op_inD c.hu).or ((op_inT c.hu).or op_in_str), law_in c.K⟩
theorem cr_nin (c : Kx X W E k) : CpR X W E .NotIn (inM true) := ⟨_, (op_notInD c.hu).or ((op_notInT c.hu).or op_notin_str), law_notIn c.K⟩
theorem CpR.cp {op : CmpOp} {o : Op2} (h : CpR X W E op o) : Cp X W E op o := by
  obtain ⟨r, h1, h2⟩ := h.ex
  exact ⟨r, h1, h2.law⟩
theorem q_cmpRN {op : CmpOp} {o : Op2} (h : CpR X W E op o) (i : Nat) {x : Str} {a : Expr} {f : M PyData} {px pos : Pos} (hf : PE X a (tD W E f)) (hN : X.N[i]? = some x) (hv : Vis X.env.scope x) (hm : behindInMarks op (.Name x px) = false := by rfl)
    (hd : (x == ("__debug__" : Str)) = false := by decide) (hcd : (x == ("__classdict__" : Str)) = false := by decide) : PE X (.Compare a [op] [.Name x px] pos) (tV W E (binR o f i)) := by
  obtain ⟨r, h1, h2⟩ := h.ex
  exact Nb.PE.imp (pe_cmpR h1 hf (pe_var hN hv hd hcd) hm) (binR_red h2)
theorem t_cmpRN {op : CmpOp} {o : Op2} (h : CpR X W E op o) (i : Nat) {x : Str} {a : Expr} {f : M PyData} {px pos : Pos} (hf : PE X a (tD W E f)) (hN : X.N[i]? = some x) (hv : Vis X.env.scope x) (hm : behindInMarks op (.Name x px) = false := by rfl)
    (hd : (x == ("__debug__" : Str)) = false := by decide) (hcd : (x == ("__classdict__" : Str)) = false := by decide) : PT X (.Compare a [op] [.Name x px] pos) (tT W E (tstM (binR o f i))) := by
  obtain ⟨r, h1, h2⟩ := h.ex
  exact tst_of (pt_cmpR h1 hf (pe_var hN hv hd hcd) hm) (binR_red h2)
end
end Nb

set_option Elab.async false
set_option linter.all false
set_option maxRecDepth 100000
set_option maxHeartbeats 4000000
namespace Nb
open PySem PySem.Spec L2
section
variable {X : Cx} {W : Wd} {E : XK} {k : Nat}
/-! ### a call of a built-in with one argument -/
abbrev Op1 := PyData → M SV
def Law1 (W : Wd) (E : XK) (r : List V → Hp → VK → Prop) (o : Op1) : Prop := ∀ x ρ σ G H Q v, Lk W G H ρ σ → Pk W.K G H v x → Go W E (o x ρ) ρ σ G H Q → r [v] H Q
structure Bi1 (X : Cx) (W : Wd) (E : XK) (x : Str) (o : Op1) : Prop where
  ex : ∃ f r, CallR X f r ∧ Law1 W E r o ∧ bootBuiltins x = some f ∧ ((∃ id, f = .builtin id) ∨ ∃ T, f = .type T) ∧ x ≠ "__name__" ∧ (x == ("__debug__" : Str)) = false
theorem call1_red {r : List V → Hp → VK → Prop} {o : Op1} {f : M PyData} {t : TE} (hr : Law1 W E r o) (hf : ∀ σ H Q, tD W E f σ H Q → t σ H Q) : ∀ σ H Q, tV W E (M.bind f o) σ H Q → tCB r (tCons t tNil) σ H Q := by
  intro σ H Q ⟨G, ρ, l, h⟩
  exact hf _ _ _ (stepD l h fun x ρ1 v G1 H1 a dx h1 => hr x ρ1 σ G1 H1 Q v a.lk (.inl dx) h1)
theorem call1_redN {r : List V → Hp → VK → Prop} {o : Op1} {i : Nat} (hr : Law1 W E r o) : ∀ σ H Q, tV W E (M.bind (peek i) o) σ H Q → tCB r (tCons (tVar i) tNil) σ H Q := by
  intro σ H Q ⟨G, ρ, l, h⟩
  obtain ⟨v, x, e, p, h1⟩ := peekV l h
  exact ⟨v, e, hr x ρ σ G H Q v l p h1⟩
theorem q_bi {x : Str} {o : Op1} {e : Expr} {f : M PyData} {p pos : Pos} (b : Bi1 X W E x o) (hg : Gl X x) (hm : X.mg x = none) (hf : PE X e (tD W E f)) (hs : starEach [e] X.env = (false, eval e X.env) :: starEach [] X.env := by rfl) : PE X (.Call (.Name x p) [e] [] pos) (tV W E (M.bind f o)) := by
  obtain ⟨f, r, h1, h2, h3, h4, h5, h6⟩ := b.ex
  rcases h4 with ⟨id, rfl⟩ | ⟨T, rfl⟩
  · exact Nb.PE.imp (pe_callB h1 hg hm h3 (pa_cons hf pa_nil hs) h5 h6 hs) (call1_red h2 fun _ _ _ h => h)
  · exact Nb.PE.imp (pe_callTy h1 hg hm h3 (pa_cons hf pa_nil hs) h5 h6 hs) (call1_red h2 fun _ _ _ h => h)
theorem q_biN {x y : Str} {o : Op1} {p py pos : Pos} (b : Bi1 X W E x o) (hg : Gl X x) (hm : X.mg x = none) (i : Nat) (hN : X.N[i]? = some y) (hv : Vis X.env.scope y) (hd : (y == ("__debug__" : Str)) = false := by decide) (hcd : (y == ("__classdict__" : Str)) = false := by decide) : PE X (.Call (.Name x p) [.Name y py] [] pos) (tV W E (M.bind (peek i) o)) := by
  obtain ⟨f, r, h1, h2, h3, h4, h5, h6⟩ := b.ex
  rcases h4 with ⟨id, rfl⟩ | ⟨T, rfl⟩
  · exact Nb.PE.imp (pe_callB h1 hg hm h3 (pa_cons (pe_var hN hv hd hcd) pa_nil rfl) h5 h6 rfl) (call1_redN h2)
  · exact Nb.PE.imp (pe_callTy h1 hg hm h3 (pa_cons (pe_var hN hv hd hcd) pa_nil rfl) h5 h6 rfl) (call1_redN h2)
/-! len -/
def lenM : Op1
  | .list xs => ret (.d (.int xs.length))
  | .tuple xs => ret (.d (.int xs.length))
  | .str z => gM (z.length ≤ sizeLine) (ret (.d (.int z.length)))
  | .dict [(.none, .tuple xs)] => ret (.d (.int xs.length))
  | .dict kvs => gM ((kvs.all fun p => match p with | (.int _, .none) => true | _ => false) = true) (ret (.d (.int kvs.length)))
  | _ => failM
theorem law_len (hK : X.K = W.K) : Law1 W E (fun xs H Q => ∃ x n, xs = [x] ∧ LenV X.K x H n ∧ Q (.int n) H) lenM := by
  intro x ρ σ G H Q v l px h
  rw [hK]
  cases x with
  | list xs =>
    obtain ⟨p, vs, rfl, hp, d⟩ := Pk.list l.sub px
    exact ⟨_, xs.length, rfl, .inl ⟨vs, SqL.of hp, (DqAll.length d).symm⟩, Go.d l h (.int _)⟩
  | tuple xs =>
    obtain ⟨p, vs, rfl, hp, d⟩ := Pk.tup px
    exact ⟨_, xs.length, rfl, .inr ⟨vs, SqT.of (l.sub _ _ hp), (DqAll.length d).symm⟩, Go.d l h (.int _)⟩
  | str z =>
    obtain ⟨hz, h⟩ := gM_ok h
    rcases px with px | ⟨_, _, _, _, q, _⟩
    · cases px; exact ⟨_, z.length, rfl, ⟨hz, rfl⟩, Go.d l h (.int _)⟩
    · cases q
  | dict kvs =>
    rcases px with px | ⟨_, _, _, _, q, _⟩
    · cases px with
      | @scr p ns _ hs ek =>
        subst ek
        have h' : Go W E (.ok (.d (.int (ns.length : Nat))) ρ) ρ σ G H Q := by
          cases ns with
          | nil => exact (gM_ok h).2
          | cons n ns =>
            have q := (gM_ok h).2
            have e : (List.map (fun n => (PyData.int n, PyData.none)) (n :: ns)).length = (n :: ns).length := List.length_map _
            simp only [ret, List.length_cons, List.length_map] at q ⊢
            exact q
        exact ⟨_, ns.length, rfl, .inl ⟨_, SqL.mono l.sub hs, (List.length_map _).symm⟩, Go.d l h' (.int _)⟩
      | @ktp p vs ds hs d => exact ⟨_, ds.length, rfl, .inr ⟨vs, SqT.mono l.sub hs, (DqAll.length d).symm⟩, Go.d l h (.int _)⟩
    · cases q
  | none => exact h.elim
  | bool b => exact h.elim
  | int i => exact h.elim
theorem b_len (c : Kx X W E k) : Bi1 X W E "len" lenM := ⟨_, _, call_len, law_len c.K, PySem.boot_len, .inl ⟨_, rfl⟩, by decide, by decide⟩
/-! int of an int, a bool -/
def intcM : Op1
  | .int i => ret (.d (.int i))
  | .bool b => ret (.d (.int (if b then 1 else 0)))
  | _ => failM
theorem law_intc : Law1 W E (fun xs H Q => (∃ i, xs = [.int i] ∧ Q (.int i) H) ∨ ∃ k, xs = [.bl k] ∧ Q (.int (if k then 1 else 0)) H) intcM := by
  intro x ρ σ G H Q v l px h
  rcases px with px | ⟨_, _, _, _, q, _⟩
  · cases px <;> first | exact h.elim | skip
    · rename_i b; exact .inr ⟨b, rfl, Go.d l h (.int _)⟩
    · exact .inl ⟨_, rfl, Go.d l h (.int _)⟩
  · subst q; exact h.elim
theorem b_int : Bi1 X W E "int" intcM := ⟨_, _, call_int1, law_intc, by decide +kernel, .inr ⟨_, rfl⟩, by decide, by decide⟩
/-! sums, max -/
def intsO : List PyData → Option (List Int)
  | [] => some []
  | .int i :: r => (intsO r).map (i :: ·)
  | _ :: _ => none
theorem intsO_eq : ∀ {ds : List PyData} {ns : List Int}, intsO ds = some ns → ds = ns.map PyData.int
  | [], ns, h => by cases h; rfl
  | d :: ds, ns, h => by
    cases d <;> first | cases h | skip
    rename_i i
    have h : (intsO ds).map (i :: ·) = some ns := h
    cases q : intsO ds with
    | none => rw [q] at h; cases h
    | some ms => rw [q] at h; cases h; rw [intsO_eq q]; rfl
theorem intsO_map : ∀ (ns : List Int), intsO (ns.map PyData.int) = some ns
  | [] => rfl
  | n :: ns => by show (intsO (ns.map PyData.int)).map (n :: ·) = _; rw [intsO_map ns]; rfl
def sumM : Op1
  | .list xs => M.bind (ofO (intsO xs)) fun ns => ret (.d (.int ns.sum))
  | _ => failM
theorem law_sum (hK : X.K = W.K) : Law1 W E (rSum X.K) sumM := by
  intro x ρ σ G H Q v l px h
  rw [hK]
  cases x <;> first | exact h.elim | skip
  obtain ⟨ns, e, h1⟩ := ofO_V h
  obtain ⟨p, vs, rfl, hp, d⟩ := Pk.list l.sub px
  rw [intsO_eq e] at d
  rw [DqAll.ints_inv d] at hp
  exact ⟨p, ns, rfl, SqL.of hp, Go.d l h1 (.int _)⟩
theorem b_sum (c : Kx X W E k) : Bi1 X W E "sum" sumM := ⟨_, _, cr_sum c.calm, law_sum c.K, by decide +kernel, .inl ⟨_, rfl⟩, by decide, by decide⟩
def maxI : List Int → Int
  | [] => 0
  | [a] => a
  | a :: r => if maxI r < a then a else maxI r
theorem maxI_le : ∀ {ns : List Int} {y : Int}, y ∈ ns → y ≤ maxI ns
  | [a], y, h => by simp at h; subst h; exact Int.le_refl _
  | a :: b :: r, y, h => by
    have ih := @maxI_le (b :: r)
    show y ≤ if maxI (b :: r) < a then a else maxI (b :: r)
    rcases List.mem_cons.mp h with e | h
    · subst e; split <;> omega
    · have := ih h; split <;> omega
theorem maxI_mem : ∀ {ns : List Int}, ns ≠ [] → maxI ns ∈ ns
  | [], h => absurd rfl h
  | [a], _ => by simp [maxI]
  | a :: b :: r, _ => by
    have ih := @maxI_mem (b :: r) (by simp)
    show (if maxI (b :: r) < a then a else maxI (b :: r)) ∈ _
    split
    · exact List.mem_cons_self
    · exact List.mem_cons_of_mem _ ih
def maxM : Op1
  | .list xs => M.bind (ofO (intsO xs)) fun ns => gM (0 < ns.length) (ret (.d (.int (maxI ns))))
  | _ => failM
theorem law_max (hK : X.K = W.K) : Law1 W E (rMax X.K) maxM := by
  intro x ρ σ G H Q v l px h
  rw [hK]
  cases x <;> first | exact h.elim | skip
  obtain ⟨ns, e, h1⟩ := ofO_V h
  obtain ⟨hn, h2⟩ := gM_ok h1
  obtain ⟨p, vs, rfl, hp, d⟩ := Pk.list l.sub px
  rw [intsO_eq e] at d
  rw [DqAll.ints_inv d] at hp
  refine ⟨p, ns, rfl, SqL.of hp, hn, fun m hm hle => ?_⟩
  have e2 : m = maxI ns := Int.le_antisymm (maxI_le hm) (hle _ (maxI_mem (List.length_pos_iff.mp hn)))
  rw [e2]
  exact Go.d l h2 (.int _)
theorem b_max (c : Kx X W E k) : Bi1 X W E "max" maxM := ⟨_, _, cr_max c.calm, law_max c.K, by decide +kernel, .inl ⟨_, rfl⟩, by decide, by decide⟩
/-! list(x), tuple(x) -/
def listM : Op1
  | .list xs => ret (.ls xs)
  | .tuple xs => ret (.ls xs)
  | _ => failM
theorem law_list (hK : X.K = W.K) : Law1 W E (fun xs H Q => ∃ p ys, xs = [.ref p] ∧ (SqL X.K H p ys ∨ SqT X.K H p ys) ∧ ∀ l, H l = none → Q (.ref l) (upd H l (.lst ys))) listM := by
  intro x ρ σ G H Q v l px h
  rw [hK]
  cases x <;> first | exact h.elim | skip
  · obtain ⟨p, vs, rfl, hp, d⟩ := Pk.list l.sub px
    exact ⟨p, vs, rfl, .inl (SqL.of hp), fun q nq => Go.lst l h nq d⟩
  · obtain ⟨p, vs, rfl, hp, d⟩ := Pk.tup px
    exact ⟨p, vs, rfl, .inr (SqT.of (l.sub _ _ hp)), fun q nq => Go.lst l h nq d⟩
theorem b_list (c : Kx X W E k) : Bi1 X W E "list" listM := ⟨_, _, call_list_of, law_list c.K, by decide +kernel, .inr ⟨_, rfl⟩, by decide, by decide⟩
def tupcM : Op1
  | .list xs => ret (.d (.tuple xs))
  | .tuple xs => ret (.d (.tuple xs))
  | _ => failM
theorem law_tupc (hK : X.K = W.K) : Law1 W E (fun xs H Q => ∃ p ys, xs = [.ref p] ∧ ((SqL X.K H p ys ∧ ∀ l, H l = none → Q (.ref l) (upd H l (.tup ys))) ∨ (SqT X.K H p ys ∧ Q (.ref p) H))) tupcM := by
  intro x ρ σ G H Q v l px h
  rw [hK]
  cases x <;> first | exact h.elim | skip
  · obtain ⟨p, vs, rfl, hp, d⟩ := Pk.list l.sub px
    refine ⟨p, vs, rfl, .inl ⟨SqL.of hp, fun q nq => ?_⟩⟩
    exact h (.ref q) _ _ (Tr.newG l nq (fun _ z => by cases z)) ⟨⟨_, rfl, .tup upd_same (DqAll.mono (Sub.self (l.gn nq)) d)⟩, fun z => (by cases z), fun _ z => (by cases z)⟩
  · obtain ⟨p, vs, rfl, hp, d⟩ := Pk.tup px
    exact ⟨p, vs, rfl, .inr ⟨SqT.of (l.sub _ _ hp), Go.d l h (.tup hp d)⟩⟩
theorem b_tuple (c : Kx X W E k) : Bi1 X W E "tuple" tupcM := ⟨_, _, call_tuple_of, law_tupc c.K, by decide +kernel, .inr ⟨_, rfl⟩, by decide, by decide⟩
/-! list(range(n)), tuple(range(n)) -/
def rgD (a b : Int) : List PyData := (List.range (b - a).toNat).map fun i => PyData.int (a + (i : Nat))
theorem rg_dq (K : PySem.W.Frag) (G : Hp) (a b : Int) : DqAll K G (rgV a b) (rgD a b) := by
  unfold rgV rgD
  induction List.range (b - a).toNat with
  | nil => exact .nil
  | cons i r ih => exact .cons (.int _) ih
def rgOk (a b : Int) : Prop := -(2 ^ 62) ≤ a ∧ a < 2 ^ 62 ∧ -(2 ^ 62) ≤ b ∧ b < 2 ^ 62 ∧ (b - a).toNat ≤ 2 ^ 24
instance (a b : Int) : Decidable (rgOk a b) := by unfold rgOk; infer_instance
def lrgM : Op1
  | .int n => gM (rgOk 0 n) (ret (.ls (rgD 0 n)))
  | _ => failM
def trgM : Op1
  | .int n => gM (rgOk 0 n) (ret (.d (.tuple (rgD 0 n))))
  | _ => failM
theorem q_lrg (c : Kx X W E k) {a : Expr} {f : M PyData} {p p2 pos pos2 : Pos} (hg : Gl X "list") (hm : X.mg "list" = none) (hg2 : Gl X "range") (hm2 : X.mg "range" = none) (hf : PE X a (tD W E f)) (na : starEach [a] X.env = (false, eval a X.env) :: starEach [] X.env := by rfl) :
    PE X (.Call (.Name "list" p) [.Call (.Name "range" p2) [a] [] pos2] [] pos) (tV W E (M.bind f lrgM)) := by
  refine Nb.PE.imp (pe_listRg c.calm hg hm (prg_1 hg2 hm2 hf na)) fun σ H Q ⟨G, ρ, l, h⟩ => ?_
  refine stepD l h fun x ρ1 v G1 H1 a dx h1 => ?_
  cases x <;> first | exact h1.elim | skip
  obtain ⟨hr, h2⟩ := gM_ok h1
  cases dx
  exact ⟨_, rfl, hr, fun q nq => Go.lst a.lk h2 nq (rg_dq _ _ _ _)⟩
theorem q_trg (c : Kx X W E k) {a : Expr} {f : M PyData} {p p2 pos pos2 : Pos} (hg : Gl X "tuple") (hm : X.mg "tuple" = none) (hg2 : Gl X "range") (hm2 : X.mg "range" = none) (hf : PE X a (tD W E f)) (na : starEach [a] X.env = (false, eval a X.env) :: starEach [] X.env := by rfl) :
    PE X (.Call (.Name "tuple" p) [.Call (.Name "range" p2) [a] [] pos2] [] pos) (tV W E (M.bind f trgM)) := by
  refine Nb.PE.imp (pe_tupRg c.calm hg hm (prg_1 hg2 hm2 hf na)) fun σ H Q ⟨G, ρ, l, h⟩ => ?_
  refine stepD l h fun x ρ1 v G1 H1 a dx h1 => ?_
  cases x <;> first | exact h1.elim | skip
  obtain ⟨hr, h2⟩ := gM_ok h1
  cases dx
  refine ⟨_, rfl, hr, fun q nq => ?_⟩
  exact h2 (.ref q) _ _ (Tr.newG a.lk nq (fun _ z => by cases z)) ⟨⟨_, rfl, .tup upd_same (rg_dq _ _ _ _)⟩, fun z => (by cases z), fun _ z => (by cases z)⟩
/-! min of two -/
def min2M (f g : M PyData) : M SV := M.bind f fun x => M.bind g fun y => match x, y with
  | .int i, .int j => ret (.d (.int (if j < i then j else i)))
  | _, _ => failM
/-! isinstance -/
def tyN : PyData → String
  | .none => "NoneType"
  | .bool _ => "bool"
  | .int _ => "int"
  | .str _ => "str"
  | .list _ => "list"
  | .tuple _ => "tuple"
  | .dict [(.none, .tuple _)] => "tuple"
  | .dict _ => "list"
def tyIs (a T : String) : Option Bool := match a, T with
  | "NoneType", "int" => some false | "NoneType", "bool" => some false | "NoneType", "str" => some false | "NoneType", "tuple" => some false | "NoneType", "list" => some false
  | "bool", "int" => some true | "bool", "bool" => some true | "bool", "str" => some false | "bool", "tuple" => some false | "bool", "list" => some false
  | "int", "int" => some true | "int", "bool" => some false | "int", "str" => some false | "int", "tuple" => some false | "int", "list" => some false
  | "str", "int" => some false | "str", "bool" => some false | "str", "str" => some true | "str", "tuple" => some false | "str", "list" => some false
  | "list", "int" => some false | "list", "bool" => some false | "list", "str" => some false | "list", "tuple" => some false | "list", "list" => some true
  | "tuple", "int" => some false | "tuple", "bool" => some false | "tuple", "str" => some false | "tuple", "tuple" => some true | "tuple", "list" => some false
  | _, _ => none
theorem tyIs_kit {a T : String} {b : Bool} (h : tyIs a T = some b) : kitB a T = some b := by
  unfold tyIs at h
  split at h <;> first | (cases h; decide +kernel) | cases h
theorem dq_ty {K : PySem.W.Frag} {G H : Hp} {x : PyData} {v : V} (s : Sub G H) (h : Pk K G H v x) : TyX K H v (.type (tyN x)) := by
  rcases h with h | ⟨p, vs, xs, rfl, rfl, hp, d⟩
  · cases h with
    | non => exact .base .non
    | bl b => exact .base (.bl b)
    | int b => exact .base (.int b)
    | str b => exact .base (.str b)
    | lst hp d => exact .base (.lst (s _ _ hp))
    | tup hp d => exact .base (.tup (s _ _ hp))
    | @scr p ns _ hs ek =>
      subst ek
      have e : tyN (.dict (ns.map fun n => (PyData.int n, PyData.none))) = "list" := by cases ns <;> rfl
      rw [e]
      rcases SqL.mono s hs with (q | ⟨o, q⟩) | ⟨o, its, n, hk, hc, _⟩
      · exact .base (.lst q)
      · exact .base (.frz q)
      · exact .kList hk hc
    | @ktp p vs ds hs d =>
      rcases SqT.mono s hs with (q | ⟨o, q⟩) | ⟨o, its, n, hk, hc, _⟩
      · exact .base (.tup q)
      · exact .fTuple q
      · exact .kTuple hk hc
  · exact .base (.lst hp)
def isiM (T : String) : Op1 := fun x => M.bind (ofO (tyIs (tyN x) T)) fun b => ret (.d (.bool b))
theorem q_isi (T : String) {x : Str} {e : Expr} {f : M PyData} {p p2 pos : Pos} (hg : Gl X "isinstance") (hm : X.mg "isinstance" = none) (hg2 : Gl X x) (hm2 : X.mg x = none) (hv : bootBuiltins x = some (.type T)) (hf : PE X e (tD W E f)) (hK : X.K = W.K)
    (hn : x ≠ "__name__" := by decide) (hd : (x == ("__debug__" : Str)) = false := by decide) (hs : starEach (e :: [.Name x p2]) X.env = (false, eval e X.env) :: starEach [.Name x p2] X.env := by rfl) (hpl : (backTo pos (starEach [.Name x p2] X.env)).any (·.1) = false := by rfl) : PE X (.Call (.Name "isinstance" p) [e, .Name x p2] [] pos) (tV W E (M.bind f (isiM T))) := by
  refine Nb.PE.imp (pe_callB call_isi hg hm PyProof.Rows.boot_isinstance (pa_cons hf (pa_cons (pe_bltn (v := .ty T) hg2 hm2 hv rfl hn hd) pa_nil rfl) hs) (by decide) (by decide) hs hpl) fun σ H Q ⟨G, ρ, l, h⟩ => ?_
  refine stepD l h fun x ρ1 v G1 H1 a dx h1 => ?_
  obtain ⟨b, e1, h2⟩ := ofO_V h1
  refine ⟨v, .ty T, .type (tyN x), .type T, b, rfl, .ty T, ?_, kit_ty (tyIs_kit e1), Go.d a.lk h2 (.bl b)⟩
  rw [hK]
  exact dq_ty a.lk.sub (.inl dx)
/-- isinstance(e, (tuple, list)) -/
def isiTLM : Op1 := fun x => M.bind (ofO (tyIs (tyN x) "tuple")) fun b => M.bind (ofO (tyIs (tyN x) "list")) fun b' => ret (.d (.bool (b || b')))
theorem q_isiTL {e : Expr} {f : M PyData} {p p1 p2 pt pos : Pos} {kt : Nat} (hg : Gl X "isinstance") (hm : X.mg "isinstance" = none) (hg1 : Gl X "tuple") (hm1 : X.mg "tuple" = none) (hg2 : Gl X "list") (hm2 : X.mg "list" = none) (hf : PE X e (tD W E f)) (hK : X.K = W.K)
    (hs : starEach (e :: [.Tuple [.Name "tuple" p1, .Name "list" p2] kt pt]) X.env = (false, eval e X.env) :: starEach [.Tuple [.Name "tuple" p1, .Name "list" p2] kt pt] X.env := by rfl) (hpl : (backTo pos (starEach [.Tuple [.Name "tuple" p1, .Name "list" p2] kt pt] X.env)).any (·.1) = false := by rfl) :
    PE X (.Call (.Name "isinstance" p) [e, .Tuple [.Name "tuple" p1, .Name "list" p2] kt pt] [] pos) (tV W E (M.bind f isiTLM)) := by
  refine Nb.PE.imp (pe_callB call_isiT hg hm PyProof.Rows.boot_isinstance (pa_cons hf (pa_cons (pe_tup (pa_cons (pe_bltn (v := .ty "tuple") hg1 hm1 (by decide +kernel) rfl) (pa_cons (pe_bltn (v := .ty "list") hg2 hm2 (by decide +kernel) rfl) pa_nil rfl) rfl)) pa_nil rfl) hs) (by decide) (by decide) hs hpl) fun σ H Q ⟨G, ρ, l, h⟩ => ?_
  refine stepD l h fun x ρ1 v G1 H1 a dx h1 => ?_
  obtain ⟨b, e1, h2⟩ := ofO_V h1
  obtain ⟨b', e2, h3⟩ := ofO_V h2
  refine ⟨by show 2 ≤ sizeLine; rw [PySem.sizeLine_eq]; omega, fun q nq => ?_⟩
  refine ⟨v, q, [.ty "tuple", .ty "list"], .type (tyN x), [.type "tuple", .type "list"], b || b', rfl, upd_same, .cons (.ty _) (.cons (.ty _) .nil), ?_, ?_, ?_⟩
  · rw [hK]
    exact dq_ty (Sub.put a.lk.sub (a.lk.gn nq)) (.inl dx)
  · refine kitAny_cons (kit_ty (tyIs_kit e1)) (fun eb => ?_) fun eb => by rw [eb]; rfl
    subst eb
    refine kitAny_cons (kit_ty (tyIs_kit e2)) (fun eb => ?_) fun eb => by rw [eb]; rfl
    subst eb
    exact kitAny_nil
  · exact h3 (.bl (b || b')) _ _ (Tr.newH a.lk nq) ⟨⟨_, rfl, .bl _⟩, fun z => (by cases z), fun _ z => (by cases z)⟩
/-! ### slices -/
def GoO (W : Wd) (E : XK) (r : Res (Option Int)) (ρ : List SV) (σ : L2.St) (G H : Hp) (Q : Option Int → Hp → Prop) : Prop := match r with
  | .ok x ρ' => ∀ G' H', Tr W ρ σ G H ρ' σ G' H' → Q x H'
  | .exn c => Wish W E c ρ σ G H
  | .fail => False
def tO (W : Wd) (E : XK) (f : M (Option Int)) : TO := fun σ H Q => ∃ G ρ, Lk W G H ρ σ ∧ GoO W E (f ρ) ρ σ G H Q
theorem PO.imp {e : Option Expr} {t t' : TO} (h : PO X e t) (hi : ∀ σ H Q, t' σ H Q → t σ H Q) : PO X e t' := ⟨fun pins s σ H Q I hq => h.run pins s σ H Q I (hi σ H Q hq)⟩
theorem o_none : PO X none (tO W E (ret none)) := PO.imp po_none fun σ H Q ⟨G, ρ, l, h⟩ => h G H (Tr.refl l)
def partM (f : M PyData) : M (Option Int) := M.bind f fun x => match x with
  | .int i => ret (some i)
  | _ => failM
theorem o_some {e : Expr} {f : M PyData} (hf : PE X e (tD W E f)) : PO X (some e) (tO W E (partM f)) := by
  refine PO.imp (po_some hf) fun σ H Q ⟨G, ρ, l, h⟩ => ⟨G, ρ, l, ?_⟩
  unfold partM M.bind at h
  cases e : f ρ with
  | fail => rw [e] at h; exact h
  | exn c => rw [e] at h; exact h
  | ok x ρ1 =>
    rw [e] at h
    intro v G1 H1 a dx
    cases x <;> first | exact h.elim | skip
    cases dx
    exact ⟨_, rfl, h G1 H1 a⟩
def slcO (x : PyData) (lo hi : Option Int) : M SV := match x with
  | .list xs => ret (.ls ((xs.drop (HT.sIx xs.length 0 lo)).take (HT.sIx xs.length xs.length hi - HT.sIx xs.length 0 lo)))
  | .tuple xs => ret (.d (.tuple ((xs.drop (HT.sIx xs.length 0 lo)).take (HT.sIx xs.length xs.length hi - HT.sIx xs.length 0 lo))))
  | .str z => gM (z.length ≤ sizeLine) (ret (.d (.str (cutS z lo hi))))
  | _ => failM
def slcM (f : M PyData) (lo hi : M (Option Int)) : M SV := M.bind f fun x => M.bind lo fun a => M.bind hi fun b => slcO x a b
def rSlAny (K : PySem.W.Frag) : V → Option Int → Option Int → Hp → VK → Prop := fun x lo hi H Q => rSlL K x lo hi H Q ∨ rSlA K x lo hi H Q ∨ rSlS x lo hi H Q
theorem sl_any : SlR X (rSlAny X.K) := sl_list.or (sl_tupA.or sl_str)
theorem cut_dq {K : PySem.W.Frag} {G : Hp} {xs : List PyData} {vs : List V} {lo hi : Option Int} (d : DqAll K G vs xs) : DqAll K G (cutV vs lo hi) ((xs.drop (HT.sIx xs.length 0 lo)).take (HT.sIx xs.length xs.length hi - HT.sIx xs.length 0 lo)) := by
  unfold cutV
  rw [DqAll.length d]
  exact DqAll.take _ (DqAll.drop _ d)
theorem stepO {f : M (Option Int)} {kk : Option Int → M SV} {ρ : List SV} {σ : L2.St} {G H : Hp} {Q : VK} {R : Option Int → Hp → Prop} (l : Lk W G H ρ σ) (h : Go W E (M.bind f kk ρ) ρ σ G H Q)
    (hk : ∀ x ρ1 G1 H1, Tr W ρ σ G H ρ1 σ G1 H1 → Go W E (kk x ρ1) ρ1 σ G1 H1 Q → R x H1) : tO W E f σ H R := by
  refine ⟨G, ρ, l, ?_⟩
  unfold M.bind at h
  cases e : f ρ with
  | fail => rw [e] at h; exact h
  | exn c => rw [e] at h; exact h
  | ok x ρ1 =>
    rw [e] at h
    exact fun G1 H1 a => hk x ρ1 G1 H1 a (Go.shift (r := kk x ρ1) h a)
theorem law_slc {x : PyData} {v : V} {lo hi : Option Int} {ρ : List SV} {σ : L2.St} {G H : Hp} {Q : VK} (l : Lk W G H ρ σ) (dx : Dq W.K G v x) (h : Go W E (slcO x lo hi ρ) ρ σ G H Q) : rSlAny W.K v lo hi H Q := by
  cases x <;> first | exact h.elim | skip
  · rename_i z
    obtain ⟨hz, h⟩ := gM_ok h
    cases dx
    exact .inr (.inr ⟨z, rfl, hz, Go.d l h (.str _)⟩)
  · obtain ⟨p, vs, rfl, hp, d⟩ := Dq.lst_inv dx
    exact .inl ⟨p, vs, rfl, SqL.of (l.sub _ _ hp), fun q nq => Go.lst l h nq (cut_dq d)⟩
  · rename_i xs
    obtain ⟨p, vs, rfl, hp, d⟩ := Dq.tup_inv dx
    refine .inr (.inl ⟨p, vs, rfl, SqT.of (l.sub _ _ hp), fun e => ?_, fun _ q nq => ?_⟩)
    · rw [DqAll.length d] at e
      have e2 : (xs.drop (HT.sIx xs.length 0 lo)).take (HT.sIx xs.length xs.length hi - HT.sIx xs.length 0 lo) = xs := by
        rw [e.1, e.2]; simp
      have h' : Go W E (.ok (.d (.tuple xs)) ρ) ρ σ G H Q := by
        have h0 : Go W E (.ok (.d (.tuple ((xs.drop (HT.sIx xs.length 0 lo)).take (HT.sIx xs.length xs.length hi - HT.sIx xs.length 0 lo)))) ρ) ρ σ G H Q := h
        rw [e2] at h0
        exact h0
      exact Go.d l h' dx
    · exact h (.ref q) _ _ (Tr.newG l nq (fun _ z => by cases z)) ⟨⟨_, rfl, .tup upd_same (DqAll.mono (Sub.self (l.gn nq)) (cut_dq d))⟩, fun z => (by cases z), fun _ z => (by cases z)⟩
theorem q_slc (c : Kx X W E k) {e : Expr} {lo hi : Option Expr} {f : M PyData} {a b : M (Option Int)} {p2 pos : Pos} (hf : PE X e (tD W E f)) (hl : PO X lo (tO W E a)) (hh : PO X hi (tO W E b)) : PE X (.Subscript e (.Slice lo hi none p2) pos) (tV W E (slcM f a b)) := by
  refine Nb.PE.imp (pe_slice sl_any hf hl hh) fun σ H Q ⟨G, ρ, l, h⟩ => ?_
  refine stepD l h fun x ρ1 v G1 H1 a dx h1 => stepO a.lk h1 fun lo ρ2 G2 H2 b h2 => stepO b.lk h2 fun hi ρ3 G3 H3 c3 h3 => ?_
  rw [c.K]
  exact law_slc c3.lk (Dq.mono c3.fr.gsub (Dq.mono b.fr.gsub dx)) h3
end
end Nb

set_option Elab.async false
set_option linter.all false
set_option maxRecDepth 100000
set_option maxHeartbeats 4000000
namespace Nb
open PySem PySem.Spec L2
/-! ### enumerate of a tuple -/
def IteT (K : PySem.W.Frag) (a : Addr) : It :=
  ⟨fun i H => ∃ (xs : List V) (x : V), SqT K H a xs ∧ xs[i]? = some x, fun i H v H' => ∃ T x, v = .ref T ∧ H T = none ∧ H' = upd H T (.tup [.int (i : Nat), x]) ∧ ∀ xs, SqT K H a xs → xs[i]? = some x, fun i H => ∃ xs : List V, SqT K H a xs ∧ xs.length ≤ i⟩
theorem tup_iter_ne {h : Heap} {it a : Addr} {i : Nat} {its : Array Value} (h1 : h.IsTupleIter it a i) (h2 : h.IsTuple a its) : a ≠ it := by
  obtain ⟨o, e, c, d⟩ := h1
  obtain ⟨o', e', c', r⟩ := h2
  rintro rfl
  rw [e] at e'
  have e2 : o = o' := Option.some.inj e'
  subst e2
  have c2 : o.cls = .type "tuple" := c'
  rw [c] at c2
  exact absurd c2 (by decide)
theorem turn_enumT {P : Program} {w : World} {K : PySem.W.Frag} {elts : List Expr} {kk : Nat} {tpos : Pos} (a e it : Addr) :
    Turn P w K (.Tuple elts kk tpos) (IteT K a) [e, it] e (fun i h => (∃ old, IsEnum h e it ((i : Nat) : Int) old) ∧ h.IsTupleIter it a i ∧ e ≠ it ∧ e ≠ a) where
  mem := by simp
  obj := fun i h st b hb => by
    obtain ⟨⟨old, he⟩, ⟨o, ho, hc, hd⟩, _⟩ := st
    have e' : b = e ∨ b = it := by simpa using hb
    rcases e' with z | z
    · rw [z]; exact ⟨_, he, fun v q => nomatch q⟩
    · rw [z]; exact ⟨o, ho, fun v q => by rw [hd] at q; cases q⟩
  keep := fun i h h' st k => let ⟨⟨old, he⟩, hi, hne⟩ := st; ⟨⟨old, k e (by simp) _ he⟩, hi.at fun o q => k it (by simp) o q, hne⟩
  item := by
    intro X hP hw hK hc i pins s σ H E I hf st hg
    subst hP hw hK
    obtain ⟨⟨old, he⟩, hit, hne, hea⟩ := st
    obtain ⟨xs, x, hq, hx⟩ := hg
    obtain ⟨its, rv, p, hz⟩ := I.tuple hq
    obtain ⟨u, hu, ru⟩ := rv.get hx
    have hel : e < s.heap.objs.size := Heap.lt_size he
    have hil : it < s.heap.objs.size := by obtain ⟨_, q, _⟩ := hit; exact Heap.lt_size q
    have hl := List.getElem?_eq_some_iff.mp hu
    have pt : s.heap.IsTuple a its.toArray := p
    have hD : Draws X.prog X.w X.A.in1 it [it, a] its.toArray.size (fun i v => its.toArray[i]? = some v) (fun i h => h.IsTupleIter it a i ∧ h.IsTuple a its.toArray) := Draws.tuple (show X.A.in1.handled = none from I.ok.hd hc) it a (tup_iter_ne hit pt) its.toArray
    refine wpAny_pyNext_enum_itemD hD he ⟨hit, pt⟩ (by simpa using hl.1) hne (by simp [hne, hea]) fun u' h' tk hu' ho st' hT hsz hk => ?_
    have eu : u' = u := by
      have q : its.toArray[i]? = some u' := hu'
      rw [List.getElem?_toArray, hu] at q
      exact (Option.some.inj q).symm
    subst eu
    obtain ⟨hit', hp'⟩ := st'
    refine ⟨_, rfl, wpAny_letOwnedTupleGo_enum (s := { s with heap := h', toks := tk + 1 }) ho fun h'' he' sb => ?_⟩
    have hT2 : h''.get? s.heap.objs.size = some { cls := .type "tuple", data := .seq #[.int i tk, u'] } := (sb.2 _ (Nat.ne_of_gt hel)).trans hT
    have new : ObjOk X.prog X.w (upd H s.heap.objs.size (.tup [.int (i : Nat), x])) h'' s.heap.objs.size (.tup [.int (i : Nat), x]) :=
      ⟨by show 2 ≤ sizeLine; decide, [.int i tk, u'], .cons ⟨_, rfl⟩ (.cons ru .nil), ⟨_, hT2, rfl, _, rfl⟩⟩
    have I1 : Inv X pins σ (upd H s.heap.objs.size (.tup [.int (i : Nat), x])) { s with heap := h'', toks := tk + 1 } :=
      I.turnedNew (ch := [e, it]) (fun b ob hb q => (sb.2 b (fun z => hb (by simp [z]))).trans (hk b ob (fun z => hb (by simp [z])) (fun z => hb (by simp [z])) q)) hf (Nat.le_refl _) new
    refine ⟨.ref s.heap.objs.size, _, I1, rfl, ⟨_, x, rfl, I.hok.fresh (Nat.le_refl _), rfl, fun ys hy => by rw [I.tuple_inj hy hq]; exact hx⟩, ⟨⟨u', ?_⟩, hit'.at fun o q => (sb.2 it (Ne.symm hne)).trans q, hne, hea⟩, fun b hb => ?_⟩
    · have e1 : ((i + 1 : Nat) : Int) = (i : Int) + 1 := by omega
      rw [e1]; exact he'
    · have hb' : b < s.heap.objs.size := by
        have e' : b = e ∨ b = it := by simpa using hb
        rcases e' with z | z
        · rw [z]; exact hel
        · rw [z]; exact hil
      rw [upd_ne (Nat.ne_of_lt hb')]
      exact (hf b hb).1
  done := by
    intro X hP hw hK hc i pins s σ H E I hf st hg
    subst hP hw hK
    obtain ⟨⟨old, he⟩, hit, hne, hea⟩ := st
    obtain ⟨xs, hq, hx⟩ := hg
    obtain ⟨its, rv, p, hz⟩ := I.tuple hq
    obtain ⟨f0, f1, f2, f3, f4, f5⟩ := hf it (by simp)
    have hl := rv.length
    have pt : s.heap.IsTuple a its.toArray := p
    -- past the end
    have hD : Draws X.prog X.w X.A.in1 it [it, a] 0 (fun _ _ => False) (fun _ h => h.IsTupleIter it a i ∧ h.IsTuple a its.toArray) := {
      live := fun _ _ st => let ⟨o, ho, _⟩ := st.1; ⟨o, ho⟩
      frame := fun _ _ _ st hk => ⟨st.1.at fun o e => hk it (by simp) o e, st.2.at fun o e => hk a (by simp) o e⟩
      item := fun j s Q E hj st hQ => by
        exact absurd hj (Nat.not_lt_zero _)
      done := fun s Q E st hE => wpAny_nextOf_tuple_end (show X.A.in1.handled = none from I.ok.hd hc) st.1 st.2 (by simp; omega) hE }
    exact wpAny_pyNext_enum_endD hD he ⟨hit, pt⟩ fun h' eb => ⟨rfl, I.turned (t' := s.toks) (fun b o hb q => eb b o hb q) f0 f1 f3 f4 f5⟩
  self := fun A i s Q E st h => let ⟨⟨_, he⟩, _⟩ := st; wpAny_pyIter_enum he h
theorem meets_enumerate_newB1 {v : Value} {o : Obj} {H : Heap → Prop} (B : Begins v o H) :
    Meets (Builtin.«enumerate.__new__» ⟨[.type "enumerate", v], []⟩) (fun _ R s => H s.heap ∧
      R (.ok (.ret (.ref (s.heap.push o).objs.size))) { s with heap := (s.heap.push o).push { cls := .type "enumerate", data := .fields #[.none, .bool false, .ref s.heap.objs.size, rawInt 0, .none, .none] } }) :=
  .of_wp fun prog w A R s h => by
    obtain ⟨hp, g, d, tk, os⟩ := s; obtain ⟨h1, h⟩ := h
    have hsub := sub_enumerate
    have q1 : ∀ {A' : Around} {E : Value → Shared → Prop} {Q : Value → Shared → Prop}, Q (.ref hp.objs.size) ⟨hp.push o, g, d, tk, os⟩ → wpAny (model prog w) A' (pyIter v) Q E ⟨hp, g, d, tk, os⟩ :=
      fun q => B.iter prog w _ _ ⟨hp, g, d, tk, os⟩ _ h1 q
    wp_walk using q1
    refine wpAny_stack_any fun st => wpAny_pure ?_
    split
    · rename_i c _ _ _ _ _
      cases (c == Value.type "enumerate")
      · wp_walk using q1
        exact ⟨_, rfl, h⟩
      · wp_walk using q1
        exact ⟨_, rfl, h⟩
    · wp_walk using q1
      exact ⟨_, rfl, h⟩
theorem enum_begins1 {prog : Program} {w : World} {A : Around} {E : Value → Shared → Prop} {s : Shared} {v : Value} {o : Obj} {H : Heap → Prop} {Q : Value → Shared → Prop} (B : Begins v o H) (h1 : H s.heap)
    (h : ∀ h', IsEnum h' (s.heap.objs.size + 1) s.heap.objs.size 0 .none → h'.get? s.heap.objs.size = some o → h'.objs.size = s.heap.objs.size + 2 →
      (∀ b o, s.heap.get? b = some o → h'.get? b = some o) → Q (.ref (s.heap.objs.size + 1)) { s with heap := h' }) :
    wpAny (model prog w) A (call (.type "enumerate") [v]) Q E s := by
  refine callType_new F.called_enumerate (by decide) (F.typeCall_enumerate_1 _) (F.newCall_enumerate_1 _) (fun obj => F.args_object_init_2 obj _) F.entry_enumerate_new
    (meets_enumerate_newB1 B) ⟨h1, ?_⟩
  have hz : (s.heap.push o).objs.size = s.heap.objs.size + 1 := Heap.size_push ..
  show _ ∧ _
  rw [hz]
  have he : IsEnum ((s.heap.push o).push { cls := .type "enumerate", data := .fields #[.none, .bool false, .ref s.heap.objs.size, rawInt 0, .none, .none] }) (s.heap.objs.size + 1) s.heap.objs.size 0 .none := by
    have := Heap.get?_push_size (s.heap.push o) (o := { cls := .type "enumerate", data := .fields #[.none, .bool false, .ref s.heap.objs.size, rawInt 0, .none, .none] }) rfl
    rw [hz] at this; exact this
  refine ⟨⟨_, he, rfl⟩, h _ he (Heap.get?_push_of_some _ (Heap.get?_push_size _ B.free)) (by rw [Heap.size_push, hz]) fun b o x => Heap.get?_push_of_some _ (Heap.get?_push_of_some _ x)⟩
/-- enumerate over a list or a tuple -/
def iEnumA (K : PySem.W.Frag) (ta : TA) : TI := fun σ H R => ta σ H fun vs H1 => ∃ a xs, vs = [.ref a] ∧ ((SqL K H1 a xs ∧ R (Ite K a) H1) ∨ (SqT K H1 a xs ∧ R (IteT K a) H1))
theorem pi_enumA {X : Cx} {e : Expr} {ta : TA} {p pos tpos : Pos} {elts : List Expr} {kk : Nat} (hg : Gl X "enumerate") (hm : X.mg "enumerate" = none) (ha : PA X [e] ta) (hs : starEach [e] X.env = [(false, eval e X.env)] := by rfl) :
    PI X (.Tuple elts kk tpos) (.Call (.Name "enumerate" p) [e] [] pos) (iEnumA X.K ta) := by
  refine ⟨fun pins s σ H R I h => ?_⟩
  refine PyProof.Rows.Call_ (ld_blt I hg hm PyProof.Rows.boot_enumerate (PyProof.Rows.callWith_type1 (thn (ha.run pos pins s σ H _ I h) fun us s1 ⟨vs, H1, I1, r1, q1⟩ => ?_) hs rfl))
  obtain ⟨a, xs, ex, q⟩ := q1
  subst ex
  cases r1 with
  | cons r rr =>
    cases rr
    cases r
    rcases q with ⟨hq, q⟩ | ⟨hq, q⟩
    · obtain ⟨its, rv, p', hz⟩ := I1.list hq
      refine call_enumerate_list p'.isList fun h' he hit hsz hk => wpAny_pyIter_enum he ?_
      have I2 : Inv X pins σ H1 { s1 with heap := h' } := I1.kept (t' := s1.toks) hk
      refine ⟨s1.heap.objs.size + 1, [s1.heap.objs.size + 1, s1.heap.objs.size], _, _, H1, rfl, I2, turn_enum a (s1.heap.objs.size + 1) s1.heap.objs.size, ⟨⟨.none, he⟩, hit, Nat.succ_ne_self _⟩, fun b hb => ?_, q⟩
      have e' : b = s1.heap.objs.size + 1 ∨ b = s1.heap.objs.size := by simpa using hb
      have hle : s1.heap.objs.size ≤ b := by
        rcases e' with z | z
        · rw [z]; exact Nat.le_add_right _ _
        · rw [z]; exact Nat.le_refl _
      exact I1.fpOk hle (I1.hok.fresh hle)
    · obtain ⟨its, rv, p', hz⟩ := I1.tuple hq
      have pt : s1.heap.IsTuple a its.toArray := p'
      have al : a < s1.heap.objs.size := by obtain ⟨_, q, _⟩ := pt; exact Heap.lt_size q
      refine enum_begins1 (begins_tuple a its.toArray) pt fun h' he hit hsz hk => wpAny_pyIter_enum he ?_
      have I2 : Inv X pins σ H1 { s1 with heap := h' } := I1.kept (t' := s1.toks) hk
      refine ⟨s1.heap.objs.size + 1, [s1.heap.objs.size + 1, s1.heap.objs.size], _, _, H1, rfl, I2, turn_enumT a (s1.heap.objs.size + 1) s1.heap.objs.size, ⟨⟨.none, he⟩, ⟨_, hit, rfl, rfl⟩, Nat.succ_ne_self _, Nat.ne_of_gt (Nat.lt_succ_of_lt al)⟩, fun b hb => ?_, q⟩
      have e' : b = s1.heap.objs.size + 1 ∨ b = s1.heap.objs.size := by simpa using hb
      have hle : s1.heap.objs.size ≤ b := by
        rcases e' with z | z
        · rw [z]; exact Nat.le_add_right _ _
        · rw [z]; exact Nat.le_refl _
      exact I1.fpOk hle (I1.hok.fresh hle)
/-- over a list or a tuple -/
def iSeq (K : PySem.W.Frag) (tl : TE) : TI := fun σ H R => tl σ H fun x H1 => ∃ a xs, x = .ref a ∧ ((SqL K H1 a xs ∧ R (Itl K a) H1) ∨ (SqT K H1 a xs ∧ R (Itt K a) H1))
theorem pi_seq {X : Cx} {tg l : Expr} {tl : TE} (hl : PE X l tl) : PI X tg l (iSeq X.K tl) := by
  refine ⟨fun pins s σ H R I h => ?_⟩
  refine thn (hl.run pins s σ H _ I h) fun v s1 ⟨x, H1, I1, r1, q1⟩ => ?_
  obtain ⟨a, xs, e, q⟩ := q1
  subst e
  cases r1
  rcases q with ⟨hq, q⟩ | ⟨hq, q⟩
  · obtain ⟨its, rv, p, hz⟩ := I1.list hq
    refine wpAny_pyIter_list p.isList ?_
    refine ⟨s1.heap.objs.size, [s1.heap.objs.size], _, _, H1, rfl, I1.kept (t' := s1.toks) fun b o e => Heap.get?_push_of_some _ e, turn_list a _, ⟨_, Heap.get?_push_size _ rfl, rfl, rfl⟩, fun b hb => ?_, q⟩
    have e : b = s1.heap.objs.size := by simpa using hb
    subst e
    exact I1.fpOk (Nat.le_refl _) (I1.hok.fresh (Nat.le_refl _))
  · obtain ⟨its, rv, p, hz⟩ := I1.tuple hq
    refine wpAny_pyIter_tuple (show s1.heap.IsTuple a its.toArray from p) ?_
    refine ⟨s1.heap.objs.size, [s1.heap.objs.size], _, _, H1, rfl, I1.kept (t' := s1.toks) fun b o e => Heap.get?_push_of_some _ e, turn_tuple a _, ⟨_, Heap.get?_push_size _ rfl, rfl, rfl⟩, fun b hb => ?_, q⟩
    have e : b = s1.heap.objs.size := by simpa using hb
    subst e
    exact I1.fpOk (Nat.le_refl _) (I1.hok.fresh (Nat.le_refl _))
end Nb

set_option Elab.async false
set_option linter.all false
set_option maxRecDepth 100000
set_option maxHeartbeats 4000000
namespace Nb
open PySem PySem.Spec L2
section
variable {X : Cx} {W : Wd} {E : XK} {k : Nat}
/-! ### a result, later -/
theorem ROk.later {ρ ρ1 ρ2 : List SV} {σ σ1 σ2 : L2.St} {H G1 H1 G2 H2 : Hp} {w : SV} {v : V} (l1 : Lk W G1 H1 ρ1 σ1) (r : ROk W ρ σ H ρ1 σ1 G1 H1 w v) (b : Tr W ρ1 σ1 G1 H1 ρ2 σ2 G2 H2) : ROk W ρ σ H ρ2 σ2 G2 H2 w v := by
  refine ⟨r.1.mono b.fr.gsub (fun p o hw e h nt => ?_) (fun p hw e h => ?_), fun ho p e => ?_, r.2.2⟩
  · cases e
    exact b.fr.keep p o h (r.2.1 hw p rfl).1 nt
  · cases e
    obtain ⟨no, _⟩ := r.2.1 hw p rfl
    obtain ⟨o, hp, nu⟩ : ∃ o, H1 p = some o ∧ ∀ xs, o ≠ .tup xs := by
      cases w with
      | ls xs => obtain ⟨q, vs, e, h1, _⟩ := r.1; cases e; exact ⟨_, h1, fun _ z => by cases z⟩
      | br xs => obtain ⟨q, vs, e, h1, _⟩ := r.1; cases e; exact ⟨_, h1, fun _ z => by cases z⟩
      | dc t ks => obtain ⟨q, e, h1, _⟩ := r.1; cases e; obtain ⟨o, ho, _⟩ := h1.some; exact ⟨o, ho, h1.noTup ho⟩
      | un => cases hw
      | d x => cases hw
      | fd t ks => cases hw
      | fn F => cases hw
    cases q : G2 p with
    | none => rfl
    | some o' =>
      rcases b.fr.gnew p o' q with z | z | z | ⟨z, xs, hz⟩
      · rw [h] at z; cases z
      · rw [hp] at z; cases z
      · exact (no z).elim
      · rw [hp] at z; cases z; exact absurd hz (nu xs)
  · subst e
    obtain ⟨no, nw⟩ := r.2.1 ho p rfl
    refine ⟨fun z => ?_, nw⟩
    obtain ⟨o, hp⟩ : ∃ o, H1 p = some o := by
      cases w with
      | ls xs => obtain ⟨q, vs, e, h1, _⟩ := r.1; cases e; exact ⟨_, h1⟩
      | br xs => obtain ⟨q, vs, e, h1, _⟩ := r.1; cases e; exact ⟨_, h1⟩
      | dc t ks => obtain ⟨q, e, h1, _⟩ := r.1; cases e; obtain ⟨o, ho, _⟩ := h1.some; exact ⟨o, ho⟩
      | un => cases ho
      | d x => cases ho
      | fd t ks => cases ho
      | fn F => cases ho
    rcases b.onew p z with y | y
    · rw [hp] at y; cases y
    · exact no y

/-! ### stores to a name -/
def setS (i : Nat) (w : SV) : M Unit := fun ρ => match ρ[i]? with
  | some (.br _) => .fail
  | some _ => .ok () (ρ.set i w)
  | none => .fail
theorem setS_ok {i : Nat} {w : SV} {ρ ρ' : List SV} {u : Unit} (h : setS i w ρ = .ok u ρ') : ρ' = ρ.set i w ∧ i < ρ.length ∧ ∀ xs, ρ[i]? ≠ some (.br xs) := by
  unfold setS at h
  split at h
  · cases h
  · rename_i u nb e
    cases h
    exact ⟨rfl, (List.getElem?_eq_some_iff.mp e).1, fun xs z => by rw [e] at z; cases z; exact nb xs rfl⟩
  · cases h
theorem setS_no {i : Nat} {w : SV} {ρ : List SV} {c : Exn} (h : setS i w ρ = .exn c) : False := by
  unfold setS at h
  split at h <;> cases h
theorem Tr.put {ρ ρ1 : List SV} {σ σ1 : L2.St} {G H G1 H1 : Hp} {i : Nat} {w : SV} {v : V} (a : Tr W ρ σ G H ρ1 σ1 G1 H1) (r : ROk W ρ σ H ρ1 σ1 G1 H1 w v) (hi : i < ρ1.length) (nb : ∀ xs, ρ1[i]? ≠ some (.br xs)) :
    Tr W ρ σ G H (ρ1.set i w) (σ1.set i (some v)) G1 H1 := by
  have hi2 : i < σ1.length := by rw [← a.lk.len]; exact hi
  have slots : ∀ (j : Nat) (u : SV), (ρ1.set i w)[j]? = some u → (j = i ∧ u = w) ∨ (j ≠ i ∧ ρ1[j]? = some u) := fun j u ej => by
    by_cases hj : j = i
    · subst hj
      rw [List.getElem?_set_self hi] at ej
      cases ej
      exact .inl ⟨rfl, rfl⟩
    · rw [List.getElem?_set_ne (Ne.symm hj)] at ej
      exact .inr ⟨hj, ej⟩
  have sl : ∀ (j : Nat), j ≠ i → (σ1.set i (some v))[j]? = σ1[j]? := fun j hj => List.getElem?_set_ne (Ne.symm hj)
  have si : (σ1.set i (some v))[i]? = some (some v) := List.getElem?_set_self hi2
  have own : ∀ b, OwnS (ρ1.set i w) (σ1.set i (some v)) b → OwnS ρ1 σ1 b ∨ (w.isOwn = true ∧ v = .ref b) := fun b ⟨j, u, ej, hu, sj⟩ => by
    rcases slots j u ej with ⟨rfl, rfl⟩ | ⟨hj, ej⟩
    · rw [si] at sj
      exact .inr ⟨hu, by cases sj; rfl⟩
    · rw [sl j hj] at sj
      exact .inl ⟨j, u, ej, hu, sj⟩
  refine ⟨⟨a.lk.sub, a.lk.gt, by rw [List.length_set, List.length_set]; exact a.lk.len, fun j u ov ej eo => ?_, fun j l wj wl q hjl ej el hj hl sj sll => ?_, a.lk.tabs⟩, a.fr, fun b hb => ?_, fun j xs ej => ?_⟩
  · rcases slots j u ej with ⟨rfl, rfl⟩ | ⟨hj, ej⟩
    · rw [si] at eo; cases eo; exact r.1
    · rw [sl j hj] at eo; exact a.lk.slot j u ov ej eo
  · rcases slots j wj ej with ⟨e1, e2⟩ | ⟨hj', ej⟩
    · rcases slots l wl el with ⟨e3, e4⟩ | ⟨hl', el⟩
      · exact hjl (e1.trans e3.symm)
      · rw [e1, si] at sj
        rw [sl l hl'] at sll
        rw [e2] at hj
        cases sj
        exact (r.2.1 hj q rfl).1 ⟨l, wl, el, hl, sll⟩
    · rcases slots l wl el with ⟨e3, e4⟩ | ⟨hl', el⟩
      · rw [e3, si] at sll
        rw [sl j hj'] at sj
        rw [e4] at hl
        cases sll
        exact (r.2.1 hl q rfl).1 ⟨j, wj, ej, hj, sj⟩
      · rw [sl j hj'] at sj
        rw [sl l hl'] at sll
        exact a.lk.sep j l wj wl q hjl ej el hj hl sj sll
  · rcases own b hb with z | ⟨z, rfl⟩
    · exact a.onew b z
    · exact (r.2.1 z b rfl).2
  · obtain ⟨xs', e1, e2⟩ := a.brs j xs ej
    have hj : j ≠ i := fun z => nb xs' (z ▸ e1)
    exact ⟨xs', by rw [List.getElem?_set_ne (Ne.symm hj)]; exact e1, by rw [sl j hj]; exact e2⟩

/-! ### statements -/
inductive Fl where
  | nx
  | rt (w : SV)
  | bk
  | ct
def GoS (W : Wd) (E : XK) (r : Res Fl) (ρ : List SV) (σ : L2.St) (G H : Hp) (D : Ends) : Prop := match r with
  | .ok .nx ρ' => ∀ σ' G' H', Tr W ρ σ G H ρ' σ' G' H' → D.nx σ' H'
  | .ok (.rt w) ρ' => ∀ v σ' G' H', Tr W ρ σ G H ρ' σ' G' H' → ROk W ρ σ H ρ' σ' G' H' w v → D.rt v H'
  | .ok .bk ρ' => ∀ σ' G' H', Tr W ρ σ G H ρ' σ' G' H' → D.bk σ' H'
  | .ok .ct ρ' => ∀ σ' G' H', Tr W ρ σ G H ρ' σ' G' H' → D.ct σ' H'
  | .exn c => Wish W E c ρ σ G H
  | .fail => False
def tS (W : Wd) (E : XK) (f : M Fl) : TS := fun D σ H => ∃ G ρ, Lk W G H ρ σ ∧ GoS W E (f ρ) ρ σ G H D
theorem GoS.shift {r : Res Fl} {ρ ρ1 : List SV} {σ σ1 : L2.St} {G H G1 H1 : Hp} {D : Ends} (h : GoS W E r ρ σ G H D) (a : Tr W ρ σ G H ρ1 σ1 G1 H1) : GoS W E r ρ1 σ1 G1 H1 D := by
  cases r with
  | fail => exact h
  | exn c => exact Wish.shift h a
  | ok fl ρ' =>
    cases fl with
    | nx => exact fun σ' G' H' b => h σ' G' H' (a.trans b)
    | rt w => exact fun v σ' G' H' b rk => h v σ' G' H' (a.trans b) (rk.trans a)
    | bk => exact fun σ' G' H' b => h σ' G' H' (a.trans b)
    | ct => exact fun σ' G' H' b => h σ' G' H' (a.trans b)
theorem GoS.nx {ρ : List SV} {σ : L2.St} {G H : Hp} {D : Ends} (l : Lk W G H ρ σ) (h : GoS W E (.ok .nx ρ) ρ σ G H D) : D.nx σ H := h σ G H (Tr.refl l)
def seqM (f g : M Fl) : M Fl := M.bind f fun fl => match fl with
  | .nx => g
  | fl => ret fl
theorem s_nil : PSs X [] (tS W E (ret .nx)) := Nb.PSs.imp pss_nil fun D σ H ⟨G, ρ, l, g⟩ => GoS.nx l g
theorem s_cons {st : Stmt} {rest : List Stmt} {f g : M Fl} (h1 : PS X st (tS W E f)) (h2 : PSs X rest (tS W E g)) : PSs X (st :: rest) (tS W E (seqM f g)) := by
  refine Nb.PSs.imp (pss_cons h1 h2) fun D σ H ⟨G, ρ, l, gg⟩ => ⟨G, ρ, l, ?_⟩
  unfold seqM M.bind at gg
  cases e : f ρ with
  | fail => rw [e] at gg; exact gg
  | exn c => rw [e] at gg; exact gg
  | ok fl ρ1 =>
    rw [e] at gg
    cases fl with
    | nx => exact fun σ' G' H' a => ⟨G', ρ1, a.lk, GoS.shift (r := g ρ1) gg a⟩
    | rt w => exact gg
    | bk => exact gg
    | ct => exact gg
theorem s_one {st : Stmt} {f : M Fl} (h1 : PS X st (tS W E f)) : PSs X [st] (tS W E f) := pss_one h1
theorem s_pass {pos} : PS X (.Pass pos) (tS W E (ret .nx)) := Nb.PS.imp ps_pass fun D σ H ⟨G, ρ, l, g⟩ => GoS.nx l g
theorem s_doc {x j pos pos'} : PS X (.Expr (.Constant (.str x) j pos) pos') (tS W E (ret .nx)) := Nb.PS.imp ps_doc fun D σ H ⟨G, ρ, l, g⟩ => GoS.nx l g
theorem s_break {pos} : PS X (.Break pos) (tS W E (ret .bk)) := Nb.PS.imp ps_break fun D σ H ⟨G, ρ, l, g⟩ => g σ G H (Tr.refl l)
theorem s_continue {pos} : PS X (.Continue pos) (tS W E (ret .ct)) := Nb.PS.imp ps_continue fun D σ H ⟨G, ρ, l, g⟩ => g σ G H (Tr.refl l)
theorem s_never {st : Stmt} : PS X st (tS W E failM) := Nb.PS.imp ps_never fun D σ H ⟨G, ρ, l, g⟩ => g
theorem stepVS {f : M SV} {kk : SV → M Fl} {ρ : List SV} {σ : L2.St} {G H : Hp} {D : Ends} {R : VK} (h : GoS W E (M.bind f kk ρ) ρ σ G H D)
    (hk : ∀ w ρ1 v G1 H1, Tr W ρ σ G H ρ1 σ G1 H1 → ROk W ρ σ H ρ1 σ G1 H1 w v → GoS W E (kk w ρ1) ρ σ G H D → R v H1) : Go W E (f ρ) ρ σ G H R := by
  unfold M.bind at h
  cases e : f ρ with
  | fail => rw [e] at h; exact h
  | exn c => rw [e] at h; exact h
  | ok w ρ1 => rw [e] at h; exact fun v G1 H1 a rk => hk w ρ1 v G1 H1 a rk h
theorem stepVS' {f : M SV} {kk : SV → M Fl} {ρ0 ρ : List SV} {σ0 σ : L2.St} {G0 H0 G H : Hp} {D : Ends} {R : VK} (b : Tr W ρ0 σ0 G0 H0 ρ σ G H) (h : GoS W E (M.bind f kk ρ) ρ0 σ0 G0 H0 D)
    (hk : ∀ w ρ1 v G1 H1, Tr W ρ σ G H ρ1 σ G1 H1 → ROk W ρ σ H ρ1 σ G1 H1 w v → GoS W E (kk w ρ1) ρ0 σ0 G0 H0 D → R v H1) : Go W E (f ρ) ρ σ G H R := by
  unfold M.bind at h
  cases e : f ρ with
  | fail => rw [e] at h; exact h
  | exn c => rw [e] at h; exact Wish.shift h b
  | ok w ρ1 => rw [e] at h; exact fun v G1 H1 a rk => hk w ρ1 v G1 H1 a rk h
theorem stepDS {f : M PyData} {kk : PyData → M Fl} {ρ : List SV} {σ : L2.St} {G H : Hp} {D : Ends} {R : VK} (l : Lk W G H ρ σ) (h : GoS W E (M.bind f kk ρ) ρ σ G H D)
    (hk : ∀ x ρ1 v G1 H1, Tr W ρ σ G H ρ1 σ G1 H1 → Dq W.K G1 v x → GoS W E (kk x ρ1) ρ1 σ G1 H1 D → R v H1) : tD W E f σ H R := by
  refine ⟨G, ρ, l, ?_⟩
  unfold M.bind at h
  cases e : f ρ with
  | fail => rw [e] at h; exact h
  | exn c => rw [e] at h; exact h
  | ok x ρ1 => rw [e] at h; exact fun v G1 H1 a d => hk x ρ1 v G1 H1 a d (GoS.shift (r := kk x ρ1) h a)
theorem stepBS {f : M Bool} {kk : Bool → M Fl} {ρ : List SV} {σ : L2.St} {G H : Hp} {D : Ends} {R : Bool → Hp → Prop} (l : Lk W G H ρ σ) (h : GoS W E (M.bind f kk ρ) ρ σ G H D)
    (hk : ∀ x ρ1 G1 H1, Tr W ρ σ G H ρ1 σ G1 H1 → GoS W E (kk x ρ1) ρ1 σ G1 H1 D → R x H1) : tT W E f σ H R := by
  refine ⟨G, ρ, l, ?_⟩
  unfold M.bind at h
  cases e : f ρ with
  | fail => rw [e] at h; exact h
  | exn c => rw [e] at h; exact h
  | ok x ρ1 => rw [e] at h; exact fun G1 H1 a => hk x ρ1 G1 H1 a (GoS.shift (r := kk x ρ1) h a)
def dropM (f : M SV) : M Fl := M.bind f fun _ => ret .nx
theorem s_expr {e : Expr} {f : M SV} {pos : Pos} (he : PE X e (tV W E f)) (hs : swapsWith e none pos.line X.env = pure false := by rfl) : PS X (.Expr e pos) (tS W E (dropM f)) :=
  Nb.PS.imp (ps_expr he hs) fun D σ H ⟨G, ρ, l, g⟩ => ⟨G, ρ, l, stepVS g fun w ρ1 v G1 H1 a rk g1 => g1 σ G1 H1 a⟩
def retM (f : M SV) : M Fl := M.bind f fun w => ret (.rt w)
theorem s_ret {e : Expr} {f : M SV} {pos : Pos} (he : PE X e (tV W E f)) : PS X (.Return (some e) pos) (tS W E (retM f)) :=
  Nb.PS.imp (ps_ret he) fun D σ H ⟨G, ρ, l, g⟩ => ⟨G, ρ, l, stepVS g fun w ρ1 v G1 H1 a rk g1 => g1 v σ G1 H1 a rk⟩
theorem s_retN {pos : Pos} : PS X (.Return none pos) (tS W E (ret (.rt (.d .none)))) :=
  Nb.PS.imp ps_retN fun D σ H ⟨G, ρ, l, g⟩ => g .non σ G H (Tr.refl l) ⟨⟨_, rfl, .non⟩, fun z => (by cases z), fun _ z => (by cases z)⟩
def ifM (c : M Bool) (f g : M Fl) : M Fl := M.bind c fun b => if b then f else g
theorem s_if {c : Expr} {a b : List Stmt} {t : M Bool} {f g : M Fl} {pos : Pos} (hc : PT X c (tT W E t)) (ha : PSs X a (tS W E f)) (hb : PSs X b (tS W E g)) : PS X (.If c a b pos) (tS W E (ifM t f g)) := by
  refine Nb.PS.imp (ps_if hc ha hb) fun D σ H ⟨G, ρ, l, gg⟩ => ?_
  refine stepBS l gg fun x ρ1 G1 H1 a g1 => ?_
  cases x with
  | true => exact ⟨G1, ρ1, a.lk, g1⟩
  | false => exact ⟨G1, ρ1, a.lk, g1⟩
/-- name = e -/
def setM (i : Nat) (f : M SV) : M Fl := M.bind f fun w => M.bind (setS i w) fun _ => ret .nx
theorem GoS.put {ρ ρ1 : List SV} {σ : L2.St} {G H G1 H1 : Hp} {D : Ends} {i : Nat} {w : SV} {v : V} {kk : Unit → M Fl} (a : Tr W ρ σ G H ρ1 σ G1 H1) (r : ROk W ρ σ H ρ1 σ G1 H1 w v) (g : GoS W E (M.bind (setS i w) kk ρ1) ρ σ G H D) :
    i < ρ1.length ∧ Tr W ρ σ G H (ρ1.set i w) (σ.set i (some v)) G1 H1 ∧ GoS W E (kk () (ρ1.set i w)) ρ σ G H D := by
  unfold M.bind at g
  cases e : setS i w ρ1 with
  | fail => rw [e] at g; exact g.elim
  | exn c => exact (setS_no e).elim
  | ok u ρ2 =>
    rw [e] at g
    obtain ⟨rfl, hi, nb⟩ := setS_ok e
    exact ⟨hi, a.put r hi nb, g⟩
theorem s_set (i : Nat) {x : Str} {e : Expr} {f : M SV} {pos' pos : Pos} (c : Kx X W E k) (hN : X.N[i]? = some x) (hx : Loc X.env.scope x) (he : PE X e (tV W E f)) (hs : swapsWith e (some (.Name x pos')) pos.line X.env = pure false := by rfl) (hf : X.fn x = true ∨ X.env.scope.names.lookup x = some .local := by first | exact .inl rfl | exact .inr rfl | assumption) :
    PS X (.Assign [.Name x pos'] e pos) (tS W E (setM i f)) :=
  Nb.PS.imp (ps_set c.nd hN hx he hs hf) fun D σ H ⟨G, ρ, l, g⟩ => ⟨G, ρ, l, stepVS g fun w ρ1 v G1 H1 a rk g1 => by
    obtain ⟨_, tr, g2⟩ := GoS.put a rk g1
    exact g2 _ _ _ tr⟩
/-! ### targets -/
abbrev AG := PyData → List SV → Option (List SV)
abbrev AGs := List PyData → List SV → Option (List SV)
/-- all but those slots as they were -/
def Only (is : List Nat) (σ σ' : L2.St) : Prop := σ'.length = σ.length ∧ ∀ j, j ∉ is → σ'[j]? = σ[j]?
theorem Only.trans {is js : List Nat} {σ σ1 σ2 : L2.St} (a : Only is σ σ1) (b : Only js σ1 σ2) : Only (is ++ js) σ σ2 := ⟨b.1.trans a.1, fun j hj => (b.2 j fun z => hj (List.mem_append_right _ z)).trans (a.2 j fun z => hj (List.mem_append_left _ z))⟩
def tG (W : Wd) (is : List Nat) (f : AG) : TG := fun v σ H Q => ∃ G ρ x ρ', Lk W G H ρ σ ∧ Dq W.K G v x ∧ f x ρ = some ρ' ∧ ∀ σ' G', Tr W ρ σ G H ρ' σ' G' H → Only is σ σ' → Q σ' H
theorem PG.imp {e : Expr} {t t' : TG} (h : PG X e t) (hi : ∀ v σ H Q, t' v σ H Q → t v σ H Q) : PG X e t' := ⟨fun pins s σ H v u Q I r hq => h.run pins s σ H v u Q I r (hi v σ H Q hq)⟩
def setO (i : Nat) (w : SV) : List SV → Option (List SV) := fun ρ => match ρ[i]? with
  | some (.br _) => none
  | some _ => some (ρ.set i w)
  | none => none
theorem setO_ok {i : Nat} {w : SV} {ρ ρ' : List SV} (h : setO i w ρ = some ρ') : ρ' = ρ.set i w ∧ i < ρ.length ∧ ∀ xs, ρ[i]? ≠ some (.br xs) := by
  unfold setO at h
  split at h
  · cases h
  · rename_i u nb e
    cases h
    exact ⟨rfl, (List.getElem?_eq_some_iff.mp e).1, fun xs z => by rw [e] at z; cases z; exact nb xs rfl⟩
  · cases h
def gN (i : Nat) : AG := fun x => setO i (.d x)
theorem ROk.d {ρ : List SV} {σ : L2.St} {G H : Hp} {v : V} {x : PyData} {ρ0 : List SV} {σ0 : L2.St} {H0 : Hp} (d : Dq W.K G v x) : ROk W ρ0 σ0 H0 ρ σ G H (.d x) v := ⟨⟨v, rfl, d⟩, fun z => (by cases z), fun _ z => (by cases z)⟩
theorem g_name (i : Nat) {x : Str} {pos : Pos} (c : Kx X W E k) (hN : X.N[i]? = some x) (hx : Loc X.env.scope x) (hf : X.fn x = true ∨ X.env.scope.names.lookup x = some .local := by first | exact .inl rfl | exact .inr rfl | assumption) : PG X (.Name x pos) (tG W [i] (gN i)) := by
  refine PG.imp (pg_name c.nd hN hx hf) fun v σ H Q ⟨G, ρ, x, ρ', l, d, e, g⟩ => ?_
  obtain ⟨rfl, hi, nb⟩ := setO_ok e
  exact g _ _ ((Tr.refl l).put (ROk.d d) hi nb) ⟨List.length_set, fun j hj => List.getElem?_set_ne (fun z => hj (by rw [z]; exact List.mem_singleton_self _))⟩
/-- several targets -/
def tGs (W : Wd) (is : List Nat) (f : AGs) : TGs := fun vs σ H Q => ∃ G ρ xs ρ', Lk W G H ρ σ ∧ DqAll W.K G vs xs ∧ f xs ρ = some ρ' ∧ ∀ σ' G', Tr W ρ σ G H ρ' σ' G' H → Only is σ σ' → Q σ' H
theorem PGs.imp {e : List Expr} {t t' : TGs} (h : PGs X e t) (hi : ∀ v σ H Q, t' v σ H Q → t v σ H Q) : PGs X e t' := ⟨fun pins s σ H v u Q I r hq => h.run pins s σ H v u Q I r (hi v σ H Q hq)⟩
def gsNil : AGs
  | [] => fun ρ => some ρ
  | _ => fun _ => none
def gsCons (f : AG) (g : AGs) : AGs
  | x :: xs => fun ρ => (f x ρ).bind (g xs)
  | [] => fun _ => none
theorem gs_nil : PGs X [] (tGs W [] gsNil) := by
  refine PGs.imp pgs_nil fun vs σ H Q ⟨G, ρ, xs, ρ', l, d, e, g⟩ => ?_
  cases xs with
  | nil => cases d; cases e; exact ⟨rfl, g σ G (Tr.refl l) ⟨rfl, fun _ _ => rfl⟩⟩
  | cons x xs => cases e
theorem gs_cons {is js : List Nat} {e : Expr} {es : List Expr} {f : AG} {g : AGs} (h1 : PG X e (tG W is f)) (h2 : PGs X es (tGs W js g)) (hs : (assignEach (e :: es) X.env).map (·.2) = assign e X.env :: (assignEach es X.env).map (·.2) := by rfl) : PGs X (e :: es) (tGs W (is ++ js) (gsCons f g)) := by
  refine PGs.imp (pgs_cons h1 h2 hs) fun vs σ H Q ⟨G, ρ, xs, ρ', l, d, e, gg⟩ => ?_
  cases xs with
  | nil => cases e
  | cons x xs =>
    cases d with
    | @cons v vr _ _ d1 d2 =>
      obtain ⟨ρ1, e1, e2⟩ := Option.bind_eq_some_iff.mp e
      exact ⟨v, vr, rfl, G, ρ, x, ρ1, l, d1, e1, fun σ1 G1 a o1 => ⟨G1, ρ1, xs, ρ', a.lk, DqAll.mono a.fr.gsub d2, e2, fun σ2 G2 b o2 => gg σ2 G2 (a.trans b) (o1.trans o2)⟩⟩
def gTupM (n : Nat) (g : AGs) : AG
  | .tuple xs => if xs.length = n then g xs else fun _ => none
  | _ => fun _ => none
theorem g_tup {is : List Nat} {es : List Expr} {kk : Nat} {g : AGs} {n : Nat} {pos : Pos} (c : Kx X W E k) (h : PGs X es (tGs W is g)) (hn : (assignEach es X.env).length = n := by rfl) (hst : (assignEach es X.env).findIdx? (·.1) = none := by rfl) : PG X (.Tuple es kk pos) (tG W is (gTupM n g)) := by
  refine PG.imp (pg_tup c.calm h hn hst) fun v σ H Q ⟨G, ρ, x, ρ', l, d, e, gg⟩ => ?_
  cases x <;> first | cases e | skip
  rename_i xs
  by_cases hl : xs.length = n
  · simp only [gTupM, hl, if_true] at e
    obtain ⟨a, vs, rfl, hp, dd⟩ := Dq.tup_inv d
    rw [c.K]
    exact ⟨a, vs, rfl, SqT.of (l.sub _ _ hp), by rw [DqAll.length dd]; exact hl, G, ρ, xs, ρ', l, dd, e, gg⟩
  · simp only [gTupM, hl, if_false] at e
    cases e
/-- target = e -/
def asgM (g : AG) (f : M PyData) : M Fl := M.bind f fun x ρ => match g x ρ with
  | some ρ' => .ok .nx ρ'
  | none => .fail
theorem s_asg {is : List Nat} {tg e : Expr} {f : M PyData} {g : AG} {pos : Pos} (he : PE X e (tD W E f)) (hg : PG X tg (tG W is g)) (hs : swapsWithSole [tg] e pos.line X.env = pure false := by rfl) (hw : swappedStores [tg] e X.env = pure none := by rfl)
    (h1 : (assignEach [tg] X.env).map (·.2) = [assign tg X.env] := by rfl) : PS X (.Assign [tg] e pos) (tS W E (asgM g f)) := by
  refine Nb.PS.imp (ps_asg he hg hs hw h1) fun D σ H ⟨G, ρ, l, gg⟩ => ?_
  refine stepDS l gg fun x ρ1 v G1 H1 a d g1 => ?_
  cases e : g x ρ1 with
  | none => simp only [e] at g1; exact g1.elim
  | some ρ2 =>
    simp only [e] at g1
    exact ⟨G1, ρ1, x, ρ2, a.lk, d, e, fun σ' G' b _ => g1 σ' G' H1 b⟩
/-- a, b = e1, e2 -/
def parM (i j : Nat) (f g : M SV) : M Fl := M.bind f fun w => M.bind g fun u => M.bind (setS i w) fun _ => M.bind (setS j u) fun _ => ret .nx
theorem ROk.apart {ρ ρ1 ρ2 : List SV} {σ σ1 σ2 : L2.St} {G H G1 H1 G2 H2 : Hp} {w u : SV} {v z : V} {i : Nat} (l1 : Lk W G1 H1 ρ1 σ1) (a : Tr W ρ σ G H ρ1 σ1 G1 H1) (b : Tr W ρ1 σ1 G1 H1 ρ2 σ2 G2 H2) (r : ROk W ρ σ H ρ1 σ1 G1 H1 w v) (r2 : ROk W ρ1 σ1 H1 ρ2 σ2 G2 H2 u z) (hi : i < ρ2.length) :
    ROk W ρ σ H (ρ2.set i w) (σ2.set i (some v)) G2 H2 u z := by
  have t := ROk.trans a r2
  refine ⟨t.1, fun hu p e => ⟨fun ⟨j, x, ej, hx, sj⟩ => ?_, (t.2.1 hu p e).2⟩, t.2.2⟩
  subst e
  have hi2 : i < σ2.length := by rw [← b.lk.len]; exact hi
  by_cases hj : j = i
  · subst hj
    rw [List.getElem?_set_self hi] at ej
    rw [List.getElem?_set_self hi2] at sj
    cases ej
    cases sj
    obtain ⟨no, _⟩ := r.2.1 hx p rfl
    rcases (r2.2.1 hu p rfl).2 with y | y
    · cases w with
      | ls xs => obtain ⟨q, vs, e, h1, _⟩ := r.1; cases e; rw [y] at h1; cases h1
      | br xs => exact r.2.2 xs rfl
      | dc t ks => obtain ⟨q, e, h1, _⟩ := r.1; cases e; obtain ⟨o, ho, _⟩ := h1.some; rw [y] at ho; cases ho
      | un => cases hx
      | d x => cases hx
      | fd t ks => cases hx
      | fn F => cases hx
    · exact no y
  · rw [List.getElem?_set_ne (Ne.symm hj)] at ej
    rw [List.getElem?_set_ne (Ne.symm hj)] at sj
    exact (t.2.1 hu p rfl).1 ⟨j, x, ej, hx, sj⟩
theorem s_par (i j : Nat) {x y : Str} {a b : Expr} {f g : M SV} {px py pt pos : Pos} {kt k2 pt2} (c : Kx X W E k) (hi : X.N[i]? = some x) (hj : X.N[j]? = some y) (hij : i ≠ j)
    (hx : X.env.scope.names.lookup x = some .local) (hy : X.env.scope.names.lookup y = some .local) (ha : PE X a (tV W E f)) (hb : PE X b (tV W E g)) (hse : starEach [a, b] X.env = (false, eval a X.env) :: starEach [b] X.env := by rfl) (hse2 : starEach [b] X.env = (false, eval b X.env) :: starEach [] X.env := by rfl)
    (hw : swappedStores [.Tuple [.Name x px, .Name y py] kt pt] (.Tuple [a, b] k2 pt2) X.env = pure (some [x, y]))
    (hs : swapsWithSole [.Tuple [.Name x px, .Name y py] kt pt] (.Tuple [a, b] k2 pt2) pos.line X.env = pure false := by rfl) :
    PS X (.Assign [.Tuple [.Name x px, .Name y py] kt pt] (.Tuple [a, b] k2 pt2) pos) (tS W E (parM i j f g)) := by
  refine Nb.PS.imp (ps_par c.calm c.nd hi hj hij hx hy (pa_cons ha (pa_cons hb pa_nil hse2) hse) hw hs) fun D σ H ⟨G, ρ, l, gg⟩ => ⟨G, ρ, l, ?_⟩
  refine stepVS gg fun w ρ1 v G1 H1 a1 r1 g1 => ⟨G1, ρ1, a1.lk, ?_⟩
  refine stepVS' a1 g1 fun u ρ2 z G2 H2 a2 r2 g2 => ⟨v, z, rfl, ?_⟩
  have a12 := a1.trans a2
  obtain ⟨hi2, tr, g3⟩ := GoS.put a12 (r1.later a1.lk a2) g2
  have r3 := ROk.apart (i := i) a1.lk a1 a2 r1 r2 hi2
  unfold M.bind at g3
  cases e : setS j u (ρ2.set i w) with
  | fail => rw [e] at g3; exact g3.elim
  | exn c => exact (setS_no e).elim
  | ok u' ρ3 =>
    rw [e] at g3
    obtain ⟨rfl, hj2, nb⟩ := setS_ok e
    exact g3 _ _ _ (tr.put r3 hj2 nb)
end
end Nb

set_option Elab.async false
set_option linter.all false
set_option maxRecDepth 100000
set_option maxHeartbeats 4000000
namespace Nb
open PySem PySem.Spec L2
section
variable {X : Cx} {W : Wd} {E : XK} {k : Nat}
/-! ### loops -/
def loopM (body next : M Fl) : M Fl := M.bind body fun fl => match fl with
  | .nx => next
  | .ct => next
  | .bk => ret .nx
  | .rt w => ret (.rt w)
theorem loop_red {body next : M Fl} {ρ : List SV} {σ : L2.St} {G H : Hp} {D : Ends} {N : L2.St → Hp → Prop} (l : Lk W G H ρ σ) (g : GoS W E (loopM body next ρ) ρ σ G H D) (hN : ∀ σ' H', tS W E next D σ' H' → N σ' H') :
    tS W E body { D with nx := N, ct := N, bk := D.nx } σ H := by
  refine ⟨G, ρ, l, ?_⟩
  unfold loopM M.bind at g
  cases e : body ρ with
  | fail => rw [e] at g; exact g
  | exn c => rw [e] at g; exact g
  | ok fl ρ1 =>
    rw [e] at g
    cases fl with
    | nx => exact fun σ' G' H' a => hN σ' H' ⟨G', ρ1, a.lk, GoS.shift (r := next ρ1) g a⟩
    | ct => exact fun σ' G' H' a => hN σ' H' ⟨G', ρ1, a.lk, GoS.shift (r := next ρ1) g a⟩
    | bk => exact g
    | rt w => exact g
def whileM (c : M Bool) (body : M Fl) : Nat → M Fl
  | 0 => failM
  | n + 1 => M.bind c fun b => if b then loopM body (whileM c body n) else ret .nx
theorem s_while (n : Nat) {c : Expr} {body : List Stmt} {t : M Bool} {f : M Fl} {pos : Pos} (hp : PassesOwn (model X.prog X.w) X.A X.env X.xe) (hc : PT X c (tT W E t)) (hb : PSs X body (tS W E f)) : PS X (.While c body [] pos) (tS W E (whileM t f n)) := by
  refine Nb.PS.imp (ps_while hp hc hb) fun D σ H h => ⟨fun m σ' H' => tS W E (whileM t f m) D σ' H', ⟨n, h⟩, fun m σ' H' ⟨G, ρ, l, g⟩ => ?_⟩
  cases m with
  | zero => exact g.elim
  | succ m =>
    refine stepBS l g fun b ρ1 G1 H1 a g1 => ?_
    cases b with
    | true => exact ⟨_, fun σ2 H2 z => ⟨m, Nat.lt_succ_self _, z⟩, loop_red a.lk g1 fun _ _ z => z⟩
    | false => exact GoS.nx a.lk g1
/-- what an iterator yields -/
structure Jok (W : Wd) (G : Hp) (xs : List PyData) (J : It) : Prop where
  stop : ∀ (G' H' : Hp) (i : Nat), Sub G G' → Sub G' H' → xs.length ≤ i → J.stop i H'
  go : ∀ (G' H' : Hp) (i : Nat), Sub G G' → Sub G' H' → i < xs.length → J.go i H'
  yld : ∀ (G' H' : Hp) (i : Nat) (v : V) (H2 : Hp) (x : PyData), Sub G G' → Sub G' H' → xs[i]? = some x → J.yld i H' v H2 → (H2 = H' ∧ Dq W.K G' v x) ∨ ∃ p o, H' p = none ∧ H2 = upd H' p o ∧ (∀ ps, o ≠ .tbl ps) ∧ Dq W.K (upd G' p o) v x
def GoI (W : Wd) (E : XK) (r : Res (List PyData)) (ρ : List SV) (σ : L2.St) (G H : Hp) (R : It → Hp → Prop) : Prop := match r with
  | .ok xs ρ' => ∀ J G' H', Tr W ρ σ G H ρ' σ G' H' → Jok W G' xs J → R J H'
  | .exn c => Wish W E c ρ σ G H
  | .fail => False
def tI (W : Wd) (E : XK) (f : M (List PyData)) : TI := fun σ H R => ∃ G ρ, Lk W G H ρ σ ∧ GoI W E (f ρ) ρ σ G H R
theorem PI.imp {tg e : Expr} {t t' : TI} (h : PI X tg e t) (hi : ∀ σ H R, t' σ H R → t σ H R) : PI X tg e t' := ⟨fun pins s σ H R I hq => h.run pins s σ H R I (hi σ H R hq)⟩
def seqO : PyData → Option (List PyData)
  | .list xs => some xs
  | .tuple xs => some xs
  | .dict [(.none, .tuple xs)] => some xs
  | _ => none
theorem seqO_scr (ns : List Int) : seqO (.dict (ns.map fun n => (PyData.int n, PyData.none))) = none := by
  cases ns with
  | nil => rfl
  | cons n r => cases r <;> rfl
def seqE : PyData → Option (List PyData)
  | .list xs => some xs
  | .tuple xs => some xs
  | _ => none
def seqI (f : M PyData) : M (List PyData) := M.bind f fun x => ofO (seqO x)
theorem stepDI {f : M PyData} {kk : PyData → M (List PyData)} {ρ : List SV} {σ : L2.St} {G H : Hp} {R : It → Hp → Prop} {R' : VK} (l : Lk W G H ρ σ) (h : GoI W E (M.bind f kk ρ) ρ σ G H R)
    (hk : ∀ x ρ1 v G1 H1, Tr W ρ σ G H ρ1 σ G1 H1 → Dq W.K G1 v x → (∀ (J : It) xs ρ2, kk x ρ1 = .ok xs ρ2 → ∀ G2 H2, Tr W ρ1 σ G1 H1 ρ2 σ G2 H2 → Jok W G2 xs J → R J H2) → (∀ c, kk x ρ1 = .exn c → Wish W E c ρ1 σ G1 H1) → kk x ρ1 ≠ .fail → R' v H1) : tD W E f σ H R' := by
  refine ⟨G, ρ, l, ?_⟩
  unfold M.bind at h
  cases e : f ρ with
  | fail => rw [e] at h; exact h
  | exn c => rw [e] at h; exact h
  | ok x ρ1 =>
    rw [e] at h
    refine fun v G1 H1 a d => hk x ρ1 v G1 H1 a d (fun J xs ρ2 e2 G2 H2 b j => ?_) (fun c e2 => ?_) fun e2 => ?_
    · have h' : GoI W E (kk x ρ1) ρ σ G H R := h
      rw [e2] at h'
      exact h' J G2 H2 (a.trans b) j
    · have h' : GoI W E (kk x ρ1) ρ σ G H R := h
      rw [e2] at h'
      exact Wish.shift h' a
    · have h' : GoI W E (kk x ρ1) ρ σ G H R := h
      rw [e2] at h'
      exact h'
theorem jok_l {G : Hp} {a : Addr} {vs : List V} {xs : List PyData} {K : PySem.W.Frag} (hK : K = W.K) (h : G a = some (.lst vs)) (d : DqAll W.K G vs xs) (inj : ∀ (H' : Hp) ys, H' a = some (.lst vs) → SqL K H' a ys → ys = vs) : Jok W G xs (Itl K a) := by
  refine ⟨fun G' H' i s s' hi => ⟨vs, SqL.of (s' _ _ (s _ _ h)), by rw [DqAll.length d]; exact hi⟩, fun G' H' i s s' hi => ?_, fun G' H' i v H2 x s s' e y => ?_⟩
  · obtain ⟨v, e, _⟩ := DqAll.get d (List.getElem?_eq_getElem hi)
    exact ⟨vs, v, SqL.of (s' _ _ (s _ _ h)), e⟩
  · obtain ⟨w, e2, dw⟩ := DqAll.get d e
    obtain ⟨rfl, yy⟩ := y
    have := yy vs (SqL.of (s' _ _ (s _ _ h)))
    rw [e2] at this
    cases this
    exact .inl ⟨rfl, dw.mono s⟩
theorem jok_l' {G : Hp} {a : Addr} {vs : List V} {xs : List PyData} {K : PySem.W.Frag} (h : G a = some (.lst vs)) (d : DqAll W.K G vs xs) : Jok W G xs (Itl K a) := by
  refine ⟨fun G' H' i s s' hi => ⟨vs, SqL.of (s' _ _ (s _ _ h)), by rw [DqAll.length d]; exact hi⟩, fun G' H' i s s' hi => ?_, fun G' H' i v H2 x s s' e y => ?_⟩
  · obtain ⟨v, e, _⟩ := DqAll.get d (List.getElem?_eq_getElem hi)
    exact ⟨vs, v, SqL.of (s' _ _ (s _ _ h)), e⟩
  · obtain ⟨w, e2, dw⟩ := DqAll.get d e
    obtain ⟨rfl, yy⟩ := y
    have := yy vs (SqL.of (s' _ _ (s _ _ h)))
    rw [e2] at this
    cases this
    exact .inl ⟨rfl, dw.mono s⟩
theorem jok_t {G : Hp} {a : Addr} {vs : List V} {xs : List PyData} {K : PySem.W.Frag} (h : G a = some (.tup vs)) (d : DqAll W.K G vs xs) : Jok W G xs (Itt K a) := by
  refine ⟨fun G' H' i s s' hi => ⟨vs, SqT.of (s' _ _ (s _ _ h)), by rw [DqAll.length d]; exact hi⟩, fun G' H' i s s' hi => ?_, fun G' H' i v H2 x s s' e y => ?_⟩
  · obtain ⟨v, e, _⟩ := DqAll.get d (List.getElem?_eq_getElem hi)
    exact ⟨vs, v, SqT.of (s' _ _ (s _ _ h)), e⟩
  · obtain ⟨w, e2, dw⟩ := DqAll.get d e
    obtain ⟨rfl, yy⟩ := y
    have := yy vs (SqT.of (s' _ _ (s _ _ h)))
    rw [e2] at this
    cases this
    exact .inl ⟨rfl, dw.mono s⟩
theorem jok_k {G : Hp} {a : Addr} {vs : List V} {xs : List PyData} (h : SqT W.K G a vs) (d : DqAll W.K G vs xs) : Jok W G xs (Itt W.K a) := by
  refine ⟨fun G' H' i s s' hi => ⟨vs, SqT.mono s' (SqT.mono s h), by rw [DqAll.length d]; exact hi⟩, fun G' H' i s s' hi => ?_, fun G' H' i v H2 x s s' e y => ?_⟩
  · obtain ⟨v, e, _⟩ := DqAll.get d (List.getElem?_eq_getElem hi)
    exact ⟨vs, v, SqT.mono s' (SqT.mono s h), e⟩
  · obtain ⟨w, e2, dw⟩ := DqAll.get d e
    obtain ⟨rfl, yy⟩ := y
    have := yy vs (SqT.mono s' (SqT.mono s h))
    rw [e2] at this
    cases this
    exact .inl ⟨rfl, dw.mono s⟩
theorem i_seq (c : Kx X W E k) {tg e : Expr} {f : M PyData} (hf : PE X e (tD W E f)) : PI X tg e (tI W E (seqI f)) := by
  refine PI.imp (pi_seq hf) fun σ H R ⟨G, ρ, l, g⟩ => ?_
  refine stepDI l g fun x ρ1 v G1 H1 a d ok ex nf => ?_
  cases x <;> first | exact (nf rfl).elim | skip
  · obtain ⟨p, vs, rfl, hp, dd⟩ := Dq.lst_inv d
    exact ⟨p, vs, rfl, .inl ⟨SqL.of (a.lk.sub _ _ hp), ok _ _ _ rfl _ _ (Tr.refl a.lk) (jok_l' hp dd)⟩⟩
  · obtain ⟨p, vs, rfl, hp, dd⟩ := Dq.tup_inv d
    exact ⟨p, vs, rfl, .inr ⟨SqT.of (a.lk.sub _ _ hp), ok _ _ _ rfl _ _ (Tr.refl a.lk) (jok_t hp dd)⟩⟩
  · cases d with
    | @scr p ns _ hs ek =>
      subst ek
      exact (nf (by show ofO (seqO _) _ = _; rw [seqO_scr]; rfl)).elim
    | @ktp p vs ds hs dd => exact ⟨p, vs, rfl, .inr ⟨c.K ▸ SqT.mono a.lk.sub hs, ok _ _ _ rfl _ _ (Tr.refl a.lk) (c.K ▸ jok_k hs dd)⟩⟩
def enumD (xs : List PyData) : List PyData := (List.range xs.length).zipWith (fun i x => PyData.tuple [.int (i : Nat), x]) xs
theorem enumD_get {xs : List PyData} {i : Nat} {x : PyData} (h : (enumD xs)[i]? = some x) : ∃ y, xs[i]? = some y ∧ x = .tuple [.int (i : Nat), y] := by
  unfold enumD at h
  rw [List.getElem?_zipWith] at h
  cases e : xs[i]? with
  | none => rw [e] at h; simp at h
  | some y =>
    have hi : i < xs.length := (List.getElem?_eq_some_iff.mp e).1
    rw [e, List.getElem?_range hi] at h
    simp at h
    exact ⟨y, rfl, h.symm⟩
theorem enumD_len (xs : List PyData) : (enumD xs).length = xs.length := by simp [enumD]
def enumI (f : M PyData) : M (List PyData) := M.bind f fun x => M.bind (ofO (seqE x)) fun xs => ret (enumD xs)
theorem jok_e {G : Hp} {a : Addr} {vs : List V} {xs : List PyData} {K : PySem.W.Frag} (h : G a = some (.lst vs)) (d : DqAll W.K G vs xs) : Jok W G (enumD xs) (Ite K a) := by
  refine ⟨fun G' H' i s s' hi => ⟨vs, SqL.of (s' _ _ (s _ _ h)), by rw [DqAll.length d, ← enumD_len xs]; exact hi⟩, fun G' H' i s s' hi => ?_, fun G' H' i v H2 x s s' e y => ?_⟩
  · obtain ⟨v, e, _⟩ := DqAll.get d (List.getElem?_eq_getElem (by rw [enumD_len] at hi; exact hi))
    exact ⟨vs, v, SqL.of (s' _ _ (s _ _ h)), e⟩
  · obtain ⟨z, ez, rfl⟩ := enumD_get e
    obtain ⟨w, e2, dw⟩ := DqAll.get d ez
    obtain ⟨T, u, rfl, hT, rfl, yy⟩ := y
    have := yy vs (SqL.of (s' _ _ (s _ _ h)))
    rw [e2] at this
    cases this
    have gn : G' T = none := by
      cases q : G' T with
      | none => rfl
      | some o => rw [s' T o q] at hT; cases hT
    refine .inr ⟨T, _, hT, rfl, fun ps z => (by cases z), .tup upd_same (.cons (.int _) (.cons ?_ .nil))⟩
    exact (dw.mono s).mono (Sub.self gn)
theorem jok_et {G : Hp} {a : Addr} {vs : List V} {xs : List PyData} {K : PySem.W.Frag} (h : G a = some (.tup vs)) (d : DqAll W.K G vs xs) : Jok W G (enumD xs) (IteT K a) := by
  refine ⟨fun G' H' i s s' hi => ⟨vs, SqT.of (s' _ _ (s _ _ h)), by rw [DqAll.length d, ← enumD_len xs]; exact hi⟩, fun G' H' i s s' hi => ?_, fun G' H' i v H2 x s s' e y => ?_⟩
  · obtain ⟨v, e, _⟩ := DqAll.get d (List.getElem?_eq_getElem (by rw [enumD_len] at hi; exact hi))
    exact ⟨vs, v, SqT.of (s' _ _ (s _ _ h)), e⟩
  · obtain ⟨z, ez, rfl⟩ := enumD_get e
    obtain ⟨w, e2, dw⟩ := DqAll.get d ez
    obtain ⟨T, u, rfl, hT, rfl, yy⟩ := y
    have := yy vs (SqT.of (s' _ _ (s _ _ h)))
    rw [e2] at this
    cases this
    have gn : G' T = none := by
      cases q : G' T with
      | none => rfl
      | some o => rw [s' T o q] at hT; cases hT
    refine .inr ⟨T, _, hT, rfl, fun ps z => (by cases z), .tup upd_same (.cons (.int _) (.cons ?_ .nil))⟩
    exact (dw.mono s).mono (Sub.self gn)
theorem i_enum (c : Kx X W E k) {e : Expr} {f : M PyData} {p pos tpos : Pos} {elts : List Expr} {kk : Nat} (hg : Gl X "enumerate") (hm : X.mg "enumerate" = none) (hf : PE X e (tD W E f)) (hs : starEach [e] X.env = [(false, eval e X.env)] := by rfl) :
    PI X (.Tuple elts kk tpos) (.Call (.Name "enumerate" p) [e] [] pos) (tI W E (enumI f)) := by
  refine PI.imp (pi_enumA hg hm (pa_cons hf pa_nil hs) hs) fun σ H R ⟨G, ρ, l, g⟩ => ?_
  refine stepDI l g fun x ρ1 v G1 H1 a d ok ex nf => ?_
  cases x <;> first | exact (nf rfl).elim | skip
  · obtain ⟨p, vs, rfl, hp, dd⟩ := Dq.lst_inv d
    exact ⟨p, vs, rfl, .inl ⟨SqL.of (a.lk.sub _ _ hp), ok _ _ _ rfl _ _ (Tr.refl a.lk) (jok_e hp dd)⟩⟩
  · obtain ⟨p, vs, rfl, hp, dd⟩ := Dq.tup_inv d
    exact ⟨p, vs, rfl, .inr ⟨SqT.of (a.lk.sub _ _ hp), ok _ _ _ rfl _ _ (Tr.refl a.lk) (jok_et hp dd)⟩⟩
def rgI1 (f : M PyData) : M (List PyData) := M.bind f fun x => match x with
  | .int j => if -(2 ^ 62) ≤ j ∧ j < 2 ^ 62 then ret (rgD 0 j) else failM
  | _ => failM
theorem rgD_get {a b : Int} {i : Nat} {x : PyData} (h : (rgD a b)[i]? = some x) : x = .int (a + (i : Nat)) := by
  unfold rgD at h
  rw [List.getElem?_map] at h
  cases e : (List.range (b - a).toNat)[i]? with
  | none => rw [e] at h; cases h
  | some y =>
    rw [e] at h
    have hi : i < (b - a).toNat := by
      have := (List.getElem?_eq_some_iff.mp e).1
      simpa using this
    rw [List.getElem?_range hi] at e
    cases e
    cases h
    rfl
theorem rgD_len (a b : Int) : (rgD a b).length = (b - a).toNat := by simp [rgD]
theorem jok_r {G : Hp} {a b : Int} : Jok W G (rgD a b) (Itr a (b - a).toNat) := by
  refine ⟨fun G' H' i s s' hi => by rw [rgD_len] at hi; exact hi, fun G' H' i s s' hi => by rw [rgD_len] at hi; exact hi, fun G' H' i v H2 x s s' e y => ?_⟩
  obtain ⟨rfl, rfl⟩ := y
  rw [rgD_get e]
  exact .inl ⟨rfl, .int _⟩
theorem i_rg1 {tg a : Expr} {f : M PyData} {p pos : Pos} (hg : Gl X "range") (hm : X.mg "range" = none) (hf : PE X a (tD W E f)) (hs : starEach [a] X.env = [(false, eval a X.env)] := by rfl) : PI X tg (.Call (.Name "range" p) [a] [] pos) (tI W E (rgI1 f)) := by
  refine PI.imp (pi_range1 hg hm (pa_cons hf pa_nil hs) hs) fun σ H R ⟨G, ρ, l, g⟩ => ?_
  refine stepDI l g fun x ρ1 v G1 H1 a d ok ex nf => ?_
  cases x <;> first | exact (nf rfl).elim | skip
  rename_i j
  cases d
  by_cases hj : -(2 ^ 62) ≤ j ∧ j < 2 ^ 62
  · have := ok (Itr 0 (j - 0).toNat) (rgD 0 j) ρ1 (by simp only [if_pos hj]; rfl) G1 H1 (Tr.refl a.lk) jok_r
    rw [Int.sub_zero] at this
    exact ⟨j, rfl, hj.1, hj.2, this⟩
  · exact (nf (by simp only [if_neg hj]; rfl)).elim
def rgI2 (f g : M PyData) : M (List PyData) := M.bind f fun x => M.bind g fun y => match x, y with
  | .int i, .int j => if -(2 ^ 62) ≤ i ∧ i < 2 ^ 62 ∧ -(2 ^ 62) ≤ j ∧ j < 2 ^ 62 then ret (rgD i j) else failM
  | _, _ => failM
theorem i_rg2 {tg a b : Expr} {f g : M PyData} {p pos : Pos} (hg : Gl X "range") (hm : X.mg "range" = none) (hf : PE X a (tD W E f)) (hf2 : PE X b (tD W E g)) (hs : starEach [a, b] X.env = [(false, eval a X.env), (false, eval b X.env)] := by rfl) (hs2 : starEach [b] X.env = [(false, eval b X.env)] := by rfl) : PI X tg (.Call (.Name "range" p) [a, b] [] pos) (tI W E (rgI2 f g)) := by
  refine PI.imp (pi_range2 hg hm (pa_cons hf (pa_cons hf2 pa_nil hs2) (by rw [hs, hs2])) hs hs2) fun σ H R ⟨G, ρ, l, gg⟩ => ?_
  refine stepDI l gg fun x ρ1 v G1 H1 a d ok ex nf => ?_
  refine ⟨G1, ρ1, a.lk, ?_⟩
  cases e : g ρ1 with
  | fail => exact (nf (by unfold M.bind; rw [e]; rfl)).elim
  | exn c => exact ex c (by unfold M.bind; rw [e]; rfl)
  | ok y ρ2 =>
    intro u G2 H2 b dy
    have nf' : (match x, y with | .int i, .int j => if -(2 ^ 62) ≤ i ∧ i < 2 ^ 62 ∧ -(2 ^ 62) ≤ j ∧ j < 2 ^ 62 then ret (rgD i j) else failM | _, _ => failM) ρ2 ≠ Res.fail := fun z => nf (by unfold M.bind; rw [e]; exact z)
    have ok' : ∀ J xs ρ3, (match x, y with | .int i, .int j => if -(2 ^ 62) ≤ i ∧ i < 2 ^ 62 ∧ -(2 ^ 62) ≤ j ∧ j < 2 ^ 62 then ret (rgD i j) else failM | _, _ => failM) ρ2 = Res.ok xs ρ3 → ∀ G2 H2, Tr W ρ1 σ G1 H1 ρ3 σ G2 H2 → Jok W G2 xs J → R J H2 := fun J xs ρ3 z => ok J xs ρ3 (by unfold M.bind; rw [e]; exact z)
    cases x <;> first | exact (nf' rfl).elim | skip
    cases y <;> first | exact (nf' rfl).elim | skip
    rename_i i j
    cases d
    cases dy
    by_cases hj : -(2 ^ 62) ≤ i ∧ i < 2 ^ 62 ∧ -(2 ^ 62) ≤ j ∧ j < 2 ^ 62
    · exact ⟨i, j, rfl, hj, ok' (Itr i (j - i).toNat) (rgD i j) ρ2 (by simp only [if_pos hj]; rfl) G2 H2 b jok_r⟩
    · exact (nf' (by simp only [if_neg hj]; rfl)).elim
def forM (g : AG) (body : M Fl) : List PyData → M Fl
  | [] => ret .nx
  | x :: xs => fun ρ => match g x ρ with
    | some ρ' => loopM body (forM g body xs) ρ'
    | none => .fail
def forS (it : M (List PyData)) (g : AG) (body : M Fl) : M Fl := M.bind it fun xs => forM g body xs
theorem s_for {is : List Nat} {tg iter : Expr} {body : List Stmt} {it : M (List PyData)} {g : AG} {f : M Fl} {pos : Pos} (c : Kx X W E k) (hp : PassesOwn (model X.prog X.w) X.A X.env X.xe) (hi : PI X tg iter (tI W E it)) (hg : PG X tg (tG W is g)) (hb : PSs X body (tS W E f))
    (hs : ∀ x, foldedSetIterable iter X.env x = pure x := by intro _; rfl) : PS X (.For tg iter body [] pos) (tS W E (forS it g f)) := by
  refine Nb.PS.imp (ps_for hp c.calm hi hg hb hs) fun D σ H ⟨G, ρ, l, gg⟩ => ⟨G, ρ, l, ?_⟩
  unfold forS M.bind at gg
  cases e : it ρ with
  | fail => rw [e] at gg; exact gg
  | exn c => rw [e] at gg; exact gg
  | ok xs ρ1 =>
    rw [e] at gg
    intro J G1 H1 a j
    refine ⟨fun i m σ' H' => ∃ G' ρ', Sub G1 G' ∧ Lk W G' H' ρ' σ' ∧ m + i = xs.length ∧ GoS W E (forM g f (xs.drop i) ρ') ρ' σ' G' H' D, ⟨xs.length, G1, ρ1, fun _ _ z => z, a.lk, rfl, GoS.shift (r := forM g f xs ρ1) gg a⟩, fun i m σ' H' ⟨G', ρ', s, l', hm, g'⟩ => ?_⟩
    cases hd : xs.drop i with
    | nil =>
      rw [hd] at g'
      exact .inl ⟨j.stop G' H' i s l'.sub (by have := congrArg List.length hd; simp at this; omega), GoS.nx l' g'⟩
    | cons x r =>
      rw [hd] at g'
      have hlt : i < xs.length := by
        have := congrArg List.length hd
        simp at this
        omega
      have ex : xs[i]? = some x := by
        have := congrArg (fun z => z[0]?) hd
        simpa using this
      have er : xs.drop (i + 1) = r := by
        have := congrArg List.tail hd
        simpa [List.tail_drop] using this
      refine .inr ⟨j.go G' H' i s l'.sub hlt, fun σ2 H2 => ∃ G2 ρ2, Sub G1 G2 ∧ Lk W G2 H2 ρ2 σ2 ∧ GoS W E (forM g f (xs.drop (i + 1)) ρ2) ρ2 σ2 G2 H2 D, fun σ2 H2 ⟨G2, ρ2, s2, l2, g2⟩ => ⟨m - 1, by omega, G2, ρ2, s2, l2, by omega, g2⟩, fun v H2 y => ?_⟩
      cases eg : g x ρ' with
      | none => simp only [forM, eg] at g'; exact g'.elim
      | some ρ2 =>
        simp only [forM, eg] at g'
        have fin : ∀ G3 H3, Tr W ρ' σ' G' H' ρ' σ' G3 H3 → ∀ σ4 G4, Tr W ρ' σ' G3 H3 ρ2 σ4 G4 H3 → tS W E f { D with nx := fun σ2 H2 => ∃ G2 ρ2, Sub G1 G2 ∧ Lk W G2 H2 ρ2 σ2 ∧ GoS W E (forM g f (xs.drop (i + 1)) ρ2) ρ2 σ2 G2 H2 D, ct := fun σ2 H2 => ∃ G2 ρ2, Sub G1 G2 ∧ Lk W G2 H2 ρ2 σ2 ∧ GoS W E (forM g f (xs.drop (i + 1)) ρ2) ρ2 σ2 G2 H2 D, bk := D.nx } σ4 H3 := by
          intro G3 H3 t3 σ4 G4 t4
          have tt := t3.trans t4
          have g4 : GoS W E (loopM f (forM g f r) ρ2) ρ2 σ4 G4 H3 D := GoS.shift g' tt
          refine ⟨G4, ρ2, t4.lk, ?_⟩
          unfold loopM M.bind at g4
          have s4 : Sub G1 G4 := fun b o e => tt.fr.gsub b o (s b o e)
          rw [er]
          cases e : f ρ2 with
          | fail => rw [e] at g4; exact g4
          | exn c => rw [e] at g4; exact g4
          | ok fl ρ3 =>
            rw [e] at g4
            cases fl with
            | nx => exact fun σ5 G5 H5 a5 => ⟨G5, ρ3, fun b o e => a5.fr.gsub b o (s4 b o e), a5.lk, GoS.shift (r := forM g f r ρ3) g4 a5⟩
            | ct => exact fun σ5 G5 H5 a5 => ⟨G5, ρ3, fun b o e => a5.fr.gsub b o (s4 b o e), a5.lk, GoS.shift (r := forM g f r ρ3) g4 a5⟩
            | bk => exact g4
            | rt w => exact g4
        rcases j.yld G' H' i v H2 x s l'.sub ex y with ⟨rfl, dv⟩ | ⟨p, o, hn, rfl, nt, dv⟩
        · exact ⟨G', ρ', x, ρ2, l', dv, eg, fun σ4 G4 t4 _ => fin G' H2 (Tr.refl l') σ4 G4 t4⟩
        · have tn := Tr.newG l' hn nt
          exact ⟨upd G' p o, ρ', x, ρ2, tn.lk, dv, eg, fun σ4 G4 t4 _ => fin _ _ tn σ4 G4 t4⟩
end
end Nb

set_option Elab.async false
set_option linter.all false
set_option maxRecDepth 100000
set_option maxHeartbeats 4000000
namespace Nb
open PySem PySem.Spec L2
/-! ### keys -/
def keyO : PyData → Option Key
  | .int i => some (.inl i)
  | .str x => some (.inr x)
  | _ => none
def keysO : List PyData → Option (List Key)
  | [] => some []
  | x :: xs => match keyO x, keysO xs with
    | some k, some ks => some (k :: ks)
    | _, _ => none
def keyT (t : Bool) : PyData → Bool
  | .tuple xs => t && (keysO xs).isSome
  | x => !t && (keyO x).isSome
theorem keyO_eq {x : PyData} {k : Key} (h : keyO x = some k) : x = keyD k := by
  cases x <;> first | cases h | skip
  · rfl
  · rfl
theorem keysO_eq : ∀ {xs : List PyData} {ks : List Key}, keysO xs = some ks → xs = ks.map keyD
  | [], _, h => by cases h; rfl
  | x :: xs, ks, h => by
    unfold keysO at h
    cases e : keyO x with
    | none => rw [e] at h; cases h
    | some k =>
      cases e2 : keysO xs with
      | none => rw [e, e2] at h; cases h
      | some kk =>
        rw [e, e2] at h
        cases h
        rw [List.map_cons, ← keyO_eq e, ← keysO_eq e2]
theorem keyT_f {x : PyData} (h : keyT false x = true) : ∃ k, x = keyD k := by
  cases x <;> first | cases h | skip
  · exact ⟨.inl _, rfl⟩
  · exact ⟨.inr _, rfl⟩
theorem keyT_t {x : PyData} (h : keyT true x = true) : ∃ ks : List Key, x = .tuple (ks.map keyD) := by
  cases x <;> first | cases h | skip
  rename_i xs
  have h' : (keysO xs).isSome = true := by simpa [keyT] using h
  obtain ⟨ks, e⟩ := Option.isSome_iff_exists.mp h'
  exact ⟨ks, by rw [keysO_eq e]⟩
theorem Dq.key {K : PySem.W.Frag} {G : Hp} {v : V} : ∀ {k : Key}, Dq K G v (keyD k) → v = kV k
  | .inl i, h => by cases h; rfl
  | .inr x, h => by cases h; rfl
theorem DqAll.keys {K : PySem.W.Frag} {G : Hp} : ∀ {ks : List Key} {vs : List V}, DqAll K G vs (ks.map keyD) → vs = ks.map kV
  | [], _, h => by cases h; rfl
  | k :: ks, _, h => by
    cases h with
    | cons h1 h2 => rw [Dq.key h1, DqAll.keys h2]; rfl
def hasK (ks : List PyData) (y : PyData) : Bool := ks.any fun z => PyData.eqv z y
theorem beqD {α : Type} [BEq α] [LawfulBEq α] [DecidableEq α] (a b : α) : (a == b) = decide (a = b) := by
  by_cases h : a = b
  · subst h; simp
  · simp [h]
theorem eqv_key : ∀ a b : Key, PyData.eqv (keyD a) (keyD b) = decide (a = b)
  | .inl i, .inl j => by
    show (i == j) = _
    rw [beqD]
    simp only [Sum.inl.injEq]
  | .inr x, .inr y => by
    show (x == y) = _
    rw [beqD]
    simp only [Sum.inr.injEq]
  | .inl i, .inr y => by simp [keyD, PyData.eqv]
  | .inr x, .inl j => by simp [keyD, PyData.eqv]
theorem eqv_keys : ∀ a b : List Key, PyData.eqvAll (a.map keyD) (b.map keyD) = decide (a = b)
  | [], [] => by simp [PyData.eqvAll]
  | [], _ :: _ => by simp [PyData.eqvAll]
  | _ :: _, [] => by simp [PyData.eqvAll]
  | a :: as, b :: bs => by
    rw [List.map_cons, List.map_cons]
    show (PyData.eqv (keyD a) (keyD b) && PyData.eqvAll (as.map keyD) (bs.map keyD)) = _
    rw [eqv_key, eqv_keys as bs]
    by_cases h1 : a = b <;> by_cases h2 : as = bs <;> simp [h1, h2]
theorem hasK_f (kk : List Key) (k : Key) : hasK (kk.map keyD) (keyD k) = kk.any fun z => decide (z = k) := by
  unfold hasK
  rw [List.any_map]
  congr 1
  funext z
  exact eqv_key z k
theorem hasK_t (kk : List (List Key)) (k : List Key) : hasK (kk.map fun l => .tuple (l.map keyD)) (.tuple (k.map keyD)) = kk.any fun z => decide (z = k) := by
  unfold hasK
  rw [List.any_map]
  congr 1
  funext z
  show PyData.eqv (.tuple (z.map keyD)) (.tuple (k.map keyD)) = _
  show PyData.eqvAll _ _ = _
  exact eqv_keys z k
def addK (ks : List PyData) (y : PyData) : List PyData := if hasK ks y then ks else ks ++ [y]
section
variable {κ : Type} [DecidableEq κ]
def tr1 (kk : List κ) : List (κ × V) := kk.map fun k => (k, V.bl true)
theorem val_tr1 (kk : List κ) (k : κ) : (valV (tr1 kk) k).isSome = kk.any fun z => decide (z = k) := by
  rw [← valV_any]
  unfold tr1
  rw [List.any_map]
  rfl
theorem put_tr1 (kk : List κ) (k : κ) : putK (tr1 kk) k (.bl true) = tr1 (if (kk.any fun z => decide (z = k)) = true then kk else kk ++ [k]) := by
  unfold putK
  have e : ((tr1 kk).any fun kv => decide (kv.1 = k)) = kk.any fun z => decide (z = k) := by
    unfold tr1; rw [List.any_map]; rfl
  rw [e]
  by_cases h : (kk.any fun z => decide (z = k)) = true
  · rw [if_pos h, if_pos h]
    unfold tr1
    rw [List.map_map]
    congr 1
    funext z
    simp only [Function.comp]
    split <;> rfl
  · rw [if_neg h, if_neg h]
    unfold tr1
    rw [List.map_append]
    rfl
end
/-- a dict's keys with their length -/
theorem DicAt.get {t : Bool} {H : Hp} {p : Addr} {ks : List PyData} {K : PySem.W.Frag} {G : Hp} {v : V} {y : PyData} (h : DicAt t H p ks) (s : Sub G H) (hy : keyT t y = true) (d : Dq K G v y) : ∃ o, DGet H p v o ∧ o.isSome = hasK ks y := by
  unfold DicAt at h
  cases t with
  | true =>
    obtain ⟨kk, h1, rfl⟩ := h
    obtain ⟨k, rfl⟩ := keyT_t hy
    obtain ⟨a, vs, rfl, ha, dd⟩ := d.tup_inv
    rw [DqAll.keys dd] at ha
    exact ⟨_, DGet.t h1 (s _ _ ha), by rw [hasK_t]; exact val_tr1 kk k⟩
  | false =>
    obtain ⟨kk, h1, rfl⟩ := h
    obtain ⟨k, rfl⟩ := keyT_f hy
    rw [Dq.key d]
    exact ⟨_, DGet.k h1, by rw [hasK_f]; exact val_tr1 kk k⟩
theorem DicAt.put {t : Bool} {H : Hp} {p : Addr} {ks : List PyData} {K : PySem.W.Frag} {G : Hp} {v : V} {y : PyData} (h : DicAt t H p ks) (s : Sub G H) (hy : keyT t y = true) (d : Dq K G v y) (hl : ks.length < sizeLine) :
    ∃ o, DPut H p v (.bl true) (upd H p o) ∧ (∀ ps, o ≠ .tbl ps) ∧ DicAt t (upd H p o) p (addK ks y) := by
  unfold DicAt at h
  cases t with
  | true =>
    obtain ⟨kk, h1, rfl⟩ := h
    obtain ⟨k, rfl⟩ := keyT_t hy
    obtain ⟨a, vs, rfl, ha, dd⟩ := d.tup_inv
    rw [DqAll.keys dd] at ha
    refine ⟨.dT (putK (tr1 kk) k (.bl true)), DPut.t h1 (s _ _ ha) (by simpa [tr1] using hl), fun ps z => (by cases z), ?_⟩
    show ∃ kk' : List _, _
    refine ⟨if (kk.any fun z => decide (z = k)) = true then kk else kk ++ [k], ?_, ?_⟩
    · rw [upd_same, put_tr1]
      rfl
    · unfold addK
      rw [hasK_t]
      by_cases h : (kk.any fun z => decide (z = k)) = true
      · rw [if_pos h, if_pos h]
      · rw [if_neg h, if_neg h, List.map_append]; rfl
  | false =>
    obtain ⟨kk, h1, rfl⟩ := h
    obtain ⟨k, rfl⟩ := keyT_f hy
    rw [Dq.key d]
    refine ⟨.dK (putK (tr1 kk) k (.bl true)), DPut.k h1 (by simpa [tr1] using hl), fun ps z => (by cases z), ?_⟩
    show ∃ kk' : List _, _
    refine ⟨if (kk.any fun z => decide (z = k)) = true then kk else kk ++ [k], ?_, ?_⟩
    · rw [upd_same, put_tr1]
      rfl
    · unfold addK
      rw [hasK_f]
      by_cases h : (kk.any fun z => decide (z = k)) = true
      · rw [if_pos h, if_pos h]
      · rw [if_neg h, if_neg h, List.map_append]; rfl

section
variable {X : Cx} {W : Wd} {E : XK} {k : Nat}
/-! ### a name as any value -/
def getV (i : Nat) : M SV := fun ρ => match ρ[i]? with
  | some (.d x) => .ok (.d x) ρ
  | some (.ls xs) => .ok (.d (.list xs)) (ρ.set i (.d (.list xs)))
  | some (.dc t ks) => .ok (.fd t ks) (ρ.set i (.fd t ks))
  | some (.fd t ks) => .ok (.fd t ks) ρ
  | some (.fn F) => .ok (.fn F) ρ
  | _ => .fail
theorem q_nameV (i : Nat) {x : Str} {pos : Pos} (hN : X.N[i]? = some x) (hv : Vis X.env.scope x) (hd : (x == ("__debug__" : Str)) = false := by decide) (hcd : (x == ("__classdict__" : Str)) = false := by decide) : PE X (.Name x pos) (tV W E (getV i)) := by
  refine Nb.PE.imp (pe_var hN hv hd hcd) fun σ H Q ⟨G, ρ, l, g⟩ => ?_
  unfold getV at g
  cases e : ρ[i]? with
  | none => rw [e] at g; exact g.elim
  | some w =>
    rw [e] at g
    obtain ⟨ov, es, s⟩ := slotAt l e
    cases w with
    | d x =>
      obtain ⟨v, rfl, d⟩ := s
      exact ⟨v, es, Go.d l g d⟩
    | ls xs =>
      obtain ⟨p, vs, rfl, h1, h2, d⟩ := s
      have dl : Dq W.K (upd G p (.lst vs)) (.ref p) (.list xs) := .lst upd_same (DqAll.mono (Sub.self h2) d)
      refine ⟨.ref p, es, g (.ref p) (upd G p (.lst vs)) H ?_ ⟨⟨_, rfl, dl⟩, fun z => (by cases z), fun _ z => (by cases z)⟩⟩
      exact Tr.setSlot l e rfl (fun _ z => by cases z) rfl es h1 (fun _ z => by cases z) h2 rfl ⟨.ref p, rfl, dl⟩
    | dc t ks =>
      obtain ⟨p, rfl, h1, h2⟩ := s
      obtain ⟨o, ho, nt⟩ := h1.some
      have h3 : DicAt t (upd G p o) p ks := h1.at fun o' e' => by rw [ho] at e'; cases e'; exact upd_same
      refine ⟨.ref p, es, g (.ref p) (upd G p o) H ?_ ⟨⟨p, rfl, h3⟩, fun z => (by cases z), fun _ z => (by cases z)⟩⟩
      exact Tr.setSlot l e rfl (fun _ z => by cases z) rfl es ho nt h2 rfl ⟨p, rfl, h3⟩
    | fd t ks =>
      obtain ⟨p, rfl, h1⟩ := s
      exact ⟨.ref p, es, g _ G H (Tr.refl l) ⟨⟨p, rfl, h1⟩, fun z => (by cases z), fun _ z => (by cases z)⟩⟩
    | fn F =>
      obtain ⟨v, rfl, h1⟩ := s
      exact ⟨v, es, g _ G H (Tr.refl l) ⟨⟨v, rfl, h1⟩, fun z => (by cases z), fun _ z => (by cases z)⟩⟩
    | un => exact g.elim
    | br xs => exact g.elim

/-! ### what stands in a slot, read as it stands -/
def slotM {α : Type} (i : Nat) (f : SV → M α) : M α := fun ρ => match ρ[i]? with
  | some w => f w ρ
  | none => .fail
theorem slot_go {i : Nat} {f : SV → M SV} {ρ : List SV} {σ : L2.St} {G H : Hp} {Q : VK} (l : Lk W G H ρ σ) (h : Go W E (slotM i f ρ) ρ σ G H Q) : ∃ w ov, ρ[i]? = some w ∧ σ[i]? = some ov ∧ SOk W G H w ov ∧ Go W E (f w ρ) ρ σ G H Q := by
  unfold slotM at h
  cases e : ρ[i]? with
  | none => rw [e] at h; exact h.elim
  | some w =>
    rw [e] at h
    obtain ⟨ov, es, s⟩ := slotAt l e
    exact ⟨w, ov, rfl, es, s, h⟩
/-- x in name -/
def inS (n : Bool) (x : PyData) : SV → M SV
  | .d y => inM n x y
  | .ls ys => inM n x (.list ys)
  | .br ys => inM n x (.list ys)
  | .dc t ks => gM (keyT t x = true) (ret (.d (.bool (inB n (hasK ks x)))))
  | .fd t ks => gM (keyT t x = true) (ret (.d (.bool (inB n (hasK ks x)))))
  | _ => failM
def inN (n : Bool) (f : M PyData) (i : Nat) : M SV := M.bind f fun x => slotM i (inS n x)
def rInDc (n : Bool) : R2 := fun x y H Q => ∃ a o, y = .ref a ∧ DGet H a x o ∧ Q (.bl (inB n o.isSome)) H
theorem op_inDc (hu : X.A.units + 65 < cLine) : OpR X (compareOp .In) (rInDc false) := by
  intro pins s σ H x y v u Q I rx ry ⟨a, o, ey, g, q⟩
  subst ey
  cases ry
  exact d_in (by omega) I g rx fun s' I' => ⟨.bl _, H, I', rfl, q⟩
theorem op_notInDc (hu : X.A.units + 65 < cLine) : OpR X (compareOp .NotIn) (rInDc true) := by
  intro pins s σ H x y v u Q I rx ry ⟨a, o, ey, g, q⟩
  subst ey
  cases ry
  exact d_notIn (by omega) I g rx fun s' I' => ⟨.bl _, H, I', rfl, q⟩
theorem inS_red {n : Bool} {r : R2} (hr : LawR W E r (inM n)) {x : PyData} {v : V} {w : SV} {ov : Option V} {ρ : List SV} {σ : L2.St} {G H : Hp} {Q : VK} (l : Lk W G H ρ σ) (d : Dq W.K G v x) (s : SOk W G H w ov) (h : Go W E (inS n x w ρ) ρ σ G H Q) : ∃ u, ov = some u ∧ (r v u H Q ∨ rInDc n v u H Q) := by
  cases w with
  | d y => obtain ⟨u, rfl, dy⟩ := s; exact ⟨u, rfl, .inl (hr x y ρ σ G H Q v u l d (.inl dy) h)⟩
  | ls ys => obtain ⟨p, vs, rfl, h1, h2, dy⟩ := s; exact ⟨.ref p, rfl, .inl (hr x (.list ys) ρ σ G H Q v _ l d (.inr ⟨p, vs, ys, rfl, rfl, h1, dy⟩) h)⟩
  | br ys => obtain ⟨p, vs, rfl, h1, h2, dy⟩ := s; exact ⟨.ref p, rfl, .inl (hr x (.list ys) ρ σ G H Q v _ l d (.inr ⟨p, vs, ys, rfl, rfl, h1, dy⟩) h)⟩
  | dc t ks =>
    obtain ⟨p, rfl, h1, h2⟩ := s
    obtain ⟨hy, h⟩ := gM_ok h
    obtain ⟨o, g, e⟩ := h1.get l.sub hy d
    exact ⟨.ref p, rfl, .inr ⟨p, o, rfl, g, by rw [e]; exact Go.d l h (.bl _)⟩⟩
  | fd t ks =>
    obtain ⟨p, rfl, h1⟩ := s
    obtain ⟨hy, h⟩ := gM_ok h
    obtain ⟨o, g, e⟩ := (h1.at fun o e => l.sub p o e).get l.sub hy d
    exact ⟨.ref p, rfl, .inr ⟨p, o, rfl, g, by rw [e]; exact Go.d l h (.bl _)⟩⟩
  | un => exact h.elim
  | fn F => exact h.elim
structure CpN (X : Cx) (W : Wd) (E : XK) (op : CmpOp) (n : Bool) : Prop where
  ex : ∃ r, OpR X (compareOp op) (fun x y H Q => r x y H Q ∨ rInDc n x y H Q) ∧ LawR W E r (inM n)
theorem cn_in (c : Kx X W E k) : CpN X W E .In false := ⟨_, ((op_inD c.hu).or ((op_inT c.hu).or op_in_str)).or (op_inDc c.hu), law_in c.K⟩
theorem cn_nin (c : Kx X W E k) : CpN X W E .NotIn true := ⟨_, ((op_notInD c.hu).or ((op_notInT c.hu).or op_notin_str)).or (op_notInDc c.hu), law_notIn c.K⟩
theorem inN_red {n : Bool} {r : R2} {f : M PyData} {i : Nat} (hr : LawR W E r (inM n)) : ∀ σ H Q, tV W E (inN n f i) σ H Q → tOp (fun x y H Q => r x y H Q ∨ rInDc n x y H Q) (tD W E f) (tVar i) σ H Q := by
  intro σ H Q ⟨G, ρ, l, h⟩
  refine stepD l h fun x ρ1 v G1 H1 a dx h1 => ?_
  obtain ⟨w, ov, ew, es, s, h2⟩ := slot_go a.lk h1
  obtain ⟨u, rfl, q⟩ := inS_red hr a.lk dx s h2
  exact ⟨u, es, q⟩
theorem q_inN {op : CmpOp} {n : Bool} (h : CpN X W E op n) (i : Nat) {x : Str} {a : Expr} {f : M PyData} {px pos : Pos} (hf : PE X a (tD W E f)) (hN : X.N[i]? = some x) (hv : Vis X.env.scope x) (hm : behindInMarks op (.Name x px) = false := by rfl)
    (hd : (x == ("__debug__" : Str)) = false := by decide) (hcd : (x == ("__classdict__" : Str)) = false := by decide) : PE X (.Compare a [op] [.Name x px] pos) (tV W E (inN n f i)) := by
  obtain ⟨r, h1, h2⟩ := h.ex
  exact Nb.PE.imp (pe_cmpR h1 hf (pe_var hN hv hd hcd) hm) (inN_red h2)
theorem t_inN {op : CmpOp} {n : Bool} (h : CpN X W E op n) (i : Nat) {x : Str} {a : Expr} {f : M PyData} {px pos : Pos} (hf : PE X a (tD W E f)) (hN : X.N[i]? = some x) (hv : Vis X.env.scope x) (hm : behindInMarks op (.Name x px) = false := by rfl)
    (hd : (x == ("__debug__" : Str)) = false := by decide) (hcd : (x == ("__classdict__" : Str)) = false := by decide) : PT X (.Compare a [op] [.Name x px] pos) (tT W E (tstM (inN n f i))) := by
  obtain ⟨r, h1, h2⟩ := h.ex
  exact tst_of (pt_cmpR h1 hf (pe_var hN hv hd hcd) hm) (inN_red h2)
/-! len(name) -/
def lenS : SV → M SV
  | .d y => lenM y
  | .ls ys => lenM (.list ys)
  | .br ys => lenM (.list ys)
  | .dc t ks => ret (.d (.int (ks.length : Nat)))
  | .fd t ks => ret (.d (.int (ks.length : Nat)))
  | _ => failM
def lenN (i : Nat) : M SV := slotM i lenS
theorem dic_len {t : Bool} {H : Hp} {p : Addr} {ks : List PyData} (h : DicAt t H p ks) : (∃ kvs, H p = some (.dK kvs) ∧ kvs.length = ks.length) ∨ ∃ kvs, H p = some (.dT kvs) ∧ kvs.length = ks.length := by
  unfold DicAt at h
  cases t with
  | true => obtain ⟨kk, h1, rfl⟩ := h; exact .inr ⟨_, h1, by simp⟩
  | false => obtain ⟨kk, h1, rfl⟩ := h; exact .inl ⟨_, h1, by simp⟩
def rLenDc : List V → Hp → VK → Prop := fun xs H Q => (∃ a kvs, xs = [V.ref a] ∧ H a = some (.dK kvs) ∧ Q (.int kvs.length) H) ∨ rLenT xs H Q
theorem q_lenN (c : Kx X W E k) (i : Nat) {y : Str} {p py pos : Pos} (hg : Gl X "len") (hm : X.mg "len" = none) (hN : X.N[i]? = some y) (hv : Vis X.env.scope y) (hd : (y == ("__debug__" : Str)) = false := by decide) (hcd : (y == ("__classdict__" : Str)) = false := by decide) : PE X (.Call (.Name "len" p) [.Name y py] [] pos) (tV W E (lenN i)) := by
  refine Nb.PE.imp (pe_callB (CallR.or call_len (CallR.or call_lenD call_len_dT)) hg hm PySem.boot_len (pa_cons (pe_var hN hv hd hcd) pa_nil rfl) (by decide) (by decide) rfl) fun σ H Q ⟨G, ρ, l, h⟩ => ?_
  obtain ⟨w, ov, ew, es, s, h⟩ := slot_go l h
  have dic : ∀ t ks p, DicAt t H p ks → Q (.int (ks.length : Nat)) H → ∀ R : Prop, ((∃ a kvs, [V.ref p] = [V.ref a] ∧ H a = some (.dK kvs) ∧ Q (.int kvs.length) H) → R) → (rLenT [V.ref p] H Q → R) → R := fun t ks p hd q R h1 h2 => by
    rcases dic_len hd with ⟨kvs, e, el⟩ | ⟨kvs, e, el⟩
    · exact h1 ⟨p, kvs, rfl, e, by rw [el]; exact q⟩
    · exact h2 ⟨p, kvs, rfl, e, by rw [el]; exact q⟩
  cases w with
  | d y => obtain ⟨u, rfl, dy⟩ := s; exact ⟨u, es, .inl (law_len c.K y ρ σ G H Q u l (.inl dy) h)⟩
  | ls ys => obtain ⟨p, vs, rfl, h1, h2, dy⟩ := s; exact ⟨.ref p, es, .inl (law_len c.K (.list ys) ρ σ G H Q _ l (.inr ⟨p, vs, ys, rfl, rfl, h1, dy⟩) h)⟩
  | br ys => obtain ⟨p, vs, rfl, h1, h2, dy⟩ := s; exact ⟨.ref p, es, .inl (law_len c.K (.list ys) ρ σ G H Q _ l (.inr ⟨p, vs, ys, rfl, rfl, h1, dy⟩) h)⟩
  | dc t ks => obtain ⟨p, rfl, h1, h2⟩ := s; exact ⟨.ref p, es, dic t ks p h1 (Go.d l h (.int _)) _ (fun z => .inr (.inl z)) fun z => .inr (.inr z)⟩
  | fd t ks => obtain ⟨p, rfl, h1⟩ := s; exact ⟨.ref p, es, dic t ks p (h1.at fun o e => l.sub p o e) (Go.d l h (.int _)) _ (fun z => .inr (.inl z)) fun z => .inr (.inr z)⟩
  | un => exact h.elim
  | fn F => exact h.elim

/-! ### what is one's own is changed -/
theorem Tr.mut {ρ : List SV} {σ : L2.St} {G H : Hp} (l : Lk W G H ρ σ) {i : Nat} {w w' : SV} {p : Addr} {o o' : HO} (e : ρ[i]? = some w) (hw : w.isOwn = true) (hw' : w'.isOwn = true) (nb : ∀ xs, w = .br xs → ∃ xs', w' = .br xs') (es : σ[i]? = some (some (.ref p))) (hp : H p = some o)
    (nt : (∀ ps, o ≠ .tbl ps) ∧ ∀ c q, o ≠ LamX.CodeO c q) (nt' : ∀ ps, o' ≠ .tbl ps) (gp : G p = none) (s : SOk W G (upd H p o') w' (some (.ref p))) : Tr W ρ σ G H (ρ.set i w') σ G (upd H p o') := by
  have hi : i < ρ.length := (List.getElem?_eq_some_iff.mp e).1
  have own : OwnS ρ σ p := ⟨i, w, e, hw, es⟩
  have sep : ∀ j u, j ≠ i → ρ[j]? = some u → u.isOwn = true → σ[j]? ≠ some (some (V.ref p)) := fun j u hj ej hu z => l.sep j i u w p hj ej e hu hw z es
  have slots : ∀ (j : Nat) (u : SV), (ρ.set i w')[j]? = some u → (j = i ∧ u = w') ∨ (j ≠ i ∧ ρ[j]? = some u) := fun j u ej => by
    by_cases hj : j = i
    · subst hj
      rw [List.getElem?_set_self hi] at ej
      cases ej
      exact .inl ⟨rfl, rfl⟩
    · rw [List.getElem?_set_ne (Ne.symm hj)] at ej
      exact .inr ⟨hj, ej⟩
  refine ⟨⟨Sub.put l.sub gp, l.gt, by rw [List.length_set]; exact l.len, fun j u ov ej eo => ?_, fun j k wj wk q hjk ej ek hj hk sj sk => ?_, l.tabs.put fun u eu => ?_⟩, ⟨fun b u eb nb _ => ?_, fun b ps eb => ⟨ps, ?_⟩, fun _ _ z => z, fun b u eb => .inl eb⟩, fun b ⟨j, u, ej, hu, sj⟩ => ?_, fun j xs ej => ?_⟩
  · rcases slots j u ej with ⟨rfl, rfl⟩ | ⟨hj, ej⟩
    · rw [es] at eo; cases eo; exact s
    · refine (l.slot j u ov ej eo).mono (fun _ _ z => z) (fun q o hu eq z _ => ?_) fun q hu eq z => z
      have : q ≠ p := fun z' => sep j u hj ej hu (by rw [eo, eq, z'])
      rw [upd_ne this]; exact z
  · have fix : ∀ (j : Nat) (wj : SV), (ρ.set i w')[j]? = some wj → wj.isOwn = true → ∃ u : SV, ρ[j]? = some u ∧ u.isOwn = true := fun j wj ej hj => by
      rcases slots j wj ej with ⟨e1, e2⟩ | ⟨_, ej⟩
      · exact ⟨w, by rw [e1]; exact e, hw⟩
      · exact ⟨wj, ej, hj⟩
    obtain ⟨u1, e1, o1⟩ := fix j wj ej hj
    obtain ⟨u2, e2, o2⟩ := fix k wk ek hk
    exact l.sep j k u1 u2 q hjk e1 e2 o1 o2 sj sk
  · rw [hp] at eu; cases eu; exact nt
  · have : b ≠ p := fun z => nb (z ▸ own)
    rw [upd_ne this]; exact eb
  · have : b ≠ p := fun z => by
      subst z
      rw [hp] at eb
      cases eb
      exact nt.1 ps rfl
    rw [upd_ne this]; exact eb
  · rcases slots j u ej with ⟨e1, e2⟩ | ⟨_, ej⟩
    · refine .inr ⟨i, w, e, hw, ?_⟩
      rw [← e1]; exact sj
    · exact .inr ⟨j, u, ej, hu, sj⟩
  · by_cases hj : j = i
    · subst hj
      rw [e] at ej
      cases ej
      obtain ⟨xs', e'⟩ := nb xs rfl
      exact ⟨xs', by rw [List.getElem?_set_self hi, e'], rfl⟩
    · exact ⟨xs, by rw [List.getElem?_set_ne (Ne.symm hj)]; exact ej, rfl⟩
/-- a list that may be changed -/
def mutO : SV → Option (List PyData)
  | .ls xs => some xs
  | .br xs => some xs
  | _ => none
def SV.relist : SV → List PyData → SV
  | .br _, xs => .br xs
  | _, xs => .ls xs
/-- the list in slot i: (xs ↦ what comes of it, its new items) -/
def mutM {α : Type} (i : Nat) (f : List PyData → Option (α × List PyData)) : M α := fun ρ => match ρ[i]? with
  | some w => match mutO w with
    | some xs => match f xs with
      | some (a, ys) => .ok a (ρ.set i (w.relist ys))
      | none => .fail
    | none => .fail
  | none => .fail
theorem mut_ok {α : Type} {i : Nat} {f : List PyData → Option (α × List PyData)} {ρ : List SV} {σ : L2.St} {G H : Hp} (l : Lk W G H ρ σ) (h : mutM i f ρ ≠ .fail) :
    ∃ xs p vs a ys w, ρ[i]? = some w ∧ f xs = some (a, ys) ∧ mutM i f ρ = .ok a (ρ.set i (w.relist ys)) ∧ σ[i]? = some (some (.ref p)) ∧ H p = some (.lst vs) ∧ DqAll W.K G vs xs ∧ ∀ us, DqAll W.K G us ys → Tr W ρ σ G H (ρ.set i (w.relist ys)) σ G (upd H p (.lst us)) := by
  unfold mutM at h ⊢
  cases e : ρ[i]? with
  | none => rw [e] at h; exact (h rfl).elim
  | some w =>
    rw [e] at h
    simp only at h ⊢
    cases em : mutO w with
    | none => rw [em] at h; exact (h rfl).elim
    | some xs =>
      rw [em] at h
      simp only at h ⊢
      cases ef : f xs with
      | none => rw [ef] at h; exact (h rfl).elim
      | some q =>
        obtain ⟨a, ys⟩ := q
        obtain ⟨ov, es, s⟩ := slotAt l e
        cases w <;> first | cases em | skip
        · obtain ⟨p, vs, rfl, h1, h2, d⟩ := s
          exact ⟨xs, p, vs, a, ys, _, rfl, ef, rfl, es, h1, d, fun us du => Tr.mut l e rfl rfl (fun _ z => by cases z) es h1 ⟨fun ps z => (by cases z), fun c q z => (by cases z)⟩ (fun ps z => by cases z) h2 ⟨p, us, rfl, upd_same, h2, du⟩⟩
        · obtain ⟨p, vs, rfl, h1, h2, d⟩ := s
          exact ⟨xs, p, vs, a, ys, _, rfl, ef, rfl, es, h1, d, fun us du => Tr.mut l e rfl rfl (fun _ z => ⟨_, rfl⟩) es h1 ⟨fun ps z => (by cases z), fun c q z => (by cases z)⟩ (fun ps z => by cases z) h2 ⟨p, us, rfl, upd_same, h2, du⟩⟩
/-- the name holds a list that may be changed -/
def hasL (i : Nat) : M Unit := fun ρ => match ρ[i]? with
  | some w => match mutO w with
    | some _ => .ok () ρ
    | none => .fail
  | none => .fail
theorem hasL_ok {α : Type} {i : Nat} {kk : Unit → M α} {ρ : List SV} {σ : L2.St} {G H : Hp} (l : Lk W G H ρ σ) (h : M.bind (hasL i) kk ρ ≠ .fail) : M.bind (hasL i) kk ρ = kk () ρ ∧ ∃ p vs, σ[i]? = some (some (.ref p)) ∧ H p = some (.lst vs) := by
  have hb : M.bind (hasL i) kk ρ = (hasL i ρ).bind kk := rfl
  rw [hb] at h ⊢
  unfold hasL at h ⊢
  cases e : ρ[i]? with
  | none => simp only [e] at h; exact (h rfl).elim
  | some w =>
    simp only [e] at h ⊢
    cases em : mutO w with
    | none => simp only [em] at h; exact (h rfl).elim
    | some xs =>
      obtain ⟨ov, es, s⟩ := slotAt l e
      cases w <;> first | cases em | skip
      · obtain ⟨p, vs, rfl, h1, h2, d⟩ := s
        exact ⟨rfl, p, vs, es, h1⟩
      · obtain ⟨p, vs, rfl, h1, h2, d⟩ := s
        exact ⟨rfl, p, vs, es, h1⟩
theorem Go.nf {r : Res SV} {ρ : List SV} {σ : L2.St} {G H : Hp} {Q : VK} (h : Go W E r ρ σ G H Q) : r ≠ .fail := fun z => by rw [z] at h; exact h
theorem GoS.nf {r : Res Fl} {ρ : List SV} {σ : L2.St} {G H : Hp} {D : Ends} (h : GoS W E r ρ σ G H D) : r ≠ .fail := fun z => by rw [z] at h; exact h
def appF (x : PyData) (xs : List PyData) : Option (SV × List PyData) := if xs.length < sizeLine then some (.d .none, xs ++ [x]) else none
def appM (i : Nat) (f : M PyData) : M SV := M.bind (hasL i) fun _ => M.bind f fun x => mutM i (appF x)
theorem q_app (i : Nat) {y : Str} {e : Expr} {f : M PyData} {py apos cpos : Pos} (c : Kx X W E k) (hN : X.N[i]? = some y) (hv : Vis X.env.scope y) (hf : PE X e (tD W E f)) (hd : (y == ("__debug__" : Str)) = false := by decide) (hcd : (y == ("__classdict__" : Str)) = false := by decide)
    (hs : starEach [e] X.env = (false, eval e X.env) :: starEach [] X.env := by rfl) (hline : (apos.endLine == cpos.line) = true := by rfl)
    (hbase : attributeBase (.Name y py) "append" X.env (eval (.Name y py) X.env) = eval (.Name y py) X.env := by rfl)
    (hfew : ((backTo cpos (starEach [e] X.env)).all (fun x => !x.1) && (backToKw cpos (keywordEach [] X.env)).all (fun x => x.1.isSome)
      && decide (([e] : List Expr).length + ([] : List Keyword).length + (if ([] : List Keyword).isEmpty then 0 else 1) < 30)) = true := by rfl) :
    PE X (.Call (.Attribute (.Name y py) "append" apos) [e] [] cpos) (tV W E (appM i f)) := by
  refine Nb.PE.imp (pe_bm PySem.F.plainAttrs_list PySem.F.slot_list_append PySem.F.type_list_append mt_append (pe_var hN hv hd hcd) (pa_cons hf pa_nil hs) hbase hfew hline hs) fun σ H Q ⟨G, ρ, l, h⟩ => ?_
  obtain ⟨e0, p0, vs0, es0, hp0⟩ := hasL_ok l h.nf
  unfold appM at h
  rw [e0] at h
  refine ⟨.ref p0, es0, .inl ⟨rfl, vs0, SqL.of hp0⟩, ?_⟩
  refine stepD l h fun x ρ1 v G1 H1 a dx h1 => ?_
  obtain ⟨xs, p, vs, b, ys, w, ew, ef, em, es, hp, d, tr⟩ := mut_ok a.lk h1.nf
  rw [em] at h1
  have : p = p0 := by rw [es0] at es; cases es; rfl
  subst this
  unfold appF at ef
  split at ef
  · cases ef
    refine ⟨p, vs, v, rfl, rfl, hp, by rw [DqAll.length d]; assumption, ?_⟩
    exact h1 .non G1 _ (tr _ (DqAll.append (.cons dx .nil) d)) ⟨⟨_, rfl, .non⟩, fun z => (by cases z), fun _ z => (by cases z)⟩
  · cases ef
def popF (xs : List PyData) : Option (SV × List PyData) := match xs[xs.length - 1]? with
  | some x => some (.d x, xs.dropLast)
  | none => none
def popM (i : Nat) : M SV := mutM i popF
theorem q_pop (i : Nat) {y : Str} {py apos cpos : Pos} (c : Kx X W E k) (hN : X.N[i]? = some y) (hv : Vis X.env.scope y) (hd : (y == ("__debug__" : Str)) = false := by decide) (hcd : (y == ("__classdict__" : Str)) = false := by decide)
    (hline : (apos.endLine == cpos.line) = true := by rfl)
    (hbase : attributeBase (.Name y py) "pop" X.env (eval (.Name y py) X.env) = eval (.Name y py) X.env := by rfl) :
    PE X (.Call (.Attribute (.Name y py) "pop" apos) [] [] cpos) (tV W E (popM i)) := by
  refine Nb.PE.imp (pe_bm0 PySem.F.plainAttrs_list PySem.F.slot_list_pop PySem.F.type_list_pop mt_pop (pe_var hN hv hd hcd) hbase hline) fun σ H Q ⟨G, ρ, l, h⟩ => ?_
  obtain ⟨xs, p, vs, b, ys, w, ew, ef, em, es, hp, d, tr⟩ := mut_ok l h.nf
  unfold popM at h
  rw [em] at h
  refine ⟨.ref p, es, .inl ⟨rfl, vs, SqL.of hp⟩, ?_⟩
  unfold popF at ef
  cases ex : xs[xs.length - 1]? with
  | none => rw [ex] at ef; cases ef
  | some x =>
    rw [ex] at ef
    cases ef
    obtain ⟨v, ev, dv⟩ := DqAll.get d ex
    rw [← DqAll.length d] at ev
    refine ⟨p, vs, v, rfl, rfl, hp, ev, ?_⟩
    exact h v G _ (tr _ (DqAll.dropLast d)) ⟨⟨_, rfl, dv⟩, fun z => (by cases z), fun _ z => (by cases z)⟩
def popAtF (x : PyData) (xs : List PyData) : Option (SV × List PyData) := match x with
  | .int i => if -(2 ^ 63) ≤ i ∧ i < 2 ^ 63 then match seqIndex? i xs.length with
    | some j => match xs[j]? with
      | some y => some (.d y, xs.eraseIdx j)
      | none => none
    | none => none else none
  | _ => none
def popAtM (i : Nat) (f : M PyData) : M SV := M.bind (hasL i) fun _ => M.bind f fun x => mutM i (popAtF x)
theorem q_popAt (i : Nat) {y : Str} {e : Expr} {f : M PyData} {py apos cpos : Pos} (c : Kx X W E k) (hN : X.N[i]? = some y) (hv : Vis X.env.scope y) (hf : PE X e (tD W E f)) (hd : (y == ("__debug__" : Str)) = false := by decide) (hcd : (y == ("__classdict__" : Str)) = false := by decide)
    (hs : starEach [e] X.env = (false, eval e X.env) :: starEach [] X.env := by rfl) (hline : (apos.endLine == cpos.line) = true := by rfl)
    (hbase : attributeBase (.Name y py) "pop" X.env (eval (.Name y py) X.env) = eval (.Name y py) X.env := by rfl)
    (hfew : ((backTo cpos (starEach [e] X.env)).all (fun x => !x.1) && (backToKw cpos (keywordEach [] X.env)).all (fun x => x.1.isSome)
      && decide (([e] : List Expr).length + ([] : List Keyword).length + (if ([] : List Keyword).isEmpty then 0 else 1) < 30)) = true := by rfl) :
    PE X (.Call (.Attribute (.Name y py) "pop" apos) [e] [] cpos) (tV W E (popAtM i f)) := by
  refine Nb.PE.imp (pe_bm PySem.F.plainAttrs_list PySem.F.slot_list_pop PySem.F.type_list_pop mt_popAt (pe_var hN hv hd hcd) (pa_cons hf pa_nil hs) hbase hfew hline hs) fun σ H Q ⟨G, ρ, l, h⟩ => ?_
  obtain ⟨e0, p0, vs0, es0, hp0⟩ := hasL_ok l h.nf
  unfold popAtM at h
  rw [e0] at h
  refine ⟨.ref p0, es0, .inl ⟨rfl, vs0, SqL.of hp0⟩, ?_⟩
  refine stepD l h fun x ρ1 v G1 H1 a dx h1 => ?_
  obtain ⟨xs, p, vs, b, ys, w, ew, ef, em, es, hp, d, tr⟩ := mut_ok a.lk h1.nf
  rw [em] at h1
  have : p = p0 := by rw [es0] at es; cases es; rfl
  subst this
  cases x <;> first | cases ef | skip
  rename_i j
  cases dx
  unfold popAtF at ef
  by_cases hj : -(2 ^ 63) ≤ j ∧ j < 2 ^ 63
  · simp only [if_pos hj] at ef
    cases ej : seqIndex? j xs.length with
    | none => rw [ej] at ef; cases ef
    | some m =>
      rw [ej] at ef
      simp only at ef
      cases ex : xs[m]? with
      | none => rw [ex] at ef; cases ef
      | some y =>
        rw [ex] at ef
        cases ef
        obtain ⟨u, ev, dv⟩ := DqAll.get d ex
        refine ⟨p, vs, j, m, u, rfl, rfl, hp, hj.1, hj.2, by rw [DqAll.length d]; exact ej, ev, ?_⟩
        exact h1 u G1 _ (tr _ (DqAll.eraseIdx m d)) ⟨⟨_, rfl, dv⟩, fun z => (by cases z), fun _ z => (by cases z)⟩
  · simp only [if_neg hj] at ef
    cases ef
end
end Nb

set_option Elab.async false
set_option linter.all false
set_option maxRecDepth 100000
set_option maxHeartbeats 4000000
namespace Nb
open PySem PySem.Spec L2
section
variable {X : Cx} {W : Wd} {E : XK} {k : Nat}
/-! ### stores into one's own -/
theorem PSet.or {t u : TSet} (h1 : PSet X t) (h2 : PSet X u) : PSet X (fun o i v H Q => t o i v H Q ∨ u o i v H Q) := by
  intro pins s σ H o i v ov iv w Q I ro ri rv h
  rcases h with h | h
  · exact h1 pins s σ H o i v ov iv w Q I ro ri rv h
  · exact h2 pins s σ H o i v ov iv w Q I ro ri rv h
def hasO (i : Nat) : M Unit := fun ρ => match ρ[i]? with
  | some w => if w.isOwn then .ok () ρ else .fail
  | none => .fail
theorem hasO_ok {α : Type} {i : Nat} {kk : Unit → M α} {ρ : List SV} {σ : L2.St} {G H : Hp} (l : Lk W G H ρ σ) (h : M.bind (hasO i) kk ρ ≠ .fail) : M.bind (hasO i) kk ρ = kk () ρ ∧ ∃ p w, ρ[i]? = some w ∧ w.isOwn = true ∧ σ[i]? = some (some (.ref p)) := by
  have hb : M.bind (hasO i) kk ρ = (hasO i ρ).bind kk := rfl
  rw [hb] at h ⊢
  unfold hasO at h ⊢
  cases e : ρ[i]? with
  | none => simp only [e] at h; exact (h rfl).elim
  | some w =>
    simp only [e] at h ⊢
    by_cases ho : w.isOwn = true
    · obtain ⟨ov, es, s⟩ := slotAt l e
      refine ⟨by rw [if_pos ho]; rfl, ?_⟩
      cases w <;> first | cases ho | skip
      · obtain ⟨p, vs, rfl, h1, h2, d⟩ := s; exact ⟨p, _, rfl, rfl, es⟩
      · obtain ⟨p, vs, rfl, h1, h2, d⟩ := s; exact ⟨p, _, rfl, rfl, es⟩
      · obtain ⟨p, rfl, h1, h2⟩ := s; exact ⟨p, _, rfl, rfl, es⟩
    · rw [if_neg ho] at h; exact (h rfl).elim
def stoW (y v : PyData) : SV → Option SV
  | .ls xs => match y with
    | .int j => (ixN xs.length j).map fun n => .ls (xs.set n v)
    | _ => none
  | .br xs => match y with
    | .int j => (ixN xs.length j).map fun n => .br (xs.set n v)
    | _ => none
  | .dc t ks => match v with
    | .bool true => if keyT t y = true ∧ ks.length < sizeLine then some (.dc t (addK ks y)) else none
    | _ => none
  | _ => none
def stoI (i : Nat) (y v : PyData) : M Unit := fun ρ => match ρ[i]? with
  | some w => match stoW y v w with
    | some w' => .ok () (ρ.set i w')
    | none => .fail
  | none => .fail
def rSet2 : TSet := fun o i v H Q => rSetL o i v H Q ∨ rSetD o i v H Q
theorem stoI_go {i : Nat} {y v : PyData} {a b : V} {ρ : List SV} {σ : L2.St} {G H : Hp} {D : Ends} {kk : Unit → M Fl} (l : Lk W G H ρ σ) (dy : Dq W.K G a y) (dv : Dq W.K G b v) (h : GoS W E (M.bind (stoI i y v) kk ρ) ρ σ G H D) {R : Hp → Prop}
    (hR : ∀ ρ1 H1, Tr W ρ σ G H ρ1 σ G H1 → GoS W E (kk () ρ1) ρ1 σ G H1 D → R H1) : ∃ p, σ[i]? = some (some (.ref p)) ∧ rSet2 (.ref p) a b H R := by
  have hb : M.bind (stoI i y v) kk ρ = (stoI i y v ρ).bind kk := rfl
  rw [hb] at h
  unfold stoI at h
  cases e : ρ[i]? with
  | none => simp only [e] at h; exact h.elim
  | some w =>
    simp only [e] at h
    cases ew : stoW y v w with
    | none => simp only [ew] at h; exact h.elim
    | some w' =>
      simp only [ew] at h
      obtain ⟨ov, es, s⟩ := slotAt l e
      cases w <;> first | cases ew | skip
      · rename_i xs
        obtain ⟨p, vs, rfl, h1, h2, d⟩ := s
        cases y <;> first | cases ew | skip
        rename_i j
        cases dy
        simp only [stoW, Option.map_eq_some_iff] at ew
        obtain ⟨n, en, rfl⟩ := ew
        have tr : Tr W ρ σ G H (ρ.set i (.ls (xs.set n v))) σ G (upd H p (.lst (vs.set n b))) := Tr.mut l e rfl rfl (fun _ z => by cases z) es h1 ⟨fun ps z => (by cases z), fun c q z => (by cases z)⟩ (fun ps z => by cases z) h2 ⟨p, _, rfl, upd_same, h2, DqAll.set dv n d⟩
        exact ⟨p, es, .inl ⟨p, vs, j, n, rfl, rfl, h1, by rw [DqAll.length d]; exact en, hR _ _ tr (GoS.shift h tr)⟩⟩
      · rename_i xs
        obtain ⟨p, vs, rfl, h1, h2, d⟩ := s
        cases y <;> first | cases ew | skip
        rename_i j
        cases dy
        simp only [stoW, Option.map_eq_some_iff] at ew
        obtain ⟨n, en, rfl⟩ := ew
        have tr : Tr W ρ σ G H (ρ.set i (.br (xs.set n v))) σ G (upd H p (.lst (vs.set n b))) := Tr.mut l e rfl rfl (fun _ z => ⟨_, rfl⟩) es h1 ⟨fun ps z => (by cases z), fun c q z => (by cases z)⟩ (fun ps z => by cases z) h2 ⟨p, _, rfl, upd_same, h2, DqAll.set dv n d⟩
        exact ⟨p, es, .inl ⟨p, vs, j, n, rfl, rfl, h1, by rw [DqAll.length d]; exact en, hR _ _ tr (GoS.shift h tr)⟩⟩
      · rename_i t ks
        obtain ⟨p, rfl, h1, h2⟩ := s
        cases v <;> first | cases ew | skip
        rename_i bb
        cases bb <;> first | cases ew | skip
        cases dv
        by_cases hk : keyT t y = true ∧ ks.length < sizeLine
        · simp only [stoW, if_pos hk] at ew
          cases ew
          obtain ⟨o, dp, nt, da⟩ := h1.put l.sub hk.1 dy hk.2
          have nt1 : ∀ o, H p = some o → (∀ ps, o ≠ .tbl ps) ∧ ∀ c q, o ≠ LamX.CodeO c q := by
            intro o ho
            unfold DicAt at h1
            cases t with
            | true => obtain ⟨kk, h1, _⟩ := h1; rw [h1] at ho; cases ho; exact ⟨fun ps z => (by cases z), fun c q z => (by cases z)⟩
            | false => obtain ⟨kk, h1, _⟩ := h1; rw [h1] at ho; cases ho; exact ⟨fun ps z => (by cases z), fun c q z => (by cases z)⟩
          obtain ⟨o0, ho0, _⟩ := h1.some
          have tr : Tr W ρ σ G H (ρ.set i (.dc t (addK ks y))) σ G (upd H p o) := Tr.mut l e rfl rfl (fun _ z => by cases z) es ho0 (nt1 _ ho0) nt h2 ⟨p, rfl, da, h2⟩
          exact ⟨p, es, .inr ⟨p, _, rfl, dp, hR _ _ tr (GoS.shift h tr)⟩⟩
        · simp only [stoW, if_neg hk] at ew
          cases ew
def stoM (i : Nat) (fi fv : M PyData) : M Fl := M.bind fv fun v => M.bind (hasO i) fun _ => M.bind fi fun y => M.bind (stoI i y v) fun _ => ret .nx
theorem s_sto (i : Nat) {x : Str} {e j : Expr} {fi fv : M PyData} {px tpos pos : Pos} (c : Kx X W E k) (hN : X.N[i]? = some x) (hv : Vis X.env.scope x) (he : PE X e (tD W E fv)) (hi : PE X j (tD W E fi)) (hd : (x == ("__debug__" : Str)) = false := by decide) (hcd : (x == ("__classdict__" : Str)) = false := by decide)
    (hs : swapsWithSole [.Subscript (.Name x px) j tpos] e pos.line X.env = pure false := by rfl) (hw : swappedStores [.Subscript (.Name x px) j tpos] e X.env = pure none := by rfl)
    (h1 : (assignEach [.Subscript (.Name x px) j tpos] X.env).map (·.2) = [assign (.Subscript (.Name x px) j tpos) X.env] := by rfl)
    (ha : ∀ v, assign (.Subscript (.Name x px) j tpos) X.env v = (do
      let ov ← holding [v] (eval (.Name x px) X.env)
      let iv ← holding [v, ov] (eval j X.env)
      standAt tpos
      holding [v, ov, iv] (setItem ov iv v)
      release [v, ov, iv] []) := by intro _; rfl) : PS X (.Assign [.Subscript (.Name x px) j tpos] e pos) (tS W E (stoM i fi fv)) := by
  refine Nb.PS.imp (ps_asg he (pg_sub (pe_var hN hv hd hcd) hi (PSet.or set_list (set_dict (by have := c.hu; omega))) ha) hs hw h1) fun D σ H ⟨G, ρ, l, g⟩ => ?_
  refine stepDS l g fun v ρ1 b G1 H1 a dv g1 => ?_
  obtain ⟨e0, p0, w0, ew0, ho, es0⟩ := hasO_ok a.lk g1.nf
  rw [e0] at g1
  refine ⟨.ref p0, es0, stepDS a.lk g1 fun y ρ2 z G2 H2 a2 dy g2 => ?_⟩
  obtain ⟨p, es, q⟩ := stoI_go (R := fun H3 => D.nx σ H3) a2.lk dy (Dq.mono a2.fr.gsub dv) g2 fun ρ3 H3 t3 g3 => GoS.nx t3.lk g3
  rw [es0] at es
  cases es
  exact q
/-! ### name op= e -/
def augM (o : Op2) (i : Nat) (f : M PyData) : M Fl := M.bind (peek i) fun _ => M.bind f fun y => M.bind (peek i) fun x => M.bind (o x y) fun w => M.bind (setS i w) fun _ => ret .nx
theorem peekS {i : Nat} {kk : PyData → M Fl} {ρ0 ρ : List SV} {σ0 σ : L2.St} {G0 H0 G H : Hp} {D : Ends} (l : Lk W G H ρ σ) (h : GoS W E (M.bind (peek i) kk ρ) ρ0 σ0 G0 H0 D) : ∃ v x w, ρ[i]? = some w ∧ peekO w = some x ∧ σ[i]? = some (some v) ∧ Pk W.K G H v x ∧ GoS W E (kk x ρ) ρ0 σ0 G0 H0 D := by
  have hb : M.bind (peek i) kk ρ = (peek i ρ).bind kk := rfl
  rw [hb] at h
  cases e : peek i ρ with
  | fail => rw [e] at h; exact h.elim
  | exn c => exact (peek_no e).elim
  | ok x ρ' =>
    rw [e] at h
    obtain ⟨rfl, w, e1, e2⟩ := peek_ok e
    obtain ⟨v, e3, p⟩ := l.peek e1 e2
    exact ⟨v, x, w, e1, e2, e3, p, h⟩
structure Ip (X : Cx) (W : Wd) (E : XK) (op : Operator) (o : Op2) : Prop where
  ex : ∃ r, PIp X op r ∧ LawP W E r o
def iaddM : Op2 := intM (fun _ _ => true) fun i j => i + j
def isubM : Op2 := intM (fun _ _ => true) fun i j => i - j
theorem law_intP {C : Int → Int → Bool} {P : Int → Int → Prop} {g : Int → Int → Int} (h : ∀ i j, C i j = true → P i j) : LawP W E (rI P fun i j => .int (g i j)) (intM C g) := by
  intro x y ρ σ G H Q v u l px dy h1
  cases x <;> first | exact h1.elim | skip
  cases y <;> first | exact h1.elim | skip
  rename_i i j
  obtain ⟨hc, h1⟩ := gM_ok h1
  rcases px with px | ⟨_, _, _, _, z, _⟩
  · cases px; cases dy
    exact ⟨i, j, rfl, rfl, h i j hc, Go.d l h1 (.int _)⟩
  · cases z
theorem law_ipI {g : Int → Int → Int} : LawP W E (ipI g) (intM (fun _ _ => true) g) := by
  intro x y ρ σ G H Q v u l px dy h1
  cases x <;> first | exact h1.elim | skip
  cases y <;> first | exact h1.elim | skip
  rename_i i j
  obtain ⟨hc, h1⟩ := gM_ok h1
  rcases px with px | ⟨_, _, _, _, z, _⟩
  · cases px; cases dy
    exact ⟨i, j, rfl, rfl, Go.d l h1 (.int _)⟩
  · cases z
theorem ia_add : Ip X W E .Add iaddM := ⟨_, ip_add, law_ipI⟩
theorem ia_sub : Ip X W E .Sub isubM := ⟨_, ip_sub, law_ipI⟩
theorem ia_fdiv : Ip X W E .FloorDiv fdivM := ⟨_, iop_fdiv, law_intP fun i j h => by simpa [CDiv] using h⟩
theorem s_aug (i : Nat) {x : Str} {e : Expr} {f : M PyData} {op : Operator} {o : Op2} {pos' pos : Pos} (c : Kx X W E k) (hN : X.N[i]? = some x) (hx : Loc X.env.scope x) (h : Ip X W E op o) (he : PE X e (tD W E f)) (hf : X.fn x = true ∨ X.env.scope.names.lookup x = some .local := by first | exact .inl rfl | exact .inr rfl | assumption) :
    PS X (.AugAssign (.Name x pos') op e pos) (tS W E (augM o i f)) := by
  obtain ⟨r, h1, h2⟩ := h.ex
  refine Nb.PS.imp (ps_aug c.nd hN hx he h1 hf) fun D σ H ⟨G, ρ, l, g⟩ => ?_
  obtain ⟨v, _, _, _, _, es, _, g1⟩ := peekS l g
  refine ⟨v, es, stepDS l g1 fun y ρ1 u G1 H1 a dy g2 => ?_⟩
  obtain ⟨v', x, w, _, _, es', px, g3⟩ := peekS a.lk g2
  rw [es] at es'
  cases es'
  refine h2 x y ρ1 σ G1 H1 _ v u a.lk px dy (stepVS' (Tr.refl a.lk) g3 fun w ρ2 z G2 H2 b rk g4 => ?_)
  obtain ⟨_, tr, g5⟩ := GoS.put b rk g4
  exact g5 _ _ _ tr
/-! ### name[j] op= e -/
def rGetL : V → V → Hp → VK → Prop := fun o i H Q => ∃ p xs j y, o = .ref p ∧ i = .int j ∧ H p = some (.lst xs) ∧ atI xs j = some y ∧ Q y H
theorem get_list : PGet X rGetL := by
  intro pins s σ H o i ov iv Q I ro ri h
  obtain ⟨p, xs, j, z, rfl, rfl, hq, he, q⟩ := h
  cases ro
  obtain ⟨t, rfl⟩ := ri
  obtain ⟨its, r, pl, hz⟩ := I.list (X := X) (SqL.of hq)
  obtain ⟨m, h1, h2, h3, h4, h5⟩ := atI_get he
  obtain ⟨w, ew, rw'⟩ := r.get h2
  have hl := r.length
  have hn := line63
  have fin : EP X pins σ Q w s := ⟨z, H, I, rw', q⟩
  by_cases h0 : 0 ≤ j
  · have hj : j.toNat = m := by
      rw [seqIndex_of h0 h5] at h1
      exact Option.some.inj h1
    exact wpAny_getItem_list pl.isList h0 (by omega) (by rw [hj]; simpa using ew) fin
  · have hj : (j + (its.toArray.size : Int)).toNat = m := by
      rw [seqIndex_neg (by omega) h4] at h1
      rw [List.size_toArray, ← hl]
      exact Option.some.inj h1
    exact wpAny_getItem_list_neg pl.isList (by omega) (by rw [List.size_toArray] <;> omega) (by omega) (by rw [hj]; simpa using ew) fin
def lstAt (i : Nat) : M (List PyData) := fun ρ => match ρ[i]? with
  | some w => match mutO w with
    | some xs => .ok xs ρ
    | none => .fail
  | none => .fail
theorem lstAt_ok {i : Nat} {kk : List PyData → M Fl} {ρ0 ρ : List SV} {σ0 σ : L2.St} {G0 H0 G H : Hp} {D : Ends} (l : Lk W G H ρ σ) (h : GoS W E (M.bind (lstAt i) kk ρ) ρ0 σ0 G0 H0 D) : ∃ p xs vs, σ[i]? = some (some (.ref p)) ∧ H p = some (.lst vs) ∧ DqAll W.K G vs xs ∧ GoS W E (kk xs ρ) ρ0 σ0 G0 H0 D := by
  have hb : M.bind (lstAt i) kk ρ = (lstAt i ρ).bind kk := rfl
  rw [hb] at h
  unfold lstAt at h
  cases e : ρ[i]? with
  | none => simp only [e] at h; exact h.elim
  | some w =>
    simp only [e] at h
    cases em : mutO w with
    | none => simp only [em] at h; exact h.elim
    | some xs =>
      simp only [em] at h
      obtain ⟨ov, es, s⟩ := slotAt l e
      cases w <;> first | cases em | skip
      · obtain ⟨p, vs, rfl, h1, h2, d⟩ := s
        exact ⟨p, _, vs, es, h1, d, h⟩
      · obtain ⟨p, vs, rfl, h1, h2, d⟩ := s
        exact ⟨p, _, vs, es, h1, d, h⟩
def augI (o : Op2) (i : Nat) (fj fe : M PyData) : M Fl := M.bind (lstAt i) fun _ => M.bind fj fun j => M.bind (lstAt i) fun xs => match j with
  | .int n => match atI xs n with
    | some x => M.bind fe fun y => M.bind (toD (o x y)) fun z => M.bind (stoI i j z) fun _ => ret .nx
    | none => failM
  | _ => failM
theorem toD_go {f : M SV} {ρ : List SV} {σ : L2.St} {G H : Hp} {R : VK} {kk : PyData → M Fl} {D : Ends} (l : Lk W G H ρ σ) (h : GoS W E (M.bind (toD f) kk ρ) ρ σ G H D)
    (hk : ∀ x ρ1 v G1 H1, Tr W ρ σ G H ρ1 σ G1 H1 → Dq W.K G1 v x → GoS W E (kk x ρ1) ρ1 σ G1 H1 D → R v H1) : Go W E (f ρ) ρ σ G H R := by
  have hb : M.bind (toD f) kk ρ = (toD f ρ).bind kk := rfl
  rw [hb] at h
  have ht : toD f ρ = (f ρ).bind fun w => ofO (toDO w) := rfl
  rw [ht] at h
  cases e : f ρ with
  | fail => rw [e] at h; exact h
  | exn c => rw [e] at h; exact h
  | ok w ρ1 =>
    rw [e] at h
    intro v G1 H1 a rk
    cases w <;> first | exact h.elim | skip
    · rename_i x
      obtain ⟨⟨v', ev, dv⟩, _, _⟩ := rk
      cases ev
      exact hk x ρ1 v G1 H1 a dv (GoS.shift h a)
    · rename_i xs
      obtain ⟨⟨p, vs, e', h1, h2, d⟩, ho, _⟩ := rk
      cases e'
      obtain ⟨no, nw⟩ := ho rfl p rfl
      have lk' : Lk W (upd G1 p (.lst vs)) H1 ρ1 σ := by
        refine ⟨fun b o e => ?_, fun b ps e => ?_, a.lk.len, fun i w ov e1 e2 => ?_, a.lk.sep, a.lk.tabs⟩
        · by_cases hb : b = p
          · subst hb; rw [upd_same] at e; cases e; exact h1
          · rw [upd_ne hb] at e; exact a.lk.sub b o e
        · by_cases hb : b = p
          · subst hb; rw [upd_same] at e; cases e
          · rw [upd_ne hb] at e; exact a.lk.gt b ps e
        · refine (a.lk.slot i w ov e1 e2).mono (Sub.self h2) (fun _ _ _ _ z _ => z) fun q hw e z => ?_
          have : q ≠ p := fun z' => no ⟨i, w, e1, hw, by rw [e2, e, z']⟩
          rw [upd_ne this]; exact z
      have tr : Tr W ρ σ G H ρ1 σ (upd G1 p (.lst vs)) H1 := by
        refine ⟨lk', ⟨a.fr.keep, a.fr.tbl, fun b o e => Sub.self h2 b o (a.fr.gsub b o e), fun b o e => ?_⟩, a.onew, a.brs⟩
        by_cases hb : b = p
        · subst hb
          rcases nw with z | z
          · exact .inr (.inl z)
          · exact .inr (.inr (.inl z))
        · rw [upd_ne hb] at e; exact a.fr.gnew b o e
      exact hk (.list xs) ρ1 (.ref p) _ H1 tr (.lst upd_same (DqAll.mono (Sub.self h2) d)) (GoS.shift h tr)
theorem s_augI (i : Nat) {x : Str} {j e : Expr} {fj fe : M PyData} {op : Operator} {o : Op2} {px tpos pos : Pos} (c : Kx X W E k) (hN : X.N[i]? = some x) (hv : Vis X.env.scope x) (h : Ip X W E op o) (hj : PE X j (tD W E fj)) (he : PE X e (tD W E fe)) (hd : (x == ("__debug__" : Str)) = false := by decide) (hcd : (x == ("__classdict__" : Str)) = false := by decide)
    (ha : ∀ ov iv new, augStore j ov iv new = (do holding [new, ov, iv] (setItem ov iv new); release [new, ov, iv] []; pure .next) := by intros; rfl) : PS X (.AugAssign (.Subscript (.Name x px) j tpos) op e pos) (tS W E (augI o i fj fe)) := by
  obtain ⟨r, h1, h2⟩ := h.ex
  refine Nb.PS.imp (ps_augS (pe_var hN hv hd hcd) hj get_list he h1 (PSet.or set_list (set_dict (by have := c.hu; omega))) ha) fun D σ H ⟨G, ρ, l, g⟩ => ?_
  obtain ⟨p, _, _, es, _, _, g1⟩ := lstAt_ok l g
  refine ⟨.ref p, es, stepDS l g1 fun y ρ1 u G1 H1 a dy g2 => ?_⟩
  obtain ⟨p', xs, vs, es', hp, d, g3⟩ := lstAt_ok a.lk g2
  rw [es] at es'
  cases es'
  cases y <;> first | exact g3.elim | skip
  rename_i n
  cases dy
  simp only at g3
  cases ex : atI xs n with
  | none => simp only [ex] at g3; exact g3.elim
  | some x =>
    simp only [ex] at g3
    obtain ⟨v, ev, dv⟩ := atI_dq d ex
    refine ⟨p, vs, n, v, rfl, rfl, hp, ev, stepDS a.lk g3 fun z ρ2 q G2 H2 b dz g4 => ?_⟩
    refine h2 x z ρ2 σ G2 H2 _ v q b.lk (.inl (Dq.mono b.fr.gsub dv)) dz (toD_go b.lk g4 fun zz ρ3 r G3 H3 c3 dr g5 => ?_)
    obtain ⟨p3, es3, q3⟩ := stoI_go (R := fun H4 => D.nx σ H4) c3.lk (.int n) dr g5 fun ρ4 H4 t4 g6 => GoS.nx t4.lk g6
    rw [es] at es3
    cases es3
    exact q3
end
end Nb

set_option Elab.async false
set_option linter.all false
set_option maxRecDepth 100000
set_option maxHeartbeats 4000000
namespace Nb
open PySem PySem.Spec L2
/-! ### what a def promises -/
abbrev Mir := List SV → Res SV
def spM (W : Wd) (n : Nat) (F : Mir) : Sp := fun vs H Q E => vs.length = n ∧ tV W E F (vs.map some) H Q
/-- what the caller sees of the parameters behind the call: a lent list's new items -/
def backs (ρ ρ' : List SV) : List SV := ρ.mapIdx fun i w => match w with
  | .br _ => (ρ'[i]?).getD .un
  | _ => .un
def bodyM (n N : Nat) (B : M Fl) : Mir := fun ρ => if ρ.length = n then match B (ρ ++ List.replicate (N - n) .un) with
  | .ok .nx ρ' => .ok (.d .none) (backs ρ ρ')
  | .ok (.rt w) ρ' => .ok w (backs ρ ρ')
  | .ok _ _ => .fail
  | .exn c => .exn c
  | .fail => .fail else .fail
section
variable {W : Wd} {E : XK}
theorem ext_len {n N : Nat} {ρ : List SV} {vs : List V} (h : ρ.length = n) (hv : vs.length = n) (hN : n ≤ N) (ws : List Str) (hw : ws.length = N) : (ρ ++ List.replicate (N - n) SV.un).length = (L2.start ws vs).length := by
  unfold L2.start
  simp only [List.length_append, List.length_replicate, List.length_map]
  omega
theorem own_ext {ρ : List SV} {vs : List V} {n N : Nat} {ws : List Str} {b : Addr} (hl : ρ.length = vs.length) : OwnS (ρ ++ List.replicate (N - n) SV.un) (L2.start ws vs) b ↔ OwnS ρ (vs.map some) b := by
  constructor
  · rintro ⟨i, w, e1, e2, e3⟩
    by_cases hi : i < ρ.length
    · rw [List.getElem?_append_left hi] at e1
      refine ⟨i, w, e1, e2, ?_⟩
      unfold L2.start at e3
      rw [List.getElem?_append_left (by rw [List.length_map]; omega)] at e3
      exact e3
    · rw [List.getElem?_append_right (by omega), List.getElem?_replicate] at e1
      split at e1
      · cases e1; cases e2
      · cases e1
  · rintro ⟨i, w, e1, e2, e3⟩
    have hi : i < ρ.length := (List.getElem?_eq_some_iff.mp e1).1
    refine ⟨i, w, by rw [List.getElem?_append_left hi]; exact e1, e2, ?_⟩
    unfold L2.start
    rw [List.getElem?_append_left (by rw [List.length_map]; omega)]
    exact e3
theorem Lk.ext {G H : Hp} {ρ : List SV} {vs : List V} {n N : Nat} {ws : List Str} (l : Lk W G H ρ (vs.map some)) (hn : vs.length = n) (hN : n ≤ N) (hw : ws.length = N) : Lk W G H (ρ ++ List.replicate (N - n) .un) (L2.start ws vs) := by
  have hl : ρ.length = vs.length := by rw [l.len, List.length_map]
  have get : ∀ i w, (ρ ++ List.replicate (N - n) SV.un)[i]? = some w → (i < ρ.length ∧ ρ[i]? = some w) ∨ w = .un := fun i w e => by
    by_cases hi : i < ρ.length
    · rw [List.getElem?_append_left hi] at e; exact .inl ⟨hi, e⟩
    · rw [List.getElem?_append_right (by omega), List.getElem?_replicate] at e
      split at e
      · cases e; exact .inr rfl
      · cases e
  have gs : ∀ i, i < ρ.length → (L2.start ws vs)[i]? = (vs.map some)[i]? := fun i hi => by
    unfold L2.start
    rw [List.getElem?_append_left (by rw [List.length_map]; omega)]
  refine ⟨l.sub, l.gt, ext_len (by omega) hn hN ws hw, fun i w ov e1 e2 => ?_, fun i j wi wj p hij e1 e2 o1 o2 s1 s2 => ?_, l.tabs⟩
  · rcases get i w e1 with ⟨hi, e⟩ | rfl
    · rw [gs i hi] at e2; exact l.slot i w ov e e2
    · trivial
  · rcases get i wi e1 with ⟨hi, e1⟩ | rfl
    · rcases get j wj e2 with ⟨hj, e2⟩ | rfl
      · rw [gs i hi] at s1
        rw [gs j hj] at s2
        exact l.sep i j wi wj p hij e1 e2 o1 o2 s1 s2
      · cases o2
    · cases o1
theorem backs_len (ρ ρ' : List SV) : (backs ρ ρ').length = ρ.length := by simp [backs]
theorem backs_get {ρ ρ' : List SV} {i : Nat} {w : SV} (h : (backs ρ ρ')[i]? = some w) (ho : w ≠ .un) : ∃ xs, ρ[i]? = some (.br xs) ∧ ρ'[i]? = some w := by
  unfold backs at h
  rw [List.getElem?_mapIdx] at h
  cases e1 : ρ[i]? with
  | none => rw [e1] at h; simp at h
  | some u =>
    rw [e1] at h
    cases u with
    | br xs =>
      have h : some ((ρ'[i]?).getD .un) = some w := h
      cases e2 : ρ'[i]? with
      | none => rw [e2] at h; exact absurd (Option.some.inj h).symm ho
      | some u' => rw [e2] at h; exact ⟨xs, rfl, h⟩
    | un => exact absurd (Option.some.inj h).symm ho
    | d x => exact absurd (Option.some.inj h).symm ho
    | ls x => exact absurd (Option.some.inj h).symm ho
    | dc t x => exact absurd (Option.some.inj h).symm ho
    | fd t x => exact absurd (Option.some.inj h).symm ho
    | fn x => exact absurd (Option.some.inj h).symm ho
theorem Tr.back {G H G' H' : Hp} {ρ ρ' : List SV} {vs : List V} {σ' : L2.St} {n N : Nat} {ws : List Str} (l : Lk W G H ρ (vs.map some)) (hn : vs.length = n) (hN : n ≤ N) (hw : ws.length = N) (a : Tr W (ρ ++ List.replicate (N - n) .un) (L2.start ws vs) G H ρ' σ' G' H') :
    Tr W ρ (vs.map some) G H (backs ρ ρ') (vs.map some) G' H' ∧ ∀ b, OwnS (backs ρ ρ') (vs.map some) b → OwnS ρ' σ' b := by
  have hl : ρ.length = vs.length := by rw [l.len, List.length_map]
  have key : ∀ (i : Nat) (w : SV), (backs ρ ρ')[i]? = some w → w ≠ SV.un → ∃ xs xs', ρ[i]? = some (SV.br xs) ∧ w = SV.br xs' ∧ ρ'[i]? = some (SV.br xs') ∧ σ'[i]? = (vs.map some)[i]? := fun i w e ho => by
    obtain ⟨xs, e1, e2⟩ := backs_get e ho
    have hi : i < ρ.length := (List.getElem?_eq_some_iff.mp e1).1
    obtain ⟨xs', e3, e4⟩ := a.brs i xs (by rw [List.getElem?_append_left hi]; exact e1)
    rw [e2] at e3
    cases e3
    refine ⟨xs, xs', e1, rfl, e2, ?_⟩
    rw [e4]
    unfold L2.start
    rw [List.getElem?_append_left (by rw [List.length_map]; omega)]
  have owns : ∀ b, OwnS (backs ρ ρ') (vs.map some) b → OwnS ρ' σ' b ∧ OwnS ρ (vs.map some) b := fun b ⟨i, w, e1, e2, e3⟩ => by
    obtain ⟨xs, xs', h1, h0, h2, h3⟩ := key i w e1 (fun z => by rw [z] at e2; cases e2)
    exact ⟨⟨i, .br xs', h2, rfl, by rw [h3]; exact e3⟩, ⟨i, .br xs, h1, rfl, e3⟩⟩
  refine ⟨⟨⟨a.lk.sub, a.lk.gt, by rw [backs_len]; exact l.len, fun i w ov e1 e2 => ?_, fun i j wi wj p hij e1 e2 o1 o2 s1 s2 => ?_, a.lk.tabs⟩, ⟨fun b o e nb nt => a.fr.keep b o e (fun z => nb ((own_ext hl).mp z)) nt, a.fr.tbl, a.fr.gsub, fun b o e => ?_⟩, fun b hb => .inr (owns b hb).2, fun i xs e => ?_⟩, fun b hb => (owns b hb).1⟩
  · by_cases hu : w = .un
    · subst hu; trivial
    · obtain ⟨xs, xs', h1, rfl, h2, h3⟩ := key i w e1 hu
      exact a.lk.slot i _ ov h2 (by rw [h3]; exact e2)
  · obtain ⟨_, x1, _, rfl, h2, h3⟩ := key i wi e1 (fun z => by rw [z] at o1; cases o1)
    obtain ⟨_, x2, _, rfl, h4, h5⟩ := key j wj e2 (fun z => by rw [z] at o2; cases o2)
    exact a.lk.sep i j _ _ p hij h2 h4 rfl rfl (by rw [h3]; exact s1) (by rw [h5]; exact s2)
  · rcases a.fr.gnew b o e with z | z | z | z
    · exact .inl z
    · exact .inr (.inl z)
    · exact .inr (.inr (.inl ((own_ext hl).mp z)))
    · exact .inr (.inr (.inr z))
  · have hi : i < ρ.length := (List.getElem?_eq_some_iff.mp e).1
    obtain ⟨xs', e3, e4⟩ := a.brs i xs (by rw [List.getElem?_append_left hi]; exact e)
    refine ⟨xs', ?_, rfl⟩
    unfold backs
    rw [List.getElem?_mapIdx, e]
    show some ((ρ'[i]?).getD .un) = _
    rw [e3]
    rfl
/-- a body's derivation gives the def's promise -/
theorem body_red {n N : Nat} {ws : List Str} {B : M Fl} {vs : List V} {H : Hp} {Q : VK} (hN : n ≤ N) (hw : ws.length = N) (h : spM W n (bodyM n N B) vs H Q E) : tS W E B { nx := fun _ H' => Q .non H', rt := Q } (L2.start ws vs) H := by
  obtain ⟨hn, G, ρ, l, g⟩ := h
  have hl : ρ.length = vs.length := by rw [l.len, List.length_map]
  refine ⟨G, ρ ++ List.replicate (N - n) .un, l.ext hn hN hw, ?_⟩
  unfold bodyM at g
  rw [if_pos (by omega)] at g
  cases e : B (ρ ++ List.replicate (N - n) .un) with
  | fail => simp only [e] at g; exact g
  | exn c =>
    simp only [e] at g
    exact fun cls dx H' hx k u t => g cls dx H' hx (fun b o e1 n1 nt => k b o e1 (fun z => n1 ((own_ext hl).mp z)) nt) u t
  | ok fl ρ' =>
    cases fl with
    | nx =>
      simp only [e] at g
      intro σ' G' H' a
      obtain ⟨t, ow⟩ := Tr.back l hn hN hw a
      exact g .non G' H' t ⟨⟨_, rfl, .non⟩, fun z => (by cases z), fun _ z => (by cases z)⟩
    | rt w =>
      simp only [e] at g
      intro v σ' G' H' a rk
      obtain ⟨t, ow⟩ := Tr.back l hn hN hw a
      refine g v G' H' t ⟨rk.1, fun ho p ev => ⟨fun z => (rk.2.1 ho p ev).1 (ow p z), ?_⟩, rk.2.2⟩
      rcases (rk.2.1 ho p ev).2 with z | z
      · exact .inl z
      · exact .inr ((own_ext hl).mp z)
    | bk => simp only [e] at g; exact g.elim
    | ct => simp only [e] at g; exact g.elim
end
/-- the context of a def's body -/
structure Ky (X : Cx) (W : Wd) (E : XK) (k : Nat) : Prop extends Kx X W E k where
  own : PassesOwn (model X.prog X.w) X.A X.env X.xe
  tk : Takes X (fun cls d _ H => E cls d H)
section
variable {P : Program} {w : World} {K : PySem.W.Frag} {mg : Str → Option Value} {base : Heap}
/-- THE RULE for a def -/
theorem fn_ok {W : Wd} {x qual : Str} {st : Stmt} {f : Addr} {fd : FuncData} {N ps : List Str} {k : Nat} {B : M Fl} (F : Fun K x qual st f fd) (S : FnScope N ps (defScope st)) (hK : W.K = K)
    (h : ∀ (cdv : Value) (A : Around) (outer : List Env) (s : Shared) (H : Hp) (E : XK), Ky (cxOf (L2.CX P w) P w K mg base N qual (defScope st) f cdv A outer s H E) W E k → PSs (cxOf (L2.CX P w) P w K mg base N qual (defScope st) f cdv A outer s H E) (defBody st) (tS W E B)) :
    FnOk P w K mg base (L2.CX P w) (k + 1) f fd ps (spM W ps.length (bodyM ps.length N.length B)) := by
  refine F.okX S (fun vs H Q E h => h.1) fun cdv A outer s H vs Q E hr hs => ?_
  have hN : ps.length ≤ N.length := by have := congrArg List.length S.pre; rw [List.length_take] at this; omega
  have tk : Takes (cxOf (L2.CX P w) P w K mg base N qual (defScope st) f cdv A outer s H E) (fun cls d _ H => E cls d H) := takes_of rfl rfl rfl rfl
  exact ⟨_, h cdv A outer s H E ⟨⟨hK.symm, rfl, S.nd, hr, passes_call tk (fun _ _ _ _ h => h)⟩, passes_of rfl, tk⟩, body_red hN rfl hs⟩
end
/-! ### calls -/
section
variable {X : Cx} {W : Wd} {E : XK} {k : Nat}
theorem Tr.noOwn {G H G' H' : Hp} {ρ ρ' : List SV} {σ : L2.St} {ds : List PyData} {vs : List V} {ρ'' : List SV} {σ'' : L2.St} (l : Lk W G H ρ σ) (a : Tr W (ds.map SV.d) (vs.map some) G H ρ'' σ'' G' H') : Tr W ρ σ G H ρ σ G' H' := by
  have no : ∀ b, ¬ OwnS (ds.map SV.d) (vs.map some) b := fun b ⟨i, w, e1, e2, _⟩ => by
    rw [List.getElem?_map] at e1
    cases q : ds[i]? with
    | none => rw [q] at e1; cases e1
    | some x => rw [q] at e1; cases e1; cases e2
  exact Tr.frame l ⟨fun b o e n nt => a.fr.keep b o e (no b) nt, a.fr.tbl, a.fr.gsub, fun b o e => by
    rcases a.fr.gnew b o e with z | z | z | z
    · exact .inl z
    · exact .inr (.inl z)
    · exact (no b z).elim
    · exact .inr (.inr (.inr z))⟩ a.lk.sub a.lk.gt a.lk.tabs
theorem lk_ds {G H : Hp} {ρ : List SV} {σ : L2.St} (l : Lk W G H ρ σ) {vs : List V} {ds : List PyData} (d : DqAll W.K G vs ds) : Lk W G H (ds.map SV.d) (vs.map some) := by
  have no : ∀ (i : Nat) (w : SV), (ds.map SV.d)[i]? = some w → ∃ x, ds[i]? = some x ∧ w = .d x := fun i w e => by
    rw [List.getElem?_map] at e
    cases q : ds[i]? with
    | none => rw [q] at e; cases e
    | some x => rw [q] at e; cases e; exact ⟨x, rfl, rfl⟩
  refine ⟨l.sub, l.gt, by rw [List.length_map, List.length_map, DqAll.length d], fun i w ov e1 e2 => ?_, fun i j wi wj p _ e1 _ o1 _ _ _ => ?_, l.tabs⟩
  · obtain ⟨x, ex, rfl⟩ := no i w e1
    obtain ⟨v, ev, dv⟩ := DqAll.get d ex
    rw [List.getElem?_map, ev] at e2
    cases e2
    exact ⟨v, rfl, dv⟩
  · obtain ⟨x, ex, rfl⟩ := no i wi e1
    cases o1
/-- a def called on data -/
def callM (n : Nat) (F : Mir) (g : M (List PyData)) : M SV := M.bind g fun xs ρ => if xs.length = n then match F (xs.map SV.d) with
  | .ok w _ => .ok w ρ
  | .exn c => .exn c
  | .fail => .fail else .fail
theorem q_call {n : Nat} {F : Mir} {f : Addr} {fd : FuncData} {ps : List Str} {kc : Nat} {x : Str} {p pos : Pos} {e : Expr} {es : List Expr} {g : M (List PyData)} (c : Kx X W E k) (Fo : FnOk X.prog X.w X.K X.mg X.base (L2.CX X.prog X.w) kc f fd ps (spM W n F)) (hk : kc ≤ k) (hg : Gl X x) (hm : X.mg x = some (.ref f)) (hkp : PySem.W.keepIn X.K (.ref f) = true) (hb : Binds X.K fd ps [])
    (ha : PA X (e :: es) (tL W E g)) (hdb : (x == ("__debug__" : Str)) = false := by decide) (he : starEach (e :: es) X.env = (false, eval e X.env) :: starEach es X.env := by rfl) (hpl : (backTo pos (starEach es X.env)).any (·.1) = false := by rfl) :
    PE X (.Call (.Name x p) (e :: es) [] pos) (tV W E (callM n F g)) := by
  refine Nb.PE.imp (pe_call (Fo.mono hk) c.room hg hm hkp hb .nil c.pas ha hdb he hpl) fun σ H Q ⟨G, ρ, l, h⟩ => ?_
  refine stepL l h fun xs ρ1 vs G1 H1 a d h1 => ?_
  by_cases hx : xs.length = n
  · rw [if_pos hx] at h1
    rw [List.append_nil]
    refine ⟨by rw [DqAll.length d]; exact hx, G1, xs.map SV.d, lk_ds a.lk d, ?_⟩
    cases ef : F (xs.map SV.d) with
    | fail => rw [ef] at h1; exact h1
    | exn cc =>
      rw [ef] at h1
      intro cls dx H' hx k u t
      refine h1 cls dx H' hx (fun b o e n nt => k b o e (fun ⟨i, w, e1, e2, _⟩ => ?_) nt) u t
      rw [List.getElem?_map] at e1
      cases q : xs[i]? with
      | none => rw [q] at e1; cases e1
      | some x => rw [q] at e1; cases e1; cases e2
    | ok w ρ'' =>
      rw [ef] at h1
      intro v G2 H2 b rk
      refine h1 v G2 H2 (Tr.noOwn (ρ' := ρ1) a.lk b) ⟨rk.1, fun ho p ev => ?_, rk.2.2⟩
      have np : H1 p = Option.none := by
        rcases (rk.2.1 ho p ev).2 with z | ⟨i, w', e1, e2, _⟩
        · exact z
        · rw [List.getElem?_map] at e1
          cases q : xs[i]? with
          | none => rw [q] at e1; cases e1
          | some x => rw [q] at e1; cases e1; cases e2
      exact ⟨notOwn a.lk np, .inl np⟩
  · rw [if_neg hx] at h1
    exact h1.elim
theorem own_of_mut {w : SV} {xs : List PyData} (h : mutO w = some xs) : w.isOwn = true := by
  cases w <;> first | rfl | cases h
theorem own_relist (w : SV) (ys : List PyData) : (w.relist ys).isOwn = true := by cases w <;> rfl
theorem sok_mut {G H : Hp} {w : SV} {ys : List PyData} {p : Addr} (s : SOk W G H w (some (.ref p))) (em : mutO w = some ys) : ∃ us, H p = some (.lst us) ∧ G p = Option.none ∧ DqAll W.K G us ys := by
  cases w with
  | ls xs => cases em; obtain ⟨q, us, eq, h1, h2, d⟩ := s; cases eq; exact ⟨us, h1, h2, d⟩
  | br xs => cases em; obtain ⟨q, us, eq, h1, h2, d⟩ := s; cases eq; exact ⟨us, h1, h2, d⟩
  | un => cases em
  | d x => cases em
  | dc t ks => cases em
  | fd t ks => cases em
  | fn F => cases em
theorem sok_relist {G H : Hp} {w : SV} {ys : List PyData} {p : Addr} {us : List V} (h1 : H p = some (.lst us)) (h2 : G p = Option.none) (d : DqAll W.K G us ys) : SOk W G H (w.relist ys) (some (.ref p)) := by
  cases w <;> exact ⟨p, us, rfl, h1, h2, d⟩
def brO : Option SV → Option (List PyData)
  | some (.br ys) => some ys
  | _ => none
theorem brO_eq {o : Option SV} {ys : List PyData} (h : brO o = some ys) : o = some (.br ys) := by
  unfold brO at h
  split at h
  · cases h; rfl
  · cases h
/-- a def called with one's own list lent in front -/
def callR (n : Nat) (F : Mir) (i : Nat) (g : M (List PyData)) : M SV := M.bind (hasL i) fun _ => M.bind g fun xs ρ => match ρ[i]? with
  | some w => match mutO w with
    | some ys => if xs.length + 1 = n then match F (.br ys :: xs.map SV.d) with
      | .ok u ρ'' => match brO ρ''[0]? with
        | some ys' => .ok u (ρ.set i (w.relist ys'))
        | none => .fail
      | .exn c => .exn c
      | .fail => .fail else .fail
    | none => .fail
  | none => .fail
theorem lk_br {G H : Hp} {ρ : List SV} {σ : L2.St} (l : Lk W G H ρ σ) {vs us : List V} {ds ys : List PyData} {p : Addr} (d : DqAll W.K G vs ds) (h1 : H p = some (.lst us)) (h2 : G p = Option.none) (d2 : DqAll W.K G us ys) : Lk W G H (.br ys :: ds.map SV.d) ((V.ref p :: vs).map some) := by
  have l0 := lk_ds l d
  refine ⟨l.sub, l.gt, by simp [DqAll.length d], fun i w ov e1 e2 => ?_, fun i j wi wj q hij e1 e2 o1 o2 _ _ => ?_, l.tabs⟩
  · cases i with
    | zero => cases e1; cases e2; exact ⟨p, us, rfl, h1, h2, d2⟩
    | succ i => exact l0.slot i w ov e1 e2
  · have no : ∀ (i : Nat) (w : SV), (SV.br ys :: ds.map SV.d)[i]? = some w → w.isOwn = true → i = 0 := fun i w e o => by
      cases i with
      | zero => rfl
      | succ i =>
        rw [List.getElem?_cons_succ, List.getElem?_map] at e
        cases q : ds[i]? with
        | none => rw [q] at e; cases e
        | some x => rw [q] at e; cases e; cases o
    exact hij ((no i wi e1 o1).trans (no j wj e2 o2).symm)
theorem own_br {vs : List V} {ds ys : List PyData} {p b : Addr} : OwnS (.br ys :: ds.map SV.d) ((V.ref p :: vs).map some) b ↔ b = p := by
  constructor
  · rintro ⟨i, w, e1, e2, e3⟩
    cases i with
    | zero => cases e3; rfl
    | succ i =>
      rw [List.getElem?_cons_succ, List.getElem?_map] at e1
      cases q : ds[i]? with
      | none => rw [q] at e1; cases e1
      | some x => rw [q] at e1; cases e1; cases e2
  · rintro rfl
    exact ⟨0, _, rfl, rfl, rfl⟩
theorem Tr.lend {G H G' H' : Hp} {ρ : List SV} {σ : L2.St} {ds ys ys' : List PyData} {vs us : List V} {ρ'' : List SV} {i : Nat} {w : SV} {p : Addr} (l : Lk W G H ρ σ) (e : ρ[i]? = some w) (em : mutO w = some ys) (es : σ[i]? = some (some (.ref p))) (hp : H p = some (.lst us)) (gp : G p = Option.none)
    (a : Tr W (.br ys :: ds.map SV.d) ((V.ref p :: vs).map some) G H ρ'' ((V.ref p :: vs).map some) G' H') (e0 : ρ''[0]? = some (.br ys')) : Tr W ρ σ G H (ρ.set i (w.relist ys')) σ G' H' := by
  have hi : i < ρ.length := (List.getElem?_eq_some_iff.mp e).1
  have hw : w.isOwn = true := own_of_mut em
  have hw' : (w.relist ys').isOwn = true := own_relist w ys'
  have own : OwnS ρ σ p := ⟨i, w, e, hw, es⟩
  have sep : ∀ j u, j ≠ i → ρ[j]? = some u → u.isOwn = true → σ[j]? ≠ some (some (V.ref p)) := fun j u hj ej hu z => l.sep j i u w p hj ej e hu hw z es
  have slots : ∀ (j : Nat) (u : SV), (ρ.set i (w.relist ys'))[j]? = some u → (j = i ∧ u = w.relist ys') ∨ (j ≠ i ∧ ρ[j]? = some u) := fun j u ej => by
    by_cases hj : j = i
    · subst hj
      rw [List.getElem?_set_self hi] at ej
      cases ej
      exact .inl ⟨rfl, rfl⟩
    · rw [List.getElem?_set_ne (Ne.symm hj)] at ej
      exact .inr ⟨hj, ej⟩
  have s0 := a.lk.slot 0 _ _ e0 rfl
  have si : SOk W G' H' (w.relist ys') (some (.ref p)) := by
    obtain ⟨q, ws, eq, h1, h2, d⟩ := s0
    cases eq
    exact sok_relist h1 h2 d
  refine ⟨⟨a.lk.sub, a.lk.gt, by rw [List.length_set]; exact l.len, fun j u ov ej eo => ?_, fun j k wj wk q hjk ej ek hj hk sj sk => ?_, a.lk.tabs⟩, ⟨fun b o eb nb nt => a.fr.keep b o eb (fun z => nb (by rw [own_br.mp z]; exact own)) nt, a.fr.tbl, a.fr.gsub, fun b o eb => ?_⟩, fun b ⟨j, u, ej, hu, sj⟩ => ?_, fun j xs ej => ?_⟩
  · rcases slots j u ej with ⟨e1, e2⟩ | ⟨hj, ej⟩
    · rw [e1, es] at eo; cases eo; rw [e2]; exact si
    · refine (l.slot j u ov ej eo).mono a.fr.gsub (fun q o hu eq z nt => a.fr.keep q o z (fun y => ?_) nt) fun q hu eq z => ?_
      · have := own_br.mp y
        subst this
        exact sep j u hj ej hu (by rw [eo, eq])
      · cases qq : G' q with
        | none => rfl
        | some o =>
          rcases a.fr.gnew q o qq with y | y | y | ⟨y, xs, hz⟩
          · rw [z] at y; cases y
          · have : OwnS ρ σ q := ⟨j, u, ej, hu, by rw [eo, eq]⟩
            obtain ⟨⟨o', ho', _⟩, _⟩ := OwnS.some l this
            rw [ho'] at y; cases y
          · have := own_br.mp y
            subst this
            exact (sep j u hj ej hu (by rw [eo, eq])).elim
          · have : OwnS ρ σ q := ⟨j, u, ej, hu, by rw [eo, eq]⟩
            obtain ⟨⟨o', ho', _, nu⟩, _⟩ := OwnS.some l this
            rw [ho'] at y; cases y
            exact absurd hz (nu xs)
  · have fix : ∀ (j : Nat) (wj : SV), (ρ.set i (w.relist ys'))[j]? = some wj → wj.isOwn = true → ∃ u : SV, ρ[j]? = some u ∧ u.isOwn = true := fun j wj ej hj => by
      rcases slots j wj ej with ⟨e1, e2⟩ | ⟨_, ej⟩
      · exact ⟨w, by rw [e1]; exact e, hw⟩
      · exact ⟨wj, ej, hj⟩
    obtain ⟨u1, e1, o1⟩ := fix j wj ej hj
    obtain ⟨u2, e2, o2⟩ := fix k wk ek hk
    exact l.sep j k u1 u2 q hjk e1 e2 o1 o2 sj sk
  · rcases a.fr.gnew b o eb with z | z | z | z
    · exact .inl z
    · exact .inr (.inl z)
    · rw [own_br.mp z]; exact .inr (.inr (.inl own))
    · exact .inr (.inr (.inr z))
  · rcases slots j u ej with ⟨e1, e2⟩ | ⟨_, ej⟩
    · refine .inr ⟨i, w, e, hw, ?_⟩
      rw [← e1]; exact sj
    · exact .inr ⟨j, u, ej, hu, sj⟩
  · by_cases hj : j = i
    · subst hj
      rw [e] at ej
      cases ej
      exact ⟨ys', by rw [List.getElem?_set_self hi]; rfl, rfl⟩
    · exact ⟨xs, by rw [List.getElem?_set_ne (Ne.symm hj)]; exact ej, rfl⟩
theorem q_callR {n : Nat} {F : Mir} {f : Addr} {fd : FuncData} {ps : List Str} {kc : Nat} {x y : Str} {p py pos : Pos} {es : List Expr} {g : M (List PyData)} (c : Kx X W E k) (i : Nat) (hN : X.N[i]? = some y) (hv : Vis X.env.scope y) (Fo : FnOk X.prog X.w X.K X.mg X.base (L2.CX X.prog X.w) kc f fd ps (spM W n F)) (hk : kc ≤ k) (hg : Gl X x) (hm : X.mg x = some (.ref f)) (hkp : PySem.W.keepIn X.K (.ref f) = true) (hb : Binds X.K fd ps [])
    (ha : PA X es (tL W E g)) (hd : (y == ("__debug__" : Str)) = false := by decide) (hcd : (y == ("__classdict__" : Str)) = false := by decide) (hdb : (x == ("__debug__" : Str)) = false := by decide) (he : starEach (.Name y py :: es) X.env = (false, eval (.Name y py) X.env) :: starEach es X.env := by rfl) (hpl : (backTo pos (starEach es X.env)).any (·.1) = false := by rfl) :
    PE X (.Call (.Name x p) (.Name y py :: es) [] pos) (tV W E (callR n F i g)) := by
  refine Nb.PE.imp (pe_call (Fo.mono hk) c.room hg hm hkp hb .nil c.pas (pa_cons (pe_var hN hv hd hcd) ha he) hdb he hpl) fun σ H Q ⟨G, ρ, l, h⟩ => ?_
  obtain ⟨e0, p0, vs0, es0, hp0⟩ := hasL_ok l h.nf
  unfold callR at h
  rw [e0] at h
  refine ⟨.ref p0, es0, ?_⟩
  refine stepL l h fun xs ρ1 vs G1 H1 a d h1 => ?_
  cases e : ρ1[i]? with
  | none => simp only [e] at h1; exact h1.elim
  | some w =>
    simp only [e] at h1
    cases em : mutO w with
    | none => simp only [em] at h1; exact h1.elim
    | some ys =>
      simp only [em] at h1
      obtain ⟨ov, es, s⟩ := slotAt a.lk e
      rw [es0] at es
      cases es
      have st : ∃ us, H1 p0 = some (.lst us) ∧ G1 p0 = Option.none ∧ DqAll W.K G1 us ys := sok_mut s em
      obtain ⟨us, hp, gp, dy⟩ := st
      by_cases hx : xs.length + 1 = n
      · rw [if_pos hx] at h1
        rw [List.append_nil]
        refine ⟨by rw [List.length_cons, DqAll.length d]; exact hx, G1, .br ys :: xs.map SV.d, lk_br a.lk d hp gp dy, ?_⟩
        have own : OwnS ρ1 σ p0 := ⟨i, w, e, own_of_mut em, es0⟩
        cases ef : F (.br ys :: xs.map SV.d) with
        | fail => rw [ef] at h1; exact h1
        | exn cc =>
          rw [ef] at h1
          intro cls dx H' hx k u t
          exact h1 cls dx H' hx (fun b o e n nt => k b o e (fun z => n (by rw [own_br.mp z]; exact own)) nt) u t
        | ok u ρ'' =>
          rw [ef] at h1
          simp only at h1
          cases eb0 : brO ρ''[0]? with
          | none => simp only [eb0] at h1; exact h1.elim
          | some ys' =>
            simp only [eb0] at h1
            have eb := brO_eq eb0
            intro v G2 H2 b rk
            refine h1 v G2 H2 (Tr.lend a.lk e em es0 hp gp b eb) ⟨rk.1, fun ho q ev => ?_, rk.2.2⟩
            obtain ⟨no, nw⟩ := rk.2.1 ho q ev
            have nq : q ≠ p0 := fun z => no ⟨0, _, eb, rfl, by rw [z]; rfl⟩
            have hq : H1 q = Option.none := by
              rcases nw with z | z
              · exact z
              · exact (nq (own_br.mp z)).elim
            refine ⟨fun ⟨j, u', ej, hu', sj⟩ => ?_, .inl hq⟩
            refine notOwn a.lk hq ?_
            by_cases hj : j = i
            · subst hj
              rw [es0] at sj
              cases sj
              exact (nq rfl).elim
            · rw [List.getElem?_set_ne (Ne.symm hj)] at ej
              exact ⟨j, u', ej, hu', sj⟩
      · rw [if_neg hx] at h1
        exact h1.elim
end
end Nb

set_option Elab.async false
set_option linter.all false
set_option maxRecDepth 100000
set_option maxHeartbeats 4000000
namespace Nb
open PySem PySem.Spec L2
/-! ### comprehensions -/
def isBr : Option SV → Bool
  | some (.br _) => true
  | _ => false
/-- the block's own slots forgotten -/
def unAll (vs : List Nat) (ρ : List SV) : List SV := ρ.mapIdx fun i w => if vs.contains i then .un else w
def wipeR (vs : List Nat) (ρ : List SV) : Option (List SV) := if vs.any (fun i => isBr ρ[i]?) then none else some (unAll vs ρ)
theorem unAll_len (vs : List Nat) (ρ : List SV) : (unAll vs ρ).length = ρ.length := by simp [unAll]
theorem unAll_get {vs : List Nat} {ρ : List SV} {i : Nat} {w : SV} (h : (unAll vs ρ)[i]? = some w) : (i ∈ vs ∧ w = .un) ∨ (i ∉ vs ∧ ρ[i]? = some w) := by
  unfold unAll at h
  rw [List.getElem?_mapIdx] at h
  cases e : ρ[i]? with
  | none => rw [e] at h; cases h
  | some u =>
    rw [e] at h
    have h : some (if vs.contains i then SV.un else u) = some w := h
    by_cases hi : i ∈ vs
    · rw [if_pos (by simpa using hi)] at h
      exact .inl ⟨hi, (Option.some.inj h).symm⟩
    · rw [if_neg (by simpa using hi)] at h
      exact .inr ⟨hi, h⟩
theorem unAll_out {vs : List Nat} {ρ : List SV} {i : Nat} (hi : i ∉ vs) : (unAll vs ρ)[i]? = ρ[i]? := by
  unfold unAll
  rw [List.getElem?_mapIdx]
  cases e : ρ[i]? with
  | none => rfl
  | some u =>
    show some (if vs.contains i then SV.un else u) = _
    rw [if_neg (by simpa using hi)]
theorem wipe_only {vs is : List Nat} {σ σ' : L2.St} (h : Only is σ σ') (s : ∀ i ∈ is, i ∈ vs) : wipe σ' vs = wipe σ vs := by
  have inn : ∀ (σ : L2.St) (vs : List Nat) (i : Nat), i ∈ vs → (wipe σ vs)[i]? = if i < σ.length then some none else none := fun σ vs => by
    induction vs with
    | nil => intro i h; cases h
    | cons v r ih =>
      intro i h
      unfold wipe
      by_cases hv : v = i
      · subst hv
        by_cases hl : v < σ.length
        · rw [List.getElem?_set_self (by rw [wipe_length]; exact hl), if_pos hl]
        · rw [List.getElem?_eq_none (by rw [List.length_set, wipe_length]; omega), if_neg hl]
      · rw [List.getElem?_set_ne hv]
        exact ih i (by rcases List.mem_cons.mp h with z | z; exact absurd z.symm hv; exact z)
  apply List.ext_getElem?
  intro i
  by_cases hi : i ∈ vs
  · rw [inn σ' vs i hi, inn σ vs i hi, h.1]
  · rw [wipe_out hi, wipe_out hi]
    exact h.2 i fun z => hi (s i z)
section
variable {X : Cx} {W : Wd} {E : XK} {k : Nat}
theorem own_un {vs : List Nat} {ρ : List SV} {σ : L2.St} {b : Addr} (h : OwnS (unAll vs ρ) (wipe σ vs) b) : OwnS ρ σ b := by
  obtain ⟨i, w, e1, e2, e3⟩ := h
  rcases unAll_get e1 with ⟨_, rfl⟩ | ⟨hi, e⟩
  · cases e2
  · rw [wipe_out hi] at e3
    exact ⟨i, w, e, e2, e3⟩
theorem Lk.wipe {G H : Hp} {ρ : List SV} {σ : L2.St} {vs : List Nat} (l : Lk W G H ρ σ) : Lk W G H (unAll vs ρ) (L2.wipe σ vs) := by
  refine ⟨l.sub, l.gt, by rw [unAll_len, wipe_length]; exact l.len, fun i w ov e1 e2 => ?_, fun i j wi wj p hij e1 e2 o1 o2 s1 s2 => ?_, l.tabs⟩
  · rcases unAll_get e1 with ⟨_, rfl⟩ | ⟨hi, e⟩
    · trivial
    · rw [wipe_out hi] at e2; exact l.slot i w ov e e2
  · rcases unAll_get e1 with ⟨_, rfl⟩ | ⟨hi, e1⟩
    · cases o1
    rcases unAll_get e2 with ⟨_, rfl⟩ | ⟨hj, e2⟩
    · cases o2
    rw [wipe_out hi] at s1
    rw [wipe_out hj] at s2
    exact l.sep i j wi wj p hij e1 e2 o1 o2 s1 s2
theorem wipeR_ok {vs : List Nat} {ρ ρ' : List SV} (h : wipeR vs ρ = some ρ') : ρ' = unAll vs ρ ∧ ∀ i xs, ρ[i]? = some (.br xs) → i ∉ vs := by
  unfold wipeR at h
  split at h
  · cases h
  · rename_i hn
    cases h
    refine ⟨rfl, fun i xs e hi => hn ?_⟩
    rw [List.any_eq_true]
    exact ⟨i, hi, by rw [e]; rfl⟩
/-- into the block -/
theorem Tr.wipe {G H : Hp} {ρ ρ' : List SV} {σ : L2.St} {vs : List Nat} (l : Lk W G H ρ σ) (h : wipeR vs ρ = some ρ') : Tr W ρ σ G H ρ' (L2.wipe σ vs) G H := by
  obtain ⟨rfl, nb⟩ := wipeR_ok h
  refine ⟨l.wipe, .refl, fun b hb => .inr (own_un hb), fun i xs e => ?_⟩
  have hi := nb i xs e
  exact ⟨xs, by rw [unAll_out hi]; exact e, wipe_out hi⟩
/-- back in the def -/
theorem Tr.unwipe {G H G' H' : Hp} {ρ ρ1 ρ2 : List SV} {σ : L2.St} {vs : List Nat} (l : Lk W G H ρ σ) (h : wipeR vs ρ = some ρ1) (a : Tr W ρ1 (L2.wipe σ vs) G H ρ2 (L2.wipe σ vs) G' H') : Tr W ρ σ G H (unAll vs ρ2) σ G' H' := by
  have t := (Tr.wipe l h).trans a
  obtain ⟨_, nb⟩ := wipeR_ok h
  have len : (unAll vs ρ2).length = σ.length := by rw [unAll_len, a.lk.len, wipe_length]
  have own : ∀ b, OwnS (unAll vs ρ2) σ b → OwnS ρ2 (L2.wipe σ vs) b := fun b ⟨i, w, e1, e2, e3⟩ => by
    rcases unAll_get e1 with ⟨_, rfl⟩ | ⟨hi, e⟩
    · cases e2
    · exact ⟨i, w, e, e2, by rw [wipe_out hi]; exact e3⟩
  refine ⟨⟨a.lk.sub, a.lk.gt, len, fun i w ov e1 e2 => ?_, fun i j wi wj p hij e1 e2 o1 o2 s1 s2 => ?_, a.lk.tabs⟩, t.fr, fun b hb => t.onew b (own b hb), fun i xs e => ?_⟩
  · rcases unAll_get e1 with ⟨_, rfl⟩ | ⟨hi, e⟩
    · trivial
    · exact a.lk.slot i w ov e (by rw [wipe_out hi]; exact e2)
  · rcases unAll_get e1 with ⟨_, rfl⟩ | ⟨hi, e1⟩
    · cases o1
    rcases unAll_get e2 with ⟨_, rfl⟩ | ⟨hj, e2⟩
    · cases o2
    exact a.lk.sep i j wi wj p hij e1 e2 o1 o2 (by rw [wipe_out hi]; exact s1) (by rw [wipe_out hj]; exact s2)
  · obtain ⟨xs', e1, _⟩ := t.brs i xs e
    have hi := nb i xs e
    exact ⟨xs', by rw [unAll_out hi]; exact e1, rfl⟩
/-- the new list grows -/
theorem Tr.grow {G H G1 H1 : Hp} {ρ ρ1 : List SV} {σ σ1 : L2.St} {D : Addr} {o o' : HO} (a : Tr W ρ σ G H ρ1 σ1 G1 H1) (hD : H D = none) (h1 : H1 D = some o) (g1 : G1 D = none) (no : ¬ OwnS ρ1 σ1 D) (nt : (∀ ps, o ≠ .tbl ps) ∧ ∀ c q, o ≠ LamX.CodeO c q) :
    Tr W ρ σ G H ρ1 σ1 G1 (upd H1 D o') := by
  have ne : ∀ b o, H b = some o → b ≠ D := fun b o e => ne_of_none e hD
  refine ⟨⟨Sub.put a.lk.sub g1, a.lk.gt, a.lk.len, fun i w ov e1 e2 => ?_, a.lk.sep, a.lk.tabs.put fun u e => by rw [h1] at e; cases e; exact nt⟩, ⟨fun b o e n nt => ?_, fun b ps e => ?_, a.fr.gsub, a.fr.gnew⟩, a.onew, a.brs⟩
  · refine (a.lk.slot i w ov e1 e2).mono (fun _ _ z => z) (fun q o hu eq z _ => ?_) fun q hu eq z => z
    have : q ≠ D := fun z' => no ⟨i, w, e1, hu, by rw [e2, eq, z']⟩
    rw [upd_ne this]; exact z
  · rw [upd_ne (ne b o e)]; exact a.fr.keep b o e n nt
  · rw [upd_ne (ne b _ e)]; exact a.fr.tbl b ps e
def accN : Nat := sizeLine
/-- the loop of [te for g in .. if tt] -/
def lcLoop (vs : List Nat) (g : AG) (tt : M Bool) (te : M PyData) : List PyData → List PyData → List SV → Option (List PyData × List SV)
  | [], acc, ρ => some (acc, ρ)
  | x :: xs, acc, ρ => match g x ρ with
    | none => none
    | some ρ1 => match tt ρ1 with
      | .ok true ρ2 => match te ρ2 with
        | .ok y ρ3 => if acc.length < sizeLine then match wipeR vs ρ3 with
          | some ρ4 => lcLoop vs g tt te xs (acc ++ [y]) ρ4
          | none => none else none
        | _ => none
      | .ok false ρ2 => match wipeR vs ρ2 with
        | some ρ4 => lcLoop vs g tt te xs acc ρ4
        | none => none
      | _ => none
def lcM (vs : List Nat) (it : M (List PyData)) (g : AG) (tt : M Bool) (te : M PyData) : M SV := M.bind it fun xs ρ => match wipeR vs ρ with
  | none => .fail
  | some ρ1 => match lcLoop vs g tt te xs [] ρ1 with
    | some (acc, ρ2) => .ok (.ls acc) (unAll vs ρ2)
    | none => .fail
def yesM : M Bool := ret true
structure TsY (X : Cx) (W : Wd) (E : XK) (ifs : List Expr) (t : M Bool) : Prop where
  pts : PTs X ifs (tT W E t)
theorem PTs.imp {es : List Expr} {t t' : TT} (h : PTs X es t) (hi : ∀ σ H Q, t' σ H Q → t σ H Q) : PTs X es t' := ⟨fun pins s σ H Q I hq => h.run pins s σ H Q I (hi σ H Q hq)⟩
theorem ts_nil : TsY X W E [] yesM := ⟨PTs.imp pts_nil fun σ H Q ⟨G, ρ, l, h⟩ => GoB.b l h⟩
theorem ts_one {e : Expr} {t : M Bool} (h : PT X e (tT W E t)) : TsY X W E [e] t := ⟨pts_one h⟩
/-- a yield, in the block -/
theorem yld_go {G1 : Hp} {xs : List PyData} {J : It} (j : Jok W G1 xs J) {G' H' : Hp} {ρ' : List SV} {σ' : L2.St} (s : Sub G1 G') (l : Lk W G' H' ρ' σ') {i : Nat} {x : PyData} (ex : xs[i]? = some x) {v : V} {H2 : Hp} (y : J.yld i H' v H2) :
    ∃ G2, Tr W ρ' σ' G' H' ρ' σ' G2 H2 ∧ Dq W.K G2 v x ∧ ∀ D o, H' D = some o → G' D = none → H2 D = some o ∧ G2 D = none := by
  rcases j.yld G' H' i v H2 x s l.sub ex y with ⟨rfl, dv⟩ | ⟨p, o, hn, rfl, nt, dv⟩
  · exact ⟨G', Tr.refl l, dv, fun D o e g => ⟨e, g⟩⟩
  · refine ⟨upd G' p o, Tr.newG l hn nt, dv, fun D u e g => ?_⟩
    have : D ≠ p := ne_of_none e hn
    rw [upd_ne this, upd_ne this]
    exact ⟨e, g⟩
/-- what stands apart stays through a step -/
theorem Tr.apart {G H G1 H1 : Hp} {ρ ρ1 : List SV} {σ σ1 : L2.St} {D : Addr} {o : HO} (a : Tr W ρ σ G H ρ1 σ1 G1 H1) (hD : H D = some o) (gD : G D = none) (no : ¬ OwnS ρ σ D) (nt : ∀ ps, o ≠ .tbl ps) (nu : ∀ ps, o ≠ .tup ps := by intro ps z; cases z) : H1 D = some o ∧ G1 D = none ∧ ¬ OwnS ρ1 σ1 D := by
  refine ⟨a.fr.keep D o hD no nt, ?_, fun z => ?_⟩
  · cases q : G1 D with
    | none => rfl
    | some u =>
      rcases a.fr.gnew D u q with z | z | z | ⟨z, xs, hz⟩
      · rw [gD] at z; cases z
      · rw [hD] at z; cases z
      · exact (no z).elim
      · rw [hD] at z; cases z; exact absurd hz (nu xs)
  · rcases a.onew D z with y | y
    · rw [hD] at y; cases y
    · exact no y
theorem wipe_wipe (σ : L2.St) (vs : List Nat) : L2.wipe (L2.wipe σ vs) vs = L2.wipe σ vs := wipe_only (is := vs) ⟨wipe_length σ vs, fun j hj => wipe_out hj⟩ fun _ z => z
/-- the loop, from a point where the new list holds acc0 -/
theorem lc_turns {is vs : List Nat} {g : AG} {tt : M Bool} {te : M PyData} {J : It} {xs acc0 racc : List PyData} {ρb ρ1 ρr : List SV} {σb σ : L2.St} {Gb Hb G1 H1 : Hp} {D : Addr} {us0 : List V} {Qd : Hp → Prop} (his : (is.all fun i => vs.contains i) = true) (hb : Hb D = none)
    (t0 : Tr W ρb σb Gb Hb ρ1 (L2.wipe σ vs) G1 H1) (j : Jok W G1 xs J) (hD : H1 D = some (.lst us0)) (gD : G1 D = none) (nD : ¬ OwnS ρ1 (L2.wipe σ vs) D) (dA : DqAll W.K G1 us0 acc0) (el : lcLoop vs g tt te xs acc0 ρ1 = some (racc, ρr))
    (hQ : ∀ G' H' us, Tr W ρb σb Gb Hb ρr (L2.wipe σ vs) G' H' → Sub G1 G' → H' D = some (.lst us) → G' D = none → ¬ OwnS ρr (L2.wipe σ vs) D → DqAll W.K G' us racc → Qd H') :
    ∃ Wi : Nat → Nat → Hp → Prop, (∃ m, Wi 0 m H1) ∧ ∀ i m H, Wi i m H →
      (J.stop i H ∧ Qd H) ∨ (J.go i H ∧ ∃ Nx : Hp → Prop, (∀ H', Nx H' → ∃ m', m' < m ∧ Wi (i + 1) m' H') ∧ ∀ x H', J.yld i H x H' → tG W is g x (L2.wipe σ vs) H' fun σ2 H2 => L2.wipe σ2 vs = L2.wipe σ vs ∧ tT W E0 tt σ2 H2 fun b H3 =>
        if b = true then tD W E0 te σ2 H3 fun y H4 => ∃ acc, H4 D = some (.lst acc) ∧ acc.length < sizeLine ∧ Nx (upd H4 D (.lst (acc ++ [y]))) else Nx H3) := by
  refine ⟨fun i m H' => ∃ G' ρ' acc us, Tr W ρb σb Gb Hb ρ' (L2.wipe σ vs) G' H' ∧ Sub G1 G' ∧ H' D = some (.lst us) ∧ G' D = none ∧ ¬ OwnS ρ' (L2.wipe σ vs) D ∧ DqAll W.K G' us acc ∧ m + i = xs.length ∧ lcLoop vs g tt te (xs.drop i) acc ρ' = some (racc, ρr),
    ⟨xs.length, G1, ρ1, acc0, us0, t0, fun _ _ z => z, hD, gD, nD, dA, rfl, el⟩, fun i m H' ⟨G', ρ', acc, us, t, s1, hD', gD', nD', dA, hm, hl⟩ => ?_⟩
  have l' := t.lk
  cases hd : xs.drop i with
  | nil =>
    rw [hd] at hl
    cases hl
    exact .inl ⟨j.stop G' H' i s1 l'.sub (by have := congrArg List.length hd; simp at this; omega), hQ G' H' us t s1 hD' gD' nD' dA⟩
  | cons x r =>
    rw [hd] at hl
    have hlt : i < xs.length := by
      have := congrArg List.length hd
      simp at this
      omega
    have ex : xs[i]? = some x := by
      have := congrArg (fun z => z[0]?) hd
      simpa using this
    have er : xs.drop (i + 1) = r := by
      have := congrArg List.tail hd
      simpa [List.tail_drop] using this
    refine .inr ⟨j.go G' H' i s1 l'.sub hlt, fun H2 => ∃ G' ρ' acc us, Tr W ρb σb Gb Hb ρ' (L2.wipe σ vs) G' H2 ∧ Sub G1 G' ∧ H2 D = some (.lst us) ∧ G' D = none ∧ ¬ OwnS ρ' (L2.wipe σ vs) D ∧ DqAll W.K G' us acc ∧ lcLoop vs g tt te (xs.drop (i + 1)) acc ρ' = some (racc, ρr),
      fun H2 ⟨G', ρ', acc, us, b1, b0, b2, b3, b4, b5, b6⟩ => ⟨m - 1, by omega, G', ρ', acc, us, b1, b0, b2, b3, b4, b5, by omega, b6⟩, fun v H2 y => ?_⟩
    obtain ⟨G2, t2, dv, keep⟩ := yld_go j s1 l' ex y
    obtain ⟨hD2, gD2⟩ := keep D _ hD' gD'
    unfold lcLoop at hl
    cases eg : g x ρ' with
    | none => rw [eg] at hl; cases hl
    | some ρ2 =>
      rw [eg] at hl
      simp only at hl
      refine ⟨G2, ρ', x, ρ2, t2.lk, dv, eg, fun σ3 G3 t3 on => ?_⟩
      have hw : L2.wipe σ3 vs = L2.wipe σ vs := wipe_only on (fun i hi => by have := (List.all_eq_true.mp his) i hi; simpa using this) |>.trans (wipe_wipe σ vs)
      refine ⟨hw, ?_⟩
      obtain ⟨hD3, gD3, nD3⟩ := (t2.trans t3).apart hD' gD' nD' (fun ps z => by cases z)
      refine ⟨G3, ρ2, t3.lk, ?_⟩
      cases et : tt ρ2 with
      | fail => rw [et] at hl; cases hl
      | exn cc => rw [et] at hl; cases hl
      | ok b ρ3 =>
        rw [et] at hl
        intro G4 H4 t4
        obtain ⟨hD4, gD4, nD4⟩ := t4.apart hD3 gD3 nD3 (fun ps z => by cases z)
        have s4 : Sub G1 G4 := fun b o e => t4.fr.gsub b o (t3.fr.gsub b o (t2.fr.gsub b o (s1 b o e)))
        cases b with
        | false =>
          simp only [Bool.false_eq_true, if_false] at hl ⊢
          cases ew4 : wipeR vs ρ3 with
          | none => rw [ew4] at hl; cases hl
          | some ρ4 =>
            rw [ew4] at hl
            have t5 := Tr.wipe t4.lk ew4
            rw [hw] at t5
            obtain ⟨hD5, gD5, nD5⟩ := t5.apart hD4 gD4 nD4 (fun ps z => by cases z)
            refine ⟨G4, ρ4, acc, us, t.trans (t2.trans (t3.trans (t4.trans t5))), s4, hD5, gD5, nD5, DqAll.mono (fun b o e => t4.fr.gsub b o (t3.fr.gsub b o (t2.fr.gsub b o e))) dA, by rw [er]; exact hl⟩
        | true =>
          simp only [if_true] at hl ⊢
          refine ⟨G4, ρ3, t4.lk, ?_⟩
          cases ee : te ρ3 with
          | fail => rw [ee] at hl; cases hl
          | exn cc => rw [ee] at hl; cases hl
          | ok y ρ5 =>
            rw [ee] at hl
            simp only at hl
            intro u G5 H5 t5 du
            obtain ⟨hD5, gD5, nD5⟩ := t5.apart hD4 gD4 nD4 (fun ps z => by cases z)
            by_cases hz : acc.length < sizeLine
            · rw [if_pos hz] at hl
              cases ew4 : wipeR vs ρ5 with
              | none => rw [ew4] at hl; cases hl
              | some ρ6 =>
                rw [ew4] at hl
                have t6 := Tr.wipe t5.lk ew4
                rw [hw] at t6
                obtain ⟨hD6, gD6, nD6⟩ := t6.apart hD5 gD5 nD5 (fun ps z => by cases z)
                have tall := t.trans (t2.trans (t3.trans (t4.trans (t5.trans t6))))
                have dA' : DqAll W.K G5 us acc := DqAll.mono (fun b o e => t5.fr.gsub b o (t4.fr.gsub b o (t3.fr.gsub b o (t2.fr.gsub b o e)))) dA
                exact ⟨us, hD5, by rw [DqAll.length dA]; exact hz, G5, ρ6, acc ++ [y], us ++ [u], Tr.grow tall hb hD6 gD6 nD6 ⟨fun ps z => (by cases z), fun c q z => (by cases z)⟩, fun b o e => t5.fr.gsub b o (s4 b o e), upd_same, gD6, nD6, DqAll.append (.cons du .nil) dA', by rw [er]; exact hl⟩
            · rw [if_neg hz] at hl
              cases hl
theorem own_unw {vs : List Nat} {ρ : List SV} {σ : L2.St} {b : Addr} (h : OwnS (unAll vs ρ) σ b) : OwnS ρ (L2.wipe σ vs) b := by
  obtain ⟨i, w, e1, e2, e3⟩ := h
  rcases unAll_get e1 with ⟨_, rfl⟩ | ⟨hi, e⟩
  · cases e2
  · exact ⟨i, w, e, e2, by rw [wipe_out hi]; exact e3⟩
theorem lc_red {is vs : List Nat} {it : M (List PyData)} {g : AG} {tt : M Bool} {te : M PyData} (his : (is.all fun i => vs.contains i) = true) : ∀ σ H Q, tV W E (lcM vs it g tt te) σ H Q → tLc (tI W E it) (tG W is g) (tT W E0 tt) (tD W E0 te) vs σ H Q := by
  intro σ H Q ⟨G, ρ, l, h⟩
  refine ⟨G, ρ, l, ?_⟩
  unfold lcM M.bind at h
  cases e : it ρ with
  | fail => rw [e] at h; exact h
  | exn cc => rw [e] at h; exact h
  | ok xs ρ0 =>
    rw [e] at h
    intro J G1 H1 a j D hD
    have h := Go.shift (r := _) h a
    cases ew : wipeR vs ρ0 with
    | none => simp only [Res.bind, ew] at h; exact h.elim
    | some ρ1 =>
      simp only [Res.bind, ew] at h
      cases el : lcLoop vs g tt te xs [] ρ1 with
      | none => simp only [el] at h; exact h.elim
      | some r =>
        obtain ⟨racc, ρr⟩ := r
        simp only [el] at h
        have lw : Lk W G1 H1 ρ1 (L2.wipe σ vs) := (Tr.wipe a.lk ew).lk
        refine lc_turns (us0 := []) (acc0 := []) his hD (Tr.newH lw hD) j upd_same (lw.gn hD) (notOwn lw hD) .nil el fun G' H' us t s1 hD' gD' nD' dA => ?_
        refine h (.ref D) G' H' (Tr.unwipe a.lk ew t) ⟨⟨D, us, rfl, hD', gD', dA⟩, fun _ p ep => ?_, fun _ z => by cases z⟩
        cases ep
        exact ⟨fun z => nD' (own_unw z), .inl hD⟩
/-! two loops -/
def lcLoop2 (vs vs1 : List Nat) (g : AG) (tt : M Bool) (it1 : M (List PyData)) (g1 : AG) (tt1 : M Bool) (te : M PyData) : List PyData → List PyData → List SV → Option (List PyData × List SV)
  | [], acc, ρ => some (acc, ρ)
  | x :: xs, acc, ρ => match g x ρ with
    | none => none
    | some ρ1 => match tt ρ1 with
      | .ok true ρ2 => match it1 ρ2 with
        | .ok xs1 ρ3 => match wipeR vs1 ρ3 with
          | some ρ4 => match lcLoop vs1 g1 tt1 te xs1 acc ρ4 with
            | some (acc', ρ5) => match wipeR vs ρ5 with
              | some ρ6 => lcLoop2 vs vs1 g tt it1 g1 tt1 te xs acc' ρ6
              | none => none
            | none => none
          | none => none
        | _ => none
      | .ok false ρ2 => match wipeR vs ρ2 with
        | some ρ4 => lcLoop2 vs vs1 g tt it1 g1 tt1 te xs acc ρ4
        | none => none
      | _ => none
def lc2M (vs vs1 : List Nat) (it : M (List PyData)) (g : AG) (tt : M Bool) (it1 : M (List PyData)) (g1 : AG) (tt1 : M Bool) (te : M PyData) : M SV := M.bind it fun xs ρ => match wipeR vs ρ with
  | none => .fail
  | some ρ1 => match lcLoop2 vs vs1 g tt it1 g1 tt1 te xs [] ρ1 with
    | some (acc, ρ2) => .ok (.ls acc) (unAll vs ρ2)
    | none => .fail
theorem wipe_sub {σ σ' : L2.St} {vs vs1 : List Nat} (h : L2.wipe σ' vs = L2.wipe σ vs) (hv : ∀ i ∈ vs1, i ∈ vs) : L2.wipe (L2.wipe σ' vs1) vs = L2.wipe σ vs := (wipe_only (is := vs1) ⟨wipe_length σ' vs1, fun j hj => wipe_out hj⟩ hv).trans h
theorem lc2_red {is is1 vs vs1 : List Nat} {it it1 : M (List PyData)} {g g1 : AG} {tt tt1 : M Bool} {te : M PyData} (his : (is.all fun i => vs.contains i) = true) (his1 : (is1.all fun i => vs1.contains i) = true) (hv : ∀ i ∈ vs1, i ∈ vs) :
    ∀ σ H Q, tV W E (lc2M vs vs1 it g tt it1 g1 tt1 te) σ H Q → tLc2 (tI W E it) (tG W is g) (tT W E0 tt) (tI W E0 it1) (tG W is1 g1) (tT W E0 tt1) (tD W E0 te) vs vs1 σ H Q := by
  intro σ H Q ⟨G, ρ, l, h⟩
  refine ⟨G, ρ, l, ?_⟩
  unfold lc2M M.bind at h
  cases e : it ρ with
  | fail => rw [e] at h; exact h
  | exn cc => rw [e] at h; exact h
  | ok xs ρ0 =>
    rw [e] at h
    intro J G1 H1 a j D hD
    have h := Go.shift (r := _) h a
    cases ew : wipeR vs ρ0 with
    | none => simp only [Res.bind, ew] at h; exact h.elim
    | some ρ1 =>
      simp only [Res.bind, ew] at h
      cases el : lcLoop2 vs vs1 g tt it1 g1 tt1 te xs [] ρ1 with
      | none => simp only [el] at h; exact h.elim
      | some r =>
        obtain ⟨racc, ρr⟩ := r
        simp only [el] at h
        have lw : Lk W G1 H1 ρ1 (L2.wipe σ vs) := (Tr.wipe a.lk ew).lk
        refine ⟨fun i m H' => ∃ G' ρ' acc us, Tr W ρ1 (L2.wipe σ vs) G1 H1 ρ' (L2.wipe σ vs) G' H' ∧ H' D = some (.lst us) ∧ G' D = none ∧ ¬ OwnS ρ' (L2.wipe σ vs) D ∧ DqAll W.K G' us acc ∧ m + i = xs.length ∧ lcLoop2 vs vs1 g tt it1 g1 tt1 te (xs.drop i) acc ρ' = some (racc, ρr),
          ⟨xs.length, G1, ρ1, [], [], Tr.newH lw hD, upd_same, lw.gn hD, notOwn lw hD, .nil, rfl, el⟩, fun i m H' ⟨G', ρ', acc, us, t, hD', gD', nD', dA, hm, hl⟩ => ?_⟩
        have l' := t.lk
        cases hd : xs.drop i with
        | nil =>
          rw [hd] at hl
          cases hl
          refine .inl ⟨j.stop G' H' i t.fr.gsub l'.sub (by have := congrArg List.length hd; simp at this; omega), ?_⟩
          refine h (.ref D) G' H' (Tr.unwipe a.lk ew t) ⟨⟨D, us, rfl, hD', gD', dA⟩, fun _ p ep => ?_, fun _ z => by cases z⟩
          cases ep
          exact ⟨fun z => nD' (own_unw z), .inl hD⟩
        | cons x r =>
          rw [hd] at hl
          have hlt : i < xs.length := by
            have := congrArg List.length hd
            simp at this
            omega
          have ex : xs[i]? = some x := by
            have := congrArg (fun z => z[0]?) hd
            simpa using this
          have er : xs.drop (i + 1) = r := by
            have := congrArg List.tail hd
            simpa [List.tail_drop] using this
          refine .inr ⟨j.go G' H' i t.fr.gsub l'.sub hlt, fun H2 => ∃ G' ρ' acc us, Tr W ρ1 (L2.wipe σ vs) G1 H1 ρ' (L2.wipe σ vs) G' H2 ∧ H2 D = some (.lst us) ∧ G' D = none ∧ ¬ OwnS ρ' (L2.wipe σ vs) D ∧ DqAll W.K G' us acc ∧ lcLoop2 vs vs1 g tt it1 g1 tt1 te (xs.drop (i + 1)) acc ρ' = some (racc, ρr),
            fun H2 ⟨G', ρ', acc, us, b1, b2, b3, b4, b5, b6⟩ => ⟨m - 1, by omega, G', ρ', acc, us, b1, b2, b3, b4, b5, by omega, b6⟩, fun v H2 y => ?_⟩
          obtain ⟨G2, t2, dv, keep⟩ := yld_go j t.fr.gsub l' ex y
          obtain ⟨hD2, gD2⟩ := keep D _ hD' gD'
          unfold lcLoop2 at hl
          cases eg : g x ρ' with
          | none => rw [eg] at hl; cases hl
          | some ρ2 =>
            rw [eg] at hl
            simp only at hl
            refine ⟨G2, ρ', x, ρ2, t2.lk, dv, eg, fun σ3 G3 t3 on => ?_⟩
            have hw : L2.wipe σ3 vs = L2.wipe σ vs := wipe_only on (fun i hi => by have := (List.all_eq_true.mp his) i hi; simpa using this) |>.trans (wipe_wipe σ vs)
            refine ⟨hw, ?_⟩
            obtain ⟨hD3, gD3, nD3⟩ := (t2.trans t3).apart hD' gD' nD' (fun ps z => by cases z)
            refine ⟨G3, ρ2, t3.lk, ?_⟩
            cases et : tt ρ2 with
            | fail => rw [et] at hl; cases hl
            | exn cc => rw [et] at hl; cases hl
            | ok b ρ3 =>
              rw [et] at hl
              intro G4 H4 t4
              obtain ⟨hD4, gD4, nD4⟩ := t4.apart hD3 gD3 nD3 (fun ps z => by cases z)
              cases b with
              | false =>
                simp only [Bool.false_eq_true, if_false] at hl ⊢
                cases ew4 : wipeR vs ρ3 with
                | none => rw [ew4] at hl; cases hl
                | some ρ4 =>
                  rw [ew4] at hl
                  have t5 := Tr.wipe t4.lk ew4
                  rw [hw] at t5
                  obtain ⟨hD5, gD5, nD5⟩ := t5.apart hD4 gD4 nD4 (fun ps z => by cases z)
                  refine ⟨G4, ρ4, acc, us, t.trans (t2.trans (t3.trans (t4.trans t5))), hD5, gD5, nD5, DqAll.mono (fun b o e => t4.fr.gsub b o (t3.fr.gsub b o (t2.fr.gsub b o e))) dA, by rw [er]; exact hl⟩
              | true =>
                simp only [if_true] at hl ⊢
                refine ⟨G4, ρ3, t4.lk, ?_⟩
                cases e1 : it1 ρ3 with
                | fail => rw [e1] at hl; cases hl
                | exn cc => rw [e1] at hl; cases hl
                | ok xs1 ρ5 =>
                  rw [e1] at hl
                  simp only at hl
                  intro J1 G5 H5 t5 j1
                  obtain ⟨hD5, gD5, nD5⟩ := t5.apart hD4 gD4 nD4 (fun ps z => by cases z)
                  cases ew5 : wipeR vs1 ρ5 with
                  | none => rw [ew5] at hl; cases hl
                  | some ρ6 =>
                    rw [ew5] at hl
                    simp only at hl
                    cases el1 : lcLoop vs1 g1 tt1 te xs1 acc ρ6 with
                    | none => rw [el1] at hl; cases hl
                    | some r1 =>
                      obtain ⟨acc', ρ7⟩ := r1
                      rw [el1] at hl
                      simp only at hl
                      have t6 := Tr.wipe t5.lk ew5
                      obtain ⟨hD6, gD6, nD6⟩ := t6.apart hD5 gD5 nD5 (fun ps z => by cases z)
                      have tall := t.trans (t2.trans (t3.trans (t4.trans (t5.trans t6))))
                      have dA' : DqAll W.K G5 us acc := DqAll.mono (fun b o e => t5.fr.gsub b o (t4.fr.gsub b o (t3.fr.gsub b o (t2.fr.gsub b o e)))) dA
                      refine lc_turns his1 hD tall j1 hD6 gD6 nD6 dA' el1 fun G7 H7 us7 t7 s7 hD7 gD7 nD7 dA7 => ?_
                      cases ew7 : wipeR vs ρ7 with
                      | none => rw [ew7] at hl; cases hl
                      | some ρ8 =>
                        rw [ew7] at hl
                        have t8 := Tr.wipe t7.lk ew7
                        rw [wipe_sub hw hv] at t8
                        obtain ⟨hD8, gD8, nD8⟩ := t8.apart hD7 gD7 nD7 (fun ps z => by cases z)
                        exact ⟨G7, ρ8, acc', us7, t7.trans t8, hD8, gD8, nD8, dA7, by rw [er]; exact hl⟩
theorem q_lc2 {is is1 vs vs1 : List Nat} {elt tg iter tg1 iter1 : Expr} {ifs ifs1 : List Expr} {scope : Scope} {own : List (Str × Nat)} {pos : Pos} {it it1 : M (List PyData)} {g g1 : AG} {tt tt1 : M Bool} {te : M PyData} (c : Kx X W E k) (hi : PI X tg iter (tI W E it)) (ok : blkC X.N X.env.scope scope own = true) (hvs : own.map (·.2) = vs) (his : (is.all fun i => vs.contains i) = true) (his1 : (is1.all fun i => vs1.contains i) = true) (hv : ∀ i ∈ vs1, i ∈ vs)
    (hb : ∀ (s : Shared) (H : Hp) (C : Addr) (cl : List (Str × Addr)) (fp : List Addr), Kx (X.blk s H scope (compEnvC scope cl C X.env) fp) W E0 k → PG (X.blk s H scope (compEnvC scope cl C X.env) fp) tg (tG W is g) ∧ TsY (X.blk s H scope (compEnvC scope cl C X.env) fp) W E0 ifs tt ∧
      PI (X.blk s H scope (compEnvC scope cl C X.env) fp) tg1 iter1 (tI W E0 it1) ∧ PG (X.blk s H scope (compEnvC scope cl C X.env) fp) tg1 (tG W is1 g1) ∧ TsY (X.blk s H scope (compEnvC scope cl C X.env) fp) W E0 ifs1 tt1 ∧ PE (X.blk s H scope (compEnvC scope cl C X.env) fp) elt (tD W E0 te))
    (hs : ∀ x, foldedSetIterable iter X.env x = pure x := by intro _; rfl) (hs1 : ∀ env x, foldedSetIterable iter1 env x = pure x := by intro _ _; rfl) : PE X (.ListComp elt [⟨tg, iter, ifs, 0⟩, ⟨tg1, iter1, ifs1, 0⟩] scope pos) (tV W E (lc2M vs vs1 it g tt it1 g1 tt1 te)) := by
  subst hvs
  exact Nb.PE.imp (pe_lc2 c.calm c.nd hi (blkOk_by ok) hv (fun s H C cl fp => (hb s H C cl fp c.blk).1) (fun s H C cl fp => (hb s H C cl fp c.blk).2.1.pts) (fun s H C cl fp => (hb s H C cl fp c.blk).2.2.1) (fun s H C cl fp => (hb s H C cl fp c.blk).2.2.2.1) (fun s H C cl fp => (hb s H C cl fp c.blk).2.2.2.2.1.pts) (fun s H C cl fp => (hb s H C cl fp c.blk).2.2.2.2.2) hs hs1) (lc2_red his his1 hv)
theorem s_setLc2 (i : Nat) {y : Str} {py : Pos} {is is1 vs vs1 : List Nat} {elt tg iter tg1 iter1 : Expr} {ifs ifs1 : List Expr} {scope : Scope} {own : List (Str × Nat)} {pos spos : Pos} {it it1 : M (List PyData)} {g g1 : AG} {tt tt1 : M Bool} {te : M PyData} (c : Kx X W E k) (hy : X.N[i]? = some y) (hyl : X.env.scope.names.lookup y = some .local)
    (hsw : swapsWith (.ListComp elt [⟨tg, iter, ifs, 0⟩, ⟨tg1, iter1, ifs1, 0⟩] scope pos) (some (.Name y py)) spos.line X.env = pure true) (hi : PI X tg iter (tI W E it)) (ok : blkC X.N X.env.scope scope own = true) (hvs : own.map (·.2) = vs) (his : (is.all fun i => vs.contains i) = true) (his1 : (is1.all fun i => vs1.contains i) = true) (hv : ∀ i ∈ vs1, i ∈ vs)
    (hb : ∀ (s : Shared) (H : Hp) (C : Addr) (cl : List (Str × Addr)) (fp : List Addr), Kx (X.blk s H scope (compEnvC scope cl C X.env) fp) W E0 k → PG (X.blk s H scope (compEnvC scope cl C X.env) fp) tg (tG W is g) ∧ TsY (X.blk s H scope (compEnvC scope cl C X.env) fp) W E0 ifs tt ∧
      PI (X.blk s H scope (compEnvC scope cl C X.env) fp) tg1 iter1 (tI W E0 it1) ∧ PG (X.blk s H scope (compEnvC scope cl C X.env) fp) tg1 (tG W is1 g1) ∧ TsY (X.blk s H scope (compEnvC scope cl C X.env) fp) W E0 ifs1 tt1 ∧ PE (X.blk s H scope (compEnvC scope cl C X.env) fp) elt (tD W E0 te))
    (hs : ∀ x, foldedSetIterable iter X.env x = pure x := by intro _; rfl) (hs1 : ∀ env x, foldedSetIterable iter1 env x = pure x := by intro _ _; rfl) : PS X (.Assign [.Name y py] (.ListComp elt [⟨tg, iter, ifs, 0⟩, ⟨tg1, iter1, ifs1, 0⟩] scope pos) spos) (tS W E (setM i (lc2M vs vs1 it g tt it1 g1 tt1 te))) := by
  subst hvs
  refine Nb.PS.imp (ps_setLc2 c.calm c.nd hy hyl hsw hi (blkOk_by ok) hv (fun s H C cl fp => (hb s H C cl fp c.blk).1) (fun s H C cl fp => (hb s H C cl fp c.blk).2.1.pts) (fun s H C cl fp => (hb s H C cl fp c.blk).2.2.1) (fun s H C cl fp => (hb s H C cl fp c.blk).2.2.2.1) (fun s H C cl fp => (hb s H C cl fp c.blk).2.2.2.2.1.pts) (fun s H C cl fp => (hb s H C cl fp c.blk).2.2.2.2.2) hs hs1) fun D σ H ⟨G, ρ, l, g⟩ => lc2_red his his1 hv _ _ _ ⟨G, ρ, l, stepVS g fun w ρ1 v G1 H1 a rk g1 => ?_⟩
  obtain ⟨_, tr, g2⟩ := GoS.put a rk g1
  exact g2 _ _ _ tr
theorem q_lc {is vs : List Nat} {elt tg iter : Expr} {ifs : List Expr} {scope : Scope} {own : List (Str × Nat)} {pos : Pos} {it : M (List PyData)} {g : AG} {tt : M Bool} {te : M PyData} (c : Kx X W E k) (hi : PI X tg iter (tI W E it)) (ok : blkC X.N X.env.scope scope own = true) (hvs : own.map (·.2) = vs) (his : (is.all fun i => vs.contains i) = true)
    (hb : ∀ (s : Shared) (H : Hp) (C : Addr) (cl : List (Str × Addr)) (fp : List Addr), Kx (X.blk s H scope (compEnvC scope cl C X.env) fp) W E0 k → PG (X.blk s H scope (compEnvC scope cl C X.env) fp) tg (tG W is g) ∧ TsY (X.blk s H scope (compEnvC scope cl C X.env) fp) W E0 ifs tt ∧ PE (X.blk s H scope (compEnvC scope cl C X.env) fp) elt (tD W E0 te))
    (hs : ∀ x, foldedSetIterable iter X.env x = pure x := by intro _; rfl) : PE X (.ListComp elt [⟨tg, iter, ifs, 0⟩] scope pos) (tV W E (lcM vs it g tt te)) := by
  subst hvs
  exact Nb.PE.imp (pe_lc c.calm c.nd hi (blkOk_by ok) (fun s H C cl fp => (hb s H C cl fp c.blk).1) (fun s H C cl fp => (hb s H C cl fp c.blk).2.1.pts) (fun s H C cl fp => (hb s H C cl fp c.blk).2.2) hs) (lc_red his)
theorem s_setLc (i : Nat) {y : Str} {py : Pos} {is vs : List Nat} {elt tg iter : Expr} {ifs : List Expr} {scope : Scope} {own : List (Str × Nat)} {pos spos : Pos} {it : M (List PyData)} {g : AG} {tt : M Bool} {te : M PyData} (c : Kx X W E k) (hy : X.N[i]? = some y) (hyl : X.env.scope.names.lookup y = some .local)
    (hsw : swapsWith (.ListComp elt [⟨tg, iter, ifs, 0⟩] scope pos) (some (.Name y py)) spos.line X.env = pure true) (hi : PI X tg iter (tI W E it)) (ok : blkC X.N X.env.scope scope own = true) (hvs : own.map (·.2) = vs) (his : (is.all fun i => vs.contains i) = true)
    (hb : ∀ (s : Shared) (H : Hp) (C : Addr) (cl : List (Str × Addr)) (fp : List Addr), Kx (X.blk s H scope (compEnvC scope cl C X.env) fp) W E0 k → PG (X.blk s H scope (compEnvC scope cl C X.env) fp) tg (tG W is g) ∧ TsY (X.blk s H scope (compEnvC scope cl C X.env) fp) W E0 ifs tt ∧ PE (X.blk s H scope (compEnvC scope cl C X.env) fp) elt (tD W E0 te))
    (hs : ∀ x, foldedSetIterable iter X.env x = pure x := by intro _; rfl) : PS X (.Assign [.Name y py] (.ListComp elt [⟨tg, iter, ifs, 0⟩] scope pos) spos) (tS W E (setM i (lcM vs it g tt te))) := by
  subst hvs
  refine Nb.PS.imp (ps_setLc c.calm c.nd hy hyl hsw hi (blkOk_by ok) (fun s H C cl fp => (hb s H C cl fp c.blk).1) (fun s H C cl fp => (hb s H C cl fp c.blk).2.1.pts) (fun s H C cl fp => (hb s H C cl fp c.blk).2.2) hs) fun D σ H ⟨G, ρ, l, g⟩ => lc_red his _ _ _ ⟨G, ρ, l, stepVS g fun w ρ1 v G1 H1 a rk g1 => ?_⟩
  obtain ⟨_, tr, g2⟩ := GoS.put a rk g1
  exact g2 _ _ _ tr
end
end Nb

set_option Elab.async false
set_option linter.all false
set_option maxRecDepth 100000
set_option maxHeartbeats 4000000
namespace Nb
open PySem PySem.Spec L2
/-! ### a dict of one pair -/
/-- an empty dict, of no kind yet -/
def EO (D : Addr) : HO := .ext fun h => h.get? D = some { cls := .type "dict", data := .dict #[] }
theorem eo_code {D c : Addr} {q : Str} : EO D ≠ LamX.CodeO c q := fun z => by
  unfold EO LamX.CodeO at z
  have z' := HO.ext.inj z
  have g : ∀ b o, Heap.get? { objs := Array.replicate (D + 1) ({ cls := .type "dict", data := .dict #[] } : Obj) } b = some o → o = { cls := .type "dict", data := .dict #[] } := fun b o e => by
    unfold Heap.get? at e
    split at e
    · cases e
    · rw [Array.getElem?_replicate] at e
      split at e
      · exact (Option.some.inj e).symm
      · cases e
  have h1 : Heap.get? { objs := Array.replicate (D + 1) ({ cls := .type "dict", data := .dict #[] } : Obj) } D = some { cls := .type "dict", data := .dict #[] } := by
    unfold Heap.get?
    rw [Array.getElem?_replicate, if_pos (Nat.lt_succ_self D)]
  have h2 := (congrFun z' { objs := Array.replicate (D + 1) ({ cls := .type "dict", data := .dict #[] } : Obj) }).mp h1
  obtain ⟨oc, vs, t, e1, e2, _⟩ := h2
  rw [g _ _ e1] at e2
  cases e2
theorem eo_tup {D : Addr} (ps : List V) : EO D ≠ .tup ps := fun z => by unfold EO at z; cases z
theorem eo_tbl {D : Addr} (ps : Array Value) : EO D ≠ .tbl ps := fun z => by unfold EO at z; cases z
section
variable {X : Cx} {pins : List (Addr × Obj)} {σ : L2.St} {H : Hp} {s : Shared}
theorem eo_new (I : Inv X pins σ H s) : Inv X pins σ (upd H s.heap.objs.size (EO s.heap.objs.size)) { s with heap := s.heap.push { cls := .type "dict", data := .dict #[] } } := by
  have e : (s.heap.push ({ cls := .type "dict", data := .dict #[] } : Obj)).get? s.heap.objs.size = some { cls := .type "dict", data := .dict #[] } := Heap.get?_push_size _ rfl
  refine I.laid (t' := s.toks) (fun b u e => Heap.get?_push_of_some _ e) (Nat.le_refl _) ⟨e, ⟨_, e⟩, fun h1 h2 p st => st _ p⟩
/-- its first pair -/
theorem eo_set {E : Value → Shared → Prop} {D : Addr} {x v : V} {u r : Value} {Q : Unit → Shared → Prop} (hu : X.A.units < cLine) (I : Inv X pins σ H s) (hD : H D = some (EO D)) (hd : (D == sysModules) = false) (rx : RelV x u) (rv : RelV v r)
    (h : (∃ k, x = kV k ∧ ∀ s', Inv X pins σ (upd H D (.dK [(k, v)])) s' → Q () s') ∨ ∃ b k, x = .ref b ∧ H b = some (.tup (k.map kV)) ∧ ∀ s', Inv X pins σ (upd H D (.dT [(k, v)])) s' → Q () s') : wpAny (model X.prog X.w) X.A (dictSet D u r) Q E s := by
  obtain ⟨e, _, _⟩ := I.hok D _ hD
  have mu : Mut (H D) := by rw [hD]; exact True.intro
  rcases h with ⟨k, rfl, q⟩ | ⟨b, k, rfl, hb, q⟩
  · have dd : s.heap.DictOf (mixKind X.prog X.w) D [] := ⟨_, #[], 0, e, ⟨rfl, rfl, rfl⟩, rfl, fun _ he => by simp at he, Pairs.nil, List.nodup_nil⟩
    refine wpAny_dictSet_pairs (hsz := Nat.zero_le _) (kV_is rx) dd fun h' dd' hs => q _ ?_
    have he : ∃ q, h'.get? D = some q := let ⟨q, _, _, hq, _⟩ := dd'; ⟨q, hq⟩
    refine d_write I mu hs he (dk_new (by show 1 ≤ sizeLine; rw [PySem.sizeLine_eq]; omega) hd (?_ : KV [(k, v)] _) dd')
    exact (KV.put (kvs := []) (vs := []) .nil k rv)
  · cases rx
    have dd : s.heap.DictOfH (tupleKind (mixKind X.prog X.w)) D [] := ⟨_, #[], 0, e, ⟨rfl, rfl, rfl⟩, rfl, rfl, (fun x hx => nomatch hx), List.nodup_nil⟩
    refine wpAny_dictSet_heap (hsz := Nat.zero_le _) hu (key_of I.hok hb) dd fun h' dd' hs => q _ ?_
    obtain ⟨o, es, ep, hq, h2, h3, h4, _, h5⟩ := dd'
    have kt : KT H [(k, v)] (storedH ([] : List (List Key × Addr × Value)) k b r) := KT.put (kvs := []) (xs := []) .nil k hb rv
    refine d_write I mu hs ⟨o, hq⟩ ⟨by show 1 ≤ sizeLine; rw [PySem.sizeLine_eq]; omega, hd, _, kt.keeps fun c ys ec => ?_, o, es, ep, hq, h2, h3, h4, h5⟩
    rw [upd_ne (ne_of ec hD (fun z => nomatch z))]
    exact ec
def tDisp1 (tk tv : TE) : TE := fun σ H Q => ∀ D, H D = none → tk σ (upd H D (EO D)) fun x H1 => tv σ H1 fun y H2 => H2 D = some (EO D) ∧ ((∃ k, x = kV k ∧ Q (.ref D) (upd H2 D (.dK [(k, y)]))) ∨ ∃ b k, x = .ref b ∧ H2 b = some (.tup (k.map kV)) ∧ Q (.ref D) (upd H2 D (.dT [(k, y)])))
theorem pe_disp1 {kx vx : Expr} {tk tv : TE} {pos : Pos} (hu : X.A.units < cLine) (hk : PE X kx tk) (hv : PE X vx tv) : PE X (.Dict [some kx] [vx] pos) (tDisp1 tk tv) := by
  refine ⟨fun pins s σ H Q I h => ?_⟩
  have hz := zip_pairTrees [some kx] [vx] X.env pos rfl rfl
  rw [arm_eval_Dict, hz, dictDisplay_pairs _ (by simp [pairTrees]) (by simp [pairTrees])]
  refine wpAny_bind (wpAny_standAt (wpAny_bind ?_))
  unfold subDict
  refine wpAny_bind (wpAny_alloc ?_)
  refine wpAny_bind (wpAny_holding ?_)
  rw [if_pos (by simp [pairTrees])]
  have I1 := eo_new I
  have q := h s.heap.objs.size (I.hok.fresh (Nat.le_refl _))
  refine wpAny_bind (pairTrees_cons_walk (thn (hk.run pins _ σ _ _ I1 q) fun u s1 ⟨x, H1, I2, rx, q1⟩ => thn (hv.run pins s1 σ H1 _ I2 q1) fun w s2 ⟨y, H2, I3, ry, hD, q2⟩ => pairTrees_nil_walk ?_))
  refine wpAny_holding ?_
  have fin : ∀ H', Q (.ref s.heap.objs.size) H' → ∀ s', Inv X pins σ H' s' → EP X pins σ Q (.ref s.heap.objs.size) s' := fun H' q s' I' => ⟨.ref _, H', I', rfl, q⟩
  rw [List.forIn_cons]
  refine wpAny_bind (wpAny_bind ?_)
  show wpAny _ _ (dictSet s.heap.objs.size u w >>= fun _ => pure (ForInStep.yield PUnit.unit)) _ _ _
  refine wpAny_bind (eo_set hu I3 hD (beq_eq_false_iff_ne.mpr (Ne.symm (Nat.ne_of_lt I.big))) rx ry ?_)
  rcases q2 with ⟨k, ex, q2⟩ | ⟨b, k, ex, hb, q2⟩
  · exact .inl ⟨k, ex, fun s' I' => wpAny_pure (by simp only [List.forIn_nil]; exact wpAny_pure (wpAny_pure (wpAny_pure (wpAny_pure (fin _ q2 s' I')))))⟩
  · exact .inr ⟨b, k, ex, hb, fun s' I' => wpAny_pure (by simp only [List.forIn_nil]; exact wpAny_pure (wpAny_pure (wpAny_pure (wpAny_pure (fin _ q2 s' I')))))⟩
end
section
variable {X : Cx} {W : Wd} {E : XK} {k : Nat}
theorem gM_okb {c : Prop} [Decidable c] {y : M SV} {ρ ρ1 : List SV} {σ : L2.St} {G H : Hp} {Q : VK} (h : Go W E (gM c y ρ1) ρ σ G H Q) : c ∧ Go W E (y ρ1) ρ σ G H Q := by
  unfold gM at h
  by_cases hc : c
  · rw [if_pos hc] at h; exact ⟨hc, h⟩
  · rw [if_neg hc] at h; exact h.elim
theorem stepDb {f : M PyData} {kk : PyData → M SV} {ρ0 ρ : List SV} {σ0 σ : L2.St} {G0 H0 G H : Hp} {Q R : VK} (l : Lk W G H ρ σ) (b : Tr W ρ0 σ0 G0 H0 ρ σ G H) (h : Go W E (M.bind f kk ρ) ρ0 σ0 G0 H0 Q)
    (hk : ∀ x ρ1 v G1 H1, Tr W ρ σ G H ρ1 σ G1 H1 → Dq W.K G1 v x → Go W E (kk x ρ1) ρ0 σ0 G0 H0 Q → R v H1) : tD W E f σ H R := by
  refine ⟨G, ρ, l, ?_⟩
  unfold M.bind at h
  cases e : f ρ with
  | fail => rw [e] at h; exact h
  | exn c => rw [e] at h; exact Wish.shift h b
  | ok x ρ1 => rw [e] at h; exact fun v G1 H1 a dp => hk x ρ1 v G1 H1 a dp h
/-- {x: True} -/
def isT : PyData → Bool
  | .tuple _ => true
  | _ => false
def disp1M (f : M PyData) (g : M PyData) : M SV := M.bind f fun x => M.bind g fun y => match y with
  | .bool true => gM (keyT (isT x) x = true) (ret (.dc (isT x) [x]))
  | _ => failM
theorem q_disp1 {kx vx : Expr} {f g : M PyData} {pos : Pos} (c : Kx X W E k) (hf : PE X kx (tD W E f)) (hg : PE X vx (tD W E g)) : PE X (.Dict [some kx] [vx] pos) (tV W E (disp1M f g)) := by
  refine Nb.PE.imp (pe_disp1 (by have := c.hu; omega) hf hg) fun σ H Q ⟨G, ρ, l, h⟩ D hD => ?_
  have l0 := Tr.newH (o := EO D) l hD
  have ap : ∀ ρ1 G1 H1, Tr W ρ σ G (upd H D (EO D)) ρ1 σ G1 H1 → H1 D = some (EO D) ∧ G1 D = none ∧ ¬ OwnS ρ1 σ D := fun ρ1 G1 H1 a => a.apart upd_same (l.gn hD) (notOwn l hD) eo_tbl eo_tup
  refine stepDb (Q := Q) l0.lk l0 h fun x ρ1 v G1 H1 a dx h1 => stepDb a.lk (l0.trans a) h1 fun y ρ2 u G2 H2 b dy h2 => ?_
  obtain ⟨eD, gD, nD⟩ := ap ρ2 G2 H2 (a.trans b)
  refine ⟨eD, ?_⟩
  cases y <;> first | exact h2.elim | skip
  rename_i bb
  cases bb <;> first | exact h2.elim | skip
  cases dy
  obtain ⟨hk, h3⟩ := gM_okb h2
  have dx2 := Dq.mono b.fr.gsub dx
  have tall := l0.trans (a.trans b)
  have fin : ∀ o, DicAt (isT x) (upd H2 D o) D [x] → Q (.ref D) (upd H2 D o) := fun o da => by
    exact h3 (.ref D) G2 _ (Tr.grow tall hD eD gD nD ⟨eo_tbl, fun c q => eo_code⟩) ⟨⟨D, rfl, da, gD⟩, fun _ q e => by cases e; exact ⟨nD, .inl hD⟩, fun _ z => by cases z⟩
  cases ht : isT x with
  | true =>
    rw [ht] at hk fin
    obtain ⟨kk, rfl⟩ := keyT_t hk
    obtain ⟨p, vs, rfl, hp, dd⟩ := dx2.tup_inv
    rw [DqAll.keys dd] at hp
    refine .inr ⟨p, kk, rfl, b.lk.sub _ _ hp, fin _ ⟨[kk], upd_same, rfl⟩⟩
  | false =>
    rw [ht] at hk fin
    obtain ⟨kk, rfl⟩ := keyT_f hk
    exact .inl ⟨kk, Dq.key dx2, fin _ ⟨[kk], upd_same, rfl⟩⟩
end
end Nb

set_option Elab.async false
set_option linter.all false
set_option maxRecDepth 100000
set_option maxHeartbeats 4000000
/-! dict comprehensions whose keys are tuples (the lines follow those of HandS.DictComp, for tuple keys) -/
namespace Nb
open PySem PySem.Spec PyProof.Rows L2
theorem d_setT {X : Cx} {pins : List (Addr × Obj)} {σ : L2.St} {H : Hp} {s : Shared} {E : Value → Shared → Prop} {D b : Addr} {kvs : List (List Key × V)} {k : List Key} {v : V} {u r : Value} {Q : Unit → Shared → Prop} (hu : X.A.units < cLine) (I : Inv X pins σ H s) (hD : H D = some (.dT kvs)) (hz : kvs.length < sizeLine)
    (hb : H b = some (.tup (k.map kV))) (ry : RelV (.ref b) u) (rv : RelV v r) (h : ∀ s', Inv X pins σ (upd H D (.dT (putK kvs k v))) s' → Q () s') : wpAny (model X.prog X.w) X.A (dictSet D u r) Q E s := by
  cases ry
  obtain ⟨z, hd, xs, rel, dd⟩ := dt_of I.hok hD
  have hzx : xs.length ≤ sizeLine := by rw [← Paired.length rel]; exact z
  have hl : (putK kvs k v).length ≤ sizeLine := by have := length_putK kvs k v; omega
  refine wpAny_dictSet_heap (hsz := hzx) hu (key_of I.hok hb) dd fun h' dd' hs => h _ ?_
  obtain ⟨q, es, ep, hq, h2, h3, h4, _, h5⟩ := dd'
  refine d_write I (by rw [hD]; exact True.intro) hs ⟨q, hq⟩ ⟨hl, hd, _, (rel.put k hb rv).keeps fun c ys ec => ?_, q, es, ep, hq, h2, h3, h4, h5⟩
  rw [upd_ne (ne_of ec hD (fun z => nomatch z))]
  exact ec
section
variable {X : Cx}
def tDcT (wi : TI) (g : TG) (tt : TT) (tk tv : TE) (vs : List Nat) : TE := fun σ H Q => wi σ H fun J H1 => ∀ D, H1 D = none → ∃ W : Nat → Nat → Hp → Prop, (∃ m, W 0 m (upd H1 D (.dT []))) ∧ ∀ i m H, W i m H →
  (J.stop i H ∧ Q (.ref D) H) ∨ (J.go i H ∧ ∃ Nx : Hp → Prop, (∀ H', Nx H' → ∃ m', m' < m ∧ W (i + 1) m' H') ∧ ∀ x H', J.yld i H x H' → g x (wipe σ vs) H' fun σ2 H2 => wipe σ2 vs = wipe σ vs ∧ tt σ2 H2 fun b H3 =>
    if b = true then tk σ2 H3 fun y H4 => tv σ2 H4 fun z H5 => ∃ kvs b k, y = .ref b ∧ H5 b = some (.tup (k.map kV)) ∧ H5 D = some (.dT kvs) ∧ kvs.length < sizeLine ∧ Nx (upd H5 D (.dT (putK kvs k z))) else Nx H3)
theorem dcT_core {pins : List (Addr × Obj)} {s : Shared} {σ : L2.St} {H : Hp} {Q : VK} {kx vx tg iter : Expr} {ifs : List Expr} {scope : Scope} {own : List (Str × Nat)} {pos pos' : Pos} {wi : TI} {g : TG} {tt : TT} {tk tv : TE} {use : Option (Value → Sem Unit)} {Qf : Value → Shared → Prop}
    (hu : X.A.units < cLine) (hc : X.calm = true) (hN : X.N.Nodup) (I : Inv X pins σ H s) (hi : PI X tg iter wi) (ok : BlkOk X.N X.env.scope scope own)
    (hg : ∀ (s : Shared) (H : Hp) (C : Addr) (cl : List (Str × Addr)) (fp : List Addr), PG (X.blk s H scope (compEnvC scope cl C X.env) fp) tg g) (ht : ∀ (s : Shared) (H : Hp) (C : Addr) (cl : List (Str × Addr)) (fp : List Addr), PTs (X.blk s H scope (compEnvC scope cl C X.env) fp) ifs tt)
    (hk : ∀ (s : Shared) (H : Hp) (C : Addr) (cl : List (Str × Addr)) (fp : List Addr), PE (X.blk s H scope (compEnvC scope cl C X.env) fp) kx tk)
    (he : ∀ (s : Shared) (H : Hp) (C : Addr) (cl : List (Str × Addr)) (fp : List Addr), PE (X.blk s H scope (compEnvC scope cl C X.env) fp) vx tv) (hs : ∀ x, foldedSetIterable iter X.env x = pure x)
    (h : tDcT wi g tt tk tv (own.map (·.2)) σ H Q)
    (hRR : ∀ D C s' m H', Inv X pins σ H' s' → Q (.ref D) H' → s'.heap.Ns C m → FpOk X pins H' C → compPost (model X.prog X.w) X.A X.xe use Qf (.ref D) C (.ok .next) s') :
    wpAny (model X.prog X.w) X.A (comprehension (.DictComp kx vx [⟨tg, iter, ifs, 0⟩] scope pos) scope X.env pos' newDict false (eval iter X.env) use) Qf X.xe s := by
  have hfree : ∀ y ∈ scope.names, y.2 = .free → ∃ c, X.env.cells.lookup y.1 = some c := fun y hy e => by
    rcases ok.free y hy e with k | k
    · exact I.ok.has _ (.inl k)
    · exact I.ok.has _ (.inr k)
  refine wpAny_comprehension_free (use := use) rfl hs (closure_ok hfree) ok.kind (fun y hy e => by rw [ok.uniq y hy, e])
    (thn (hi.run pins s σ H _ I h) fun xv s1 hx => thn hx fun itv s2 h2 => ?_)
  obtain ⟨it, fp, tn, J, H2, e, I2, T, st2, f2, q⟩ := h2
  subst e
  refine wpAny_newObj_type (newEnv_comp ?_)
  generalize hD : s2.heap.objs.size = D
  have hDn : H2 D = none := I2.hok.fresh (Nat.le_of_eq hD)
  obtain ⟨W, ⟨m0, w0⟩, turn⟩ := q D hDn
  -- the new list
  generalize hs3 : ({ s2 with heap := s2.heap.push { cls := .type "dict", data := .dict #[] } } : Shared) = s3
  have I3 : Inv X pins σ (upd H2 D (.dT [])) s3 := by
    rw [← hs3]
    refine I2.laid (t' := s2.toks) (fun b o e => Heap.get?_push_of_some _ e) (Nat.le_of_eq hD) ?_
    rw [← hD]
    exact dt_empty s2.heap I2.big
  have h3 : s3.heap = s2.heap.push { cls := .type "dict", data := .dict #[] } := by rw [← hs3]
  have sz : ∀ b ∈ fp, b < s2.heap.objs.size := fun b hb => by
    obtain ⟨o, e, _⟩ := T.obj _ _ st2 b hb
    exact Heap.lt_size e
  have f3 : ∀ b ∈ fp, FpOk X pins (upd H2 D (.dT [])) b ∧ b < s3.heap.objs.size := fun b hb => by
    have hlt := sz b hb
    refine ⟨⟨?_, (f2 b hb).2⟩, by rw [h3, Heap.size_push]; exact Nat.lt_succ_of_lt hlt⟩
    rw [upd_ne (by rw [← hD]; exact Nat.ne_of_lt hlt)]
    exact (f2 b hb).1
  have st3 : tn 0 s3.heap := T.keep _ _ _ st2 fun b _ o e => by rw [h3]; exact Heap.get?_push_of_some _ e
  have I4 := block_start I3 ok hN f3
  have pg := hg s3 (upd H2 D (.dT [])) s3.heap.objs.size (cellsFrom (s3.heap.objs.size + 1) scope.names (cloFrom X.env.cells scope.names [])) fp
  have pt := ht s3 (upd H2 D (.dT [])) s3.heap.objs.size (cellsFrom (s3.heap.objs.size + 1) scope.names (cloFrom X.env.cells scope.names [])) fp
  have pk := hk s3 (upd H2 D (.dT [])) s3.heap.objs.size (cellsFrom (s3.heap.objs.size + 1) scope.names (cloFrom X.env.cells scope.names [])) fp
  have pe := he s3 (upd H2 D (.dT [])) s3.heap.objs.size (cellsFrom (s3.heap.objs.size + 1) scope.names (cloFrom X.env.cells scope.names [])) fp
  show codeAny _ _ (.compStart (.DictComp kx vx [⟨tg, iter, ifs, 0⟩] scope pos) 0 (.ref it) (.ref D) (compEnvC scope (cellsFrom (s3.heap.objs.size + 1) scope.names (cloFrom X.env.cells scope.names [])) s3.heap.objs.size X.env)) (compPost (model X.prog X.w) X.A X.xe use Qf (.ref D) s3.heap.objs.size) { s3 with heap := pushCells (s3.heap.push { cls := .type "dict", data := .dict #[] }) scope.names }
  have nfp : ∀ b ∈ fp, (upd H2 D (.dT [])) b = none := fun b hb => (f3 b hb).1.1
  generalize hce : compEnvC scope (cellsFrom (s3.heap.objs.size + 1) scope.names (cloFrom X.env.cells scope.names [])) s3.heap.objs.size X.env = ce at I4 pg pt pk pe ⊢
  have cL : ce.locals = s3.heap.objs.size := by subst hce; rfl
  generalize hH3 : upd H2 D (.dT []) = H3 at I3 I4 pg pt pk pe w0 nfp f3
  generalize hs4 : ({ s3 with heap := pushCells (s3.heap.push { cls := .type "dict", data := .dict #[] }) scope.names } : Shared) = s4 at I4 ⊢
  have st4 : tn 0 s4.heap := T.keep _ _ _ st3 fun b _ o e => by rw [← hs4]; exact pushCells_keeps _ _ _ _ (Heap.get?_push_of_some _ e)
  have stat : ∀ {σ' : L2.St} {H' : Hp} {s' : Shared}, Inv (X.blk s3 H3 scope ce fp) [] σ' H' s' → (∀ b ∈ fp, H' b = none) → ∀ b ∈ fp, FpOk (X.blk s3 H3 scope ce fp) [] H' b := fun {σ' H' s'} I' hn b hb =>
    ⟨hn b hb, (I'.ok.exf b hb).1, I'.ok.exfs b hb, .inl hb, fun x c e => (I'.ok.exf b hb).2 x c e, fun p hp => absurd (show p ∈ ([] : List (Addr × Obj)) ++ [] from hp) (by simp)⟩
  have loop : codeAny (model X.prog X.w) X.A (.compLoop (.DictComp kx vx [⟨tg, iter, ifs, 0⟩] scope pos) 0 (.ref it) (.ref D) ce) (compPost (model X.prog X.w) X.A X.xe use Qf (.ref D) s3.heap.objs.size) s4 := by
    refine compLoop_anyD (fun n s' => ∃ i H', Inv (X.blk s3 H3 scope ce fp) [] (wipe σ (own.map (·.2))) H' s' ∧ tn i s'.heap ∧ (∀ b ∈ fp, H' b = none) ∧ W i n H') ?_ m0 ⟨0, H3, I4, st4, nfp, w0⟩
    rintro n s5 ⟨i, H5, I5, st5, n5, w5⟩
    rcases turn i n H5 w5 with ⟨stop, qq⟩ | ⟨go, Nx, hNx, step⟩
    · have td := T.done (X.blk s3 H3 scope ce fp) rfl rfl rfl hc i [] s5 _ H5 (fun _ _ => False) I5 (stat I5 n5) st5 stop
      refine thnF td fun r s6 ⟨hr, I6⟩ => ?_
      subst hr
      -- back in the def's context
      have I7 : Inv X pins σ H5 s6 := I3.call' (ch := fp) I6.os I6.base I6.hok I6.bare fun b hb => ⟨(f3 b hb).1.2.2.2.1, (f3 b hb).1.2.1, (f3 b hb).1.2.2.2.2.1, (f3 b hb).1.2.2.2.2.2⟩
      have nC : H5 s3.heap.objs.size = none := by
        have z : H5 ce.locals = none := I6.free
        rw [cL] at z
        exact z
      obtain ⟨m, hn, _⟩ := I6.loc
      have hn : s6.heap.Ns ce.locals m := hn
      rw [cL] at hn
      exact hRR D s3.heap.objs.size s6 m H5 I7 qq hn (I3.fpOk (Nat.le_refl _) nC)
    · have ti := T.item (X.blk s3 H3 scope ce fp) rfl rfl rfl hc i [] s5 _ H5 (fun _ _ => False) I5 (stat I5 n5) st5 go
      refine thnF ti fun r s6 ⟨u, hr, h6⟩ => ?_
      subst hr
      refine thnF h6 fun _ s7 ⟨x, H7, I7, r7, y7, st7, n7⟩ => ?_
      have I7' := I7.pinned (stat I7 n7) (T.obj _ _ st7)
      refine thnF (pg.run _ s7 _ H7 x u _ I7' r7 (step x H7 y7)) fun _ s8 ⟨σ8, H8, I8, hw8, q8⟩ => ?_
      refine thnF (pt.run _ s8 σ8 H8 _ I8 q8) fun b s9 ⟨H9, I9, q9⟩ => ?_
      -- the turn's end
      have fin : ∀ {s' : Shared} {H' : Hp}, Inv (X.blk s3 H3 scope ce fp) ([] ++ pinsAt fp s7.heap) σ8 H' s' → Nx H' → ∃ m, m < n ∧ ∃ i H', Inv (X.blk s3 H3 scope ce fp) [] (wipe σ (own.map (·.2))) H' s' ∧ tn i s'.heap ∧ (∀ b ∈ fp, H' b = none) ∧ W i m H' := fun {s' H'} I' nx => by
        obtain ⟨m', hm, w'⟩ := hNx H' nx
        have pin' : ∀ b ∈ fp, ∀ o, s7.heap.get? b = some o → s'.heap.get? b = some o ∧ H' b = none := fun b hb o e =>
          let z := I'.pin (b, o) (List.mem_append_right _ (List.mem_append_right _ (mem_pinsAt hb e)))
          ⟨z.1, z.2.1⟩
        have hl : (wipe σ (own.map (·.2))).length = σ8.length := by rw [← hw8, wipe_length]
        refine ⟨m', hm, i + 1, H', (I'.unpinned (pins := [])).weak hl (fun j v e => ?_), T.keep _ _ _ st7 fun b hb o e => (pin' b hb o e).1, fun b hb => ?_, w'⟩
        · rw [← hw8] at e
          exact (wipe_some e).1
        · obtain ⟨o, e, _⟩ := T.obj _ _ st7 b hb
          exact (pin' b hb o e).2
      cases b with
      | false =>
        simp only [Bool.false_eq_true, if_false] at q9 ⊢
        exact fin I9 q9
      | true =>
        simp only [if_true] at q9 ⊢
        refine thnF (pk.run _ s9 σ8 H9 _ I9 q9) fun z s10 ⟨yk, H10, I10, r10, q10⟩ => ?_
        refine thnF (pe.run _ s10 σ8 H10 _ I10 q10) fun z2 s11 ⟨yv, H11, I11, r11, kvs, b, k, ek, hb11, hD11, hz11, nx⟩ => ?_
        subst ek
        exact d_setT (X := X.blk s3 H3 scope ce fp) hu I11 hD11 hz11 hb11 r10 r11 fun s12 I12 => fin I12 nx
  exact codeAny_compStart_dict loop (T.self X.A 0 _ _ _ st4 loop)
/-- as a value -/
theorem pe_dcT {kx vx tg iter : Expr} {ifs : List Expr} {scope : Scope} {own : List (Str × Nat)} {pos : Pos} {wi : TI} {g : TG} {tt : TT} {tk tv : TE} (hu : X.A.units < cLine) (hc : X.calm = true) (hN : X.N.Nodup) (hi : PI X tg iter wi) (ok : BlkOk X.N X.env.scope scope own)
    (hg : ∀ (s : Shared) (H : Hp) (C : Addr) (cl : List (Str × Addr)) (fp : List Addr), PG (X.blk s H scope (compEnvC scope cl C X.env) fp) tg g) (ht : ∀ (s : Shared) (H : Hp) (C : Addr) (cl : List (Str × Addr)) (fp : List Addr), PTs (X.blk s H scope (compEnvC scope cl C X.env) fp) ifs tt)
    (hk : ∀ (s : Shared) (H : Hp) (C : Addr) (cl : List (Str × Addr)) (fp : List Addr), PE (X.blk s H scope (compEnvC scope cl C X.env) fp) kx tk)
    (he : ∀ (s : Shared) (H : Hp) (C : Addr) (cl : List (Str × Addr)) (fp : List Addr), PE (X.blk s H scope (compEnvC scope cl C X.env) fp) vx tv) (hs : ∀ x, foldedSetIterable iter X.env x = pure x := by intro _; rfl) :
    PE X (.DictComp kx vx [⟨tg, iter, ifs, 0⟩] scope pos) (tDcT wi g tt tk tv (own.map (·.2))) := by
  refine ⟨fun pins s σ H Q I h => ?_⟩
  rw [arm_eval_DictComp]
  refine dcT_core hu hc hN I hi ok hg ht hk he hs h fun D C s' m H' I' q hn f => ⟨m, hn, fun h'' sb => ?_⟩
  obtain ⟨f0, f1, f2, f3, f4, f5⟩ := f
  exact ⟨.ref D, H', I'.turned (t' := s'.toks) (fun b o hb e => (sb.2 b hb).trans e) f0 f1 f3 f4 f5, rfl, q⟩
end
section
variable {X : Cx} {W : Wd} {E : XK} {k : Nat}
/-- {} -/
theorem q_dnew (t : Bool) {pos : Pos} : PE X (.Dict [] [] pos) (tV W E (ret (.dc t []))) := by
  cases t with
  | true => exact Nb.PE.imp pe_dnewT fun σ H Q ⟨G, ρ, l, h⟩ p np => Go.dct l h np ⟨[], upd_same, rfl⟩
  | false => exact Nb.PE.imp pe_dnewK fun σ H Q ⟨G, ρ, l, h⟩ p np => Go.dct l h np ⟨[], upd_same, rfl⟩
def trueO : PyData → Bool
  | .bool true => true
  | _ => false
/-- the loop of {k: True for .. in ..}, tuple keys -/
def dcLoop (vs : List Nat) (g : AG) (tk tv : M PyData) : List PyData → List PyData → List SV → Option (List PyData × List SV)
  | [], acc, ρ => some (acc, ρ)
  | x :: xs, acc, ρ => match g x ρ with
    | none => none
    | some ρ1 => match tk ρ1 with
      | .ok y ρ2 => match tv ρ2 with
        | .ok z ρ3 => if acc.length < sizeLine ∧ keyT true y = true ∧ trueO z = true then match wipeR vs ρ3 with
          | some ρ4 => dcLoop vs g tk tv xs (addK acc y) ρ4
          | none => none else none
        | _ => none
      | _ => none
def dcM (vs : List Nat) (it : M (List PyData)) (g : AG) (tk tv : M PyData) : M SV := M.bind it fun xs ρ => match wipeR vs ρ with
  | none => .fail
  | some ρ1 => match dcLoop vs g tk tv xs [] ρ1 with
    | some (acc, ρ2) => .ok (.dc true acc) (unAll vs ρ2)
    | none => .fail
theorem dc_red {is vs : List Nat} {it : M (List PyData)} {g : AG} {tk tv : M PyData} (his : (is.all fun i => vs.contains i) = true) : ∀ σ H Q, tV W E (dcM vs it g tk tv) σ H Q → tDcT (tI W E it) (tG W is g) tYes (tD W E0 tk) (tD W E0 tv) vs σ H Q := by
  intro σ H Q ⟨G, ρ, l, h⟩
  refine ⟨G, ρ, l, ?_⟩
  unfold dcM M.bind at h
  cases e : it ρ with
  | fail => rw [e] at h; exact h
  | exn cc => rw [e] at h; exact h
  | ok xs ρ0 =>
    rw [e] at h
    intro J G1 H1 a j D hD
    have h := Go.shift (r := _) h a
    cases ew : wipeR vs ρ0 with
    | none => simp only [Res.bind, ew] at h; exact h.elim
    | some ρ1 =>
      simp only [Res.bind, ew] at h
      cases el : dcLoop vs g tk tv xs [] ρ1 with
      | none => simp only [el] at h; exact h.elim
      | some r =>
        obtain ⟨racc, ρr⟩ := r
        simp only [el] at h
        have lw : Lk W G1 H1 ρ1 (L2.wipe σ vs) := (Tr.wipe a.lk ew).lk
        refine ⟨fun i m H' => ∃ G' ρ' acc kk, Tr W ρ1 (L2.wipe σ vs) G1 H1 ρ' (L2.wipe σ vs) G' H' ∧ H' D = some (.dT (tr1 kk)) ∧ acc = kk.map (fun l => .tuple (l.map keyD)) ∧ G' D = none ∧ ¬ OwnS ρ' (L2.wipe σ vs) D ∧ m + i = xs.length ∧ dcLoop vs g tk tv (xs.drop i) acc ρ' = some (racc, ρr),
          ⟨xs.length, G1, ρ1, [], [], Tr.newH lw hD, upd_same, rfl, lw.gn hD, notOwn lw hD, rfl, el⟩, fun i m H' ⟨G', ρ', acc, kk, t, hD', ha, gD', nD', hm, hl⟩ => ?_⟩
        have l' := t.lk
        cases hd : xs.drop i with
        | nil =>
          rw [hd] at hl
          cases hl
          refine .inl ⟨j.stop G' H' i t.fr.gsub l'.sub (by have := congrArg List.length hd; simp at this; omega), ?_⟩
          refine h (.ref D) G' H' (Tr.unwipe a.lk ew t) ⟨⟨D, rfl, ⟨kk, hD', ha⟩, gD'⟩, fun _ p ep => ?_, fun _ z => by cases z⟩
          cases ep
          exact ⟨fun z => nD' (own_unw z), .inl hD⟩
        | cons x r =>
          rw [hd] at hl
          have hlt : i < xs.length := by
            have := congrArg List.length hd
            simp at this
            omega
          have ex : xs[i]? = some x := by
            have := congrArg (fun z => z[0]?) hd
            simpa using this
          have er : xs.drop (i + 1) = r := by
            have := congrArg List.tail hd
            simpa [List.tail_drop] using this
          refine .inr ⟨j.go G' H' i t.fr.gsub l'.sub hlt, fun H2 => ∃ G' ρ' acc kk, Tr W ρ1 (L2.wipe σ vs) G1 H1 ρ' (L2.wipe σ vs) G' H2 ∧ H2 D = some (.dT (tr1 kk)) ∧ acc = kk.map (fun l => .tuple (l.map keyD)) ∧ G' D = none ∧ ¬ OwnS ρ' (L2.wipe σ vs) D ∧ dcLoop vs g tk tv (xs.drop (i + 1)) acc ρ' = some (racc, ρr),
            fun H2 ⟨G', ρ', acc, kk, b1, b2, b3, b4, b5, b6⟩ => ⟨m - 1, by omega, G', ρ', acc, kk, b1, b2, b3, b4, b5, by omega, b6⟩, fun v H2 y => ?_⟩
          obtain ⟨G2, t2, dv, keep⟩ := yld_go j t.fr.gsub l' ex y
          unfold dcLoop at hl
          cases eg : g x ρ' with
          | none => rw [eg] at hl; cases hl
          | some ρ2 =>
            rw [eg] at hl
            simp only at hl
            refine ⟨G2, ρ', x, ρ2, t2.lk, dv, eg, fun σ3 G3 t3 on => ?_⟩
            have hw : L2.wipe σ3 vs = L2.wipe σ vs := wipe_only on (fun i hi => by have := (List.all_eq_true.mp his) i hi; simpa using this) |>.trans (wipe_wipe σ vs)
            refine ⟨hw, ?_⟩
            obtain ⟨hD3, gD3, nD3⟩ := (t2.trans t3).apart hD' gD' nD' (fun ps z => by cases z)
            simp only [tYes, if_true]
            refine ⟨G3, ρ2, t3.lk, ?_⟩
            cases ek : tk ρ2 with
            | fail => rw [ek] at hl; cases hl
            | exn cc => rw [ek] at hl; cases hl
            | ok y ρ3 =>
              rw [ek] at hl
              simp only at hl
              intro u G4 H4 t4 du
              refine ⟨G4, ρ3, t4.lk, ?_⟩
              cases ev : tv ρ3 with
              | fail => rw [ev] at hl; cases hl
              | exn cc => rw [ev] at hl; cases hl
              | ok z ρ4 =>
                rw [ev] at hl
                simp only at hl
                intro uz G5 H5 t5 dz
                obtain ⟨hD5, gD5, nD5⟩ := (t4.trans t5).apart hD3 gD3 nD3 (fun ps z => by cases z)
                by_cases hc : acc.length < sizeLine ∧ keyT true y = true ∧ trueO z = true
                · rw [if_pos hc] at hl
                  cases ew5 : wipeR vs ρ4 with
                  | none => rw [ew5] at hl; cases hl
                  | some ρ5 =>
                    rw [ew5] at hl
                    simp only at hl
                    have ez : z = .bool true := by
                      have := hc.2.2
                      unfold trueO at this
                      split at this
                      · rfl
                      · cases this
                    subst ez
                    cases dz
                    obtain ⟨kl, rfl⟩ := keyT_t hc.2.1
                    obtain ⟨p, ws, rfl, hp, dd⟩ := (Dq.mono t5.fr.gsub du).tup_inv
                    rw [DqAll.keys dd] at hp
                    have t6 := Tr.wipe t5.lk ew5
                    rw [hw] at t6
                    obtain ⟨hD6, gD6, nD6⟩ := t6.apart hD5 gD5 nD5 (fun ps z => by cases z)
                    have tall := t.trans (t2.trans (t3.trans (t4.trans (t5.trans t6))))
                    refine ⟨tr1 kk, p, kl, rfl, t5.lk.sub _ _ hp, hD5, by simpa [tr1, ha] using hc.1, G5, ρ5, addK acc (.tuple (kl.map keyD)), if (kk.any fun z => decide (z = kl)) = true then kk else kk ++ [kl], ?_, ?_, ?_, gD6, nD6, by rw [er]; exact hl⟩
                    · exact Tr.grow tall hD hD6 gD6 nD6 ⟨fun ps z => (by cases z), fun c q z => (by cases z)⟩
                    · rw [upd_same, put_tr1]
                    · rw [ha]
                      unfold addK
                      rw [hasK_t]
                      by_cases h : (kk.any fun z => decide (z = kl)) = true
                      · rw [if_pos h, if_pos h]
                      · rw [if_neg h, if_neg h, List.map_append]; rfl
                · rw [if_neg hc] at hl
                  cases hl
theorem q_dc {is vs : List Nat} {kx vx tg iter : Expr} {scope : Scope} {own : List (Str × Nat)} {pos : Pos} {it : M (List PyData)} {g : AG} {tk tv : M PyData} (c : Kx X W E k) (hi : PI X tg iter (tI W E it)) (ok : blkC X.N X.env.scope scope own = true) (hvs : own.map (·.2) = vs) (his : (is.all fun i => vs.contains i) = true)
    (hb : ∀ (s : Shared) (H : Hp) (C : Addr) (cl : List (Str × Addr)) (fp : List Addr), Kx (X.blk s H scope (compEnvC scope cl C X.env) fp) W E0 k → PG (X.blk s H scope (compEnvC scope cl C X.env) fp) tg (tG W is g) ∧ PE (X.blk s H scope (compEnvC scope cl C X.env) fp) kx (tD W E0 tk) ∧ PE (X.blk s H scope (compEnvC scope cl C X.env) fp) vx (tD W E0 tv))
    (hs : ∀ x, foldedSetIterable iter X.env x = pure x := by intro _; rfl) : PE X (.DictComp kx vx [⟨tg, iter, [], 0⟩] scope pos) (tV W E (dcM vs it g tk tv)) := by
  subst hvs
  exact Nb.PE.imp (pe_dcT (by have := c.hu; omega) c.calm c.nd hi (blkOk_by ok) (fun s H C cl fp => (hb s H C cl fp c.blk).1) (fun s H C cl fp => pts_nil) (fun s H C cl fp => (hb s H C cl fp c.blk).2.1) (fun s H C cl fp => (hb s H C cl fp c.blk).2.2) hs) (dc_red his)
end
end Nb

set_option Elab.async false
set_option linter.all false
set_option maxRecDepth 100000
set_option maxHeartbeats 4000000
namespace Nb
open PySem PySem.Spec L2
/-! ### order on data: ints, tuples of ints, tuples of those -/
mutual
def enc : PyData → List Int
  | .int n => [n]
  | .tuple xs => encAll xs
  | _ => []
def encAll : List PyData → List Int
  | [] => [0]
  | x :: xs => 1 :: (enc x ++ encAll xs)
end
def homo : Nat → PyData → Bool
  | 0, .int _ => true
  | n + 1, .tuple xs => xs.all (homo n)
  | _, _ => false
def ltD (x y : PyData) : Bool := HT.lexLt (enc x) (enc y)
theorem enc_tup (xs : List PyData) : enc (.tuple xs) = encAll xs := by simp only [enc]
theorem enc_int (n : Int) : enc (.int n) = [n] := by simp only [enc]
theorem encAll_cons (x : PyData) (xs : List PyData) : encAll (x :: xs) = 1 :: (enc x ++ encAll xs) := by simp only [encAll]
theorem encAll_nil : encAll [] = [0] := by simp only [encAll]
theorem homo_int {x : PyData} (h : homo 0 x = true) : ∃ n, x = .int n := by
  cases x <;> first | exact ⟨_, rfl⟩ | (simp [homo] at h)
theorem homo_tup {n : Nat} {x : PyData} (h : homo (n + 1) x = true) : ∃ xs, x = .tuple xs ∧ xs.all (homo n) = true := by
  cases x <;> first | (simp [homo] at h; done) | skip
  exact ⟨_, rfl, by simpa [homo] using h⟩
/-- the code of one item ahead of more -/
theorem enc_ahead : ∀ (n : Nat) (x y : PyData), homo n x = true → homo n y = true → ∀ r r' : List Int, HT.lexLt (enc x ++ r) (enc y ++ r') = if PyData.eqv x y = true then HT.lexLt r r' else HT.lexLt (enc x) (enc y)
  | 0, x, y, hx, hy, r, r' => by
    obtain ⟨a, rfl⟩ := homo_int hx
    obtain ⟨b, rfl⟩ := homo_int hy
    rw [enc_int, enc_int]
    show HT.lexLt (a :: r) (b :: r') = if (a == b) = true then _ else HT.lexLt [a] [b]
    rw [HT.lexLt_cons, HT.lexLt_cons]
    by_cases h : a = b
    · rw [if_pos h, if_pos (by simpa using h)]
    · rw [if_neg h, if_neg (by simpa using h), if_neg h]
  | n + 1, x, y, hx, hy, r, r' => by
    obtain ⟨xs, rfl, hxs⟩ := homo_tup hx
    obtain ⟨ys, rfl, hys⟩ := homo_tup hy
    rw [enc_tup, enc_tup]
    show _ = if PyData.eqvAll xs ys = true then _ else _
    clear hx hy
    induction xs generalizing ys with
    | nil =>
      cases ys with
      | nil =>
        rw [encAll_nil]
        show HT.lexLt (0 :: r) (0 :: r') = if true = true then HT.lexLt r r' else _
        rw [HT.lexLt_cons, if_pos rfl, if_pos rfl]
      | cons y ys =>
        rw [encAll_nil, encAll_cons]
        show HT.lexLt (0 :: r) (1 :: (enc y ++ encAll ys ++ r')) = if false = true then _ else HT.lexLt (0 :: []) (1 :: (enc y ++ encAll ys))
        rw [HT.lexLt_cons, HT.lexLt_cons, if_neg (by decide), if_neg (by decide), if_neg (by decide)]
    | cons x xs ih =>
      cases ys with
      | nil =>
        rw [encAll_nil, encAll_cons]
        show HT.lexLt (1 :: (enc x ++ encAll xs ++ r)) (0 :: r') = if false = true then _ else HT.lexLt (1 :: (enc x ++ encAll xs)) (0 :: [])
        rw [HT.lexLt_cons, HT.lexLt_cons, if_neg (by decide), if_neg (by decide), if_neg (by decide)]
      | cons y ys =>
        rw [List.all_cons, Bool.and_eq_true] at hxs hys
        rw [encAll_cons, encAll_cons]
        show HT.lexLt (1 :: (enc x ++ encAll xs ++ r)) (1 :: (enc y ++ encAll ys ++ r')) = if (PyData.eqv x y && PyData.eqvAll xs ys) = true then _ else HT.lexLt (1 :: (enc x ++ encAll xs)) (1 :: (enc y ++ encAll ys))
        rw [HT.lexLt_cons, HT.lexLt_cons, if_pos rfl, if_pos rfl, List.append_assoc, List.append_assoc, enc_ahead n x y hxs.1 hys.1, enc_ahead n x y hxs.1 hys.1]
        by_cases h : PyData.eqv x y = true
        · rw [if_pos h, if_pos h, h, Bool.true_and]
          exact ih hxs.2 ys hys.2
        · have h' : PyData.eqv x y = false := by simpa using h
          rw [if_neg h, if_neg h, h', Bool.false_and, if_neg (by decide)]
/-- tuples: item by item -/
theorem ltAll_cons {n : Nat} {x y : PyData} {xs ys : List PyData} (hx : homo n x = true) (hy : homo n y = true) : HT.lexLt (encAll (x :: xs)) (encAll (y :: ys)) = if PyData.eqv x y = true then HT.lexLt (encAll xs) (encAll ys) else HT.lexLt (enc x) (enc y) := by
  rw [encAll_cons, encAll_cons, HT.lexLt_cons, if_pos rfl]
  exact enc_ahead n x y hx hy _ _
theorem ltAll_nn : HT.lexLt (encAll []) (encAll []) = false := by rw [encAll_nil]; rfl
theorem ltAll_nc (y : PyData) (ys : List PyData) : HT.lexLt (encAll []) (encAll (y :: ys)) = true := by
  rw [encAll_nil, encAll_cons, HT.lexLt_cons, if_neg (by decide)]; rfl
theorem ltAll_cn (x : PyData) (xs : List PyData) : HT.lexLt (encAll (x :: xs)) (encAll []) = false := by
  rw [encAll_nil, encAll_cons, HT.lexLt_cons, if_neg (by decide)]; rfl
theorem lay_homo : ∀ (n : Nat) (x : PyData), homo n x = true → x.canLay0 = true
  | 0, x, h => by obtain ⟨a, rfl⟩ := homo_int h; rfl
  | n + 1, x, h => by
    obtain ⟨xs, rfl, hxs⟩ := homo_tup h
    show PyData.canLayAll0 xs = true
    clear h
    induction xs with
    | nil => rfl
    | cons x xs ih =>
      rw [List.all_cons, Bool.and_eq_true] at hxs
      show (x.canLay0 && PyData.canLayAll0 xs) = true
      rw [lay_homo n x hxs.1, ih hxs.2]
      rfl
theorem dep_homo : ∀ (n : Nat) (x : PyData), homo n x = true → x.depth ≤ n
  | 0, x, h => by obtain ⟨a, rfl⟩ := homo_int h; simp [PyData.depth]
  | n + 1, x, h => by
    obtain ⟨xs, rfl, hxs⟩ := homo_tup h
    have : PyData.depthAll xs ≤ n := by
      clear h
      induction xs with
      | nil => simp [PyData.depthAll]
      | cons x xs ih =>
        rw [List.all_cons, Bool.and_eq_true] at hxs
        have h1 := dep_homo n x hxs.1
        have h2 := ih hxs.2
        simp only [PyData.depthAll]
        omega
    simp only [PyData.depth]
    omega

/-! ### stable insertion sort -/
section
variable {α β : Type}
def insB (lt : α → α → Bool) (x : α) : List α → List α
  | [] => [x]
  | y :: l => if lt y x then y :: insB lt x l else x :: y :: l
def isort (lt : α → α → Bool) : List α → List α
  | [] => []
  | x :: l => insB lt x (isort lt l)
open SrtO
theorem insB_split (lt : α → α → Bool) (x : α) : ∀ l : List α, ∃ a b, l = a ++ b ∧ insB lt x l = a ++ x :: b ∧ (∀ y ∈ a, lt y x = true) ∧ ∀ y r, b = y :: r → lt y x = false
  | [] => ⟨[], [], rfl, rfl, (fun _ h => by cases h), fun _ _ h => by cases h⟩
  | y :: l => by
    unfold insB
    by_cases h : lt y x = true
    · obtain ⟨a, b, e1, e2, h1, h2⟩ := insB_split lt x l
      rw [if_pos h]
      exact ⟨y :: a, b, by rw [e1]; rfl, by rw [e2]; rfl, fun z hz => by rcases List.mem_cons.mp hz with e | hz; exact e ▸ h; exact h1 z hz, h2⟩
    · rw [if_neg h]
      exact ⟨[], y :: l, rfl, rfl, (fun _ h => by cases h), fun z r e => by cases e; simpa using h⟩
theorem isort_ok {lt : α → α → Bool} (O : Swo lt) : ∀ l : List α, Srtd lt (isort lt l) ∧ Stb lt (isort lt l) l
  | [] => ⟨List.Pairwise.nil, Stb.refl _⟩
  | x :: l => by
    obtain ⟨hs, hb⟩ := isort_ok O l
    obtain ⟨a, b, e1, e2, h1, h2⟩ := insB_split lt x (isort lt l)
    unfold isort
    rw [e2]
    rw [e1] at hs hb
    have ge : ∀ y ∈ b, lt y x = false := fun y hy => by
      cases b with
      | nil => cases hy
      | cons z r => exact O.le_all (srtd_app.mp hs).2.1 (h2 z r rfl) y hy
    refine ⟨?_, ?_⟩
    · obtain ⟨sa, sb, sx⟩ := srtd_app.mp hs
      refine srtd_app.mpr ⟨sa, List.pairwise_cons.mpr ⟨ge, sb⟩, fun u hu v hv => ?_⟩
      rcases List.mem_cons.mp hv with e | hv
      · rw [e]; exact O.asym u x (h1 u hu)
      · exact sx u hu v hv
    · have q : Stb lt (a ++ [x]) ([x] ++ a) := Stb.swap O fun u hu v hv => by rw [List.mem_singleton.mp hv]; exact h1 u hu
      have q2 := q.app (Stb.refl (lt := lt) b)
      have e : a ++ [x] ++ b = a ++ x :: b := by simp
      have e' : [x] ++ a ++ b = x :: (a ++ b) := by simp
      rw [e, e'] at q2
      exact q2.trans ((Stb.refl (lt := lt) [x]).app hb)
theorem insB_map {lt : β → β → Bool} {lt' : α → α → Bool} (f : α → β) (x : α) : ∀ l : List α, (∀ y ∈ l, lt (f y) (f x) = lt' y x) → insB lt (f x) (l.map f) = (insB lt' x l).map f
  | [], _ => rfl
  | y :: l, h => by
    rw [List.map_cons]
    unfold insB
    rw [h y List.mem_cons_self]
    by_cases q : lt' y x = true
    · rw [if_pos q, if_pos q, List.map_cons, insB_map f x l fun z hz => h z (List.mem_cons_of_mem _ hz)]
    · rw [if_neg q, if_neg q]; rfl
theorem insB_mem (lt : α → α → Bool) (x : α) (l : List α) (y : α) : y ∈ insB lt x l ↔ y = x ∨ y ∈ l := by
  obtain ⟨a, b, e1, e2, _, _⟩ := insB_split lt x l
  rw [e2, e1]
  simp only [List.mem_append, List.mem_cons]
  constructor <;> rintro (h | h | h) <;> simp [h]
theorem isort_mem (lt : α → α → Bool) (y : α) : ∀ l : List α, y ∈ isort lt l ↔ y ∈ l
  | [] => Iff.rfl
  | x :: l => by unfold isort; rw [insB_mem, isort_mem lt y l, List.mem_cons]
theorem isort_map {lt : β → β → Bool} {lt' : α → α → Bool} (f : α → β) : ∀ l : List α, (∀ x ∈ l, ∀ y ∈ l, lt (f y) (f x) = lt' y x) → isort lt (l.map f) = (isort lt' l).map f
  | [], _ => rfl
  | x :: l, h => by
    rw [List.map_cons]
    unfold isort
    rw [isort_map f l fun a ha b hb => h a (List.mem_cons_of_mem _ ha) b (List.mem_cons_of_mem _ hb)]
    exact insB_map f x _ fun y hy => h x List.mem_cons_self y (List.mem_cons_of_mem _ ((isort_mem lt' y l).mp hy))
theorem isort_len (lt : α → α → Bool) (l : List α) : (isort lt l).length = l.length := by
  induction l with
  | nil => rfl
  | cons x l ih =>
    unfold isort
    obtain ⟨a, b, e1, e2, _, _⟩ := insB_split lt x (isort lt l)
    rw [e2, List.length_append, List.length_cons, List.length_cons, ← ih, e1, List.length_append]
    omega
end
def sortD (xs : List PyData) : List PyData := isort ltD xs

/-! ### the comparisons of the sort -/
open PyProof.Rows PySem.W
section
variable {prog : Program} {w : World} {A : Around} {E : Value → Shared → Prop} {s : Shared}
theorem reads_uniq {h : Heap} : ∀ (n m : Nat) (d e : PyData) (v : Value) (as bs : List Addr), homo n d = true → homo m e = true → Reads h v d as → Reads h v e bs → d = e
  | 0, m, d, e, v, as, bs, hd, he, r, q => by
    obtain ⟨a, rfl⟩ := homo_int hd
    cases r
    cases q
    rfl
  | n + 1, m, d, e, v, as, bs, hd, he, r, q => by
    obtain ⟨xs, rfl, hxs⟩ := homo_tup hd
    cases r with
    | tuple h1 h2 h3 h4 =>
      cases q with
      | list k1 k2 k3 k4 => cases m <;> simp [homo] at he
      | dict k1 k2 k3 k4 k5 => cases m <;> simp [homo] at he
      | tuple k1 k2 k3 k4 =>
        rw [h1] at k1
        cases k1
        rw [h3] at k3
        cases k3
        cases m with
        | zero => simp [homo] at he
        | succ m =>
          obtain ⟨ys, ey, hys⟩ := homo_tup he
          cases ey
          have all : ∀ (us : List Value) (xs ys : List PyData) (as bs : List Addr), xs.all (homo n) = true → ys.all (homo m) = true → ReadsAll h us xs as → ReadsAll h us ys bs → xs = ys := by
            intro us
            induction us with
            | nil => intro xs ys as bs _ _ r q; cases r; cases q; rfl
            | cons u us ih =>
              intro xs ys as bs hx hy r q
              cases r with
              | cons r1 r2 =>
                cases q with
                | cons q1 q2 =>
                  rw [List.all_cons, Bool.and_eq_true] at hx hy
                  rw [reads_uniq n m _ _ _ _ _ hx.1 hy.1 r1 q1, ih _ _ _ _ hx.2 hy.2 r2 q2]
          rw [all _ _ _ _ _ hxs hys h4 k4]
open PySem.SeqAt in
theorem lex_at {n : Nat} {xs ys : List PyData} (hx : xs.all (homo n) = true) (hy : ys.all (homo n) = true) {e r : Nat → Bool} (he : ∀ j (h1 : j < xs.length) (h2 : j < ys.length), e j = PyData.eqv xs[j] ys[j]) (hr : ∀ j (h1 : j < xs.length) (h2 : j < ys.length), r j = HT.lexLt (enc xs[j]) (enc ys[j])) :
    ∀ k i, i + k = min xs.length ys.length → Ob.lexAt e r (decide (xs.length < ys.length)) i k = HT.lexLt (encAll (xs.drop i)) (encAll (ys.drop i))
  | 0, i, h => by
    rw [Ob.lexAt_zero]
    by_cases h1 : xs.length ≤ i
    · rw [List.drop_eq_nil_of_le h1]
      by_cases h2 : ys.length ≤ i
      · rw [List.drop_eq_nil_of_le h2, ltAll_nn]
        exact decide_eq_false (by omega)
      · rw [List.drop_eq_getElem_cons (by omega), ltAll_nc]
        exact decide_eq_true (by omega)
    · have h2 : ys.length ≤ i := by omega
      rw [List.drop_eq_nil_of_le h2, List.drop_eq_getElem_cons (by omega), ltAll_cn]
      exact decide_eq_false (by omega)
  | k + 1, i, h => by
    have h1 : i < xs.length := by omega
    have h2 : i < ys.length := by omega
    rw [Ob.lexAt_succ, lex_at hx hy he hr k (i + 1) (by omega), List.drop_eq_getElem_cons h1, List.drop_eq_getElem_cons h2, ltAll_cons (n := n) (List.all_eq_true.mp hx _ (List.getElem_mem h1)) (List.all_eq_true.mp hy _ (List.getElem_mem h2)), he i h1 h2, hr i h1 h2]
theorem rc_lt : ∀ (n : Nat) (A : Around) (s : Shared) (x y : PyData) (v u : Value) (as bs : List Addr), homo n x = true → homo n y = true → Reads s.heap v x as → Reads s.heap u y bs → A.units + n + 3 < cLine → Ob.RcOp .Lt A s v u (ltD x y)
  | 0, A, s, x, y, v, u, as, bs, hx, hy, r, q, hu => by
    obtain ⟨a, rfl⟩ := homo_int hx
    obtain ⟨b, rfl⟩ := homo_int hy
    cases r
    cases q
    have e : ltD (.int a) (.int b) = decide (a < b) := by
      unfold ltD
      rw [enc_int, enc_int, HT.lexLt_cons]
      by_cases h : a = b
      · rw [if_pos h, h]; exact (decide_eq_false (Int.lt_irrefl b)).symm
      · rw [if_neg h]
    rw [e]
    exact Ob.RcOp.lt_int a b _ _
  | n + 1, A, s, x, y, v, u, as, bs, hx, hy, r, q, hu => by
    obtain ⟨xs, rfl, hxs⟩ := homo_tup hx
    obtain ⟨ys, rfl, hys⟩ := homo_tup hy
    cases r with
    | @tuple a o vs m _ _ h1 h2 h3 h4 =>
      cases q with
      | @tuple b o' us m' _ _ k1 k2 k3 k4 =>
        have len : ∀ {us : List Value} {ds : List PyData} {as : List Addr}, ReadsAll s.heap us ds as → us.length = ds.length := by
          intro us
          induction us with
          | nil => intro ds as r; cases r; rfl
          | cons u us ih => intro ds as r; cases r with | cons r1 r2 => rw [List.length_cons, List.length_cons, ih r2]
        have lx := len h4
        have ly := len k4
        rw [Array.length_toList] at lx ly
        have get : ∀ {us : List Value} {ds : List PyData} {as : List Addr}, ReadsAll s.heap us ds as → ∀ j (a1 : j < us.length) (a2 : j < ds.length), ∃ bs, Reads s.heap us[j] ds[j] bs := by
          intro us
          induction us with
          | nil => intro ds as r j a1; cases a1
          | cons u us ih =>
            intro ds as r j a1 a2
            cases r with
            | cons r1 r2 =>
              cases j with
              | zero => exact ⟨_, r1⟩
              | succ j => exact ih r2 j (Nat.lt_of_succ_lt_succ a1) (Nat.lt_of_succ_lt_succ a2)
        have hin : A.in1.units = A.units + 1 := rfl
        have rc := Ob.RcOp.tuples_lt (A := A) (s := s) (l := a) (b := b) (items := vs) (items2 := us) (e := fun j => PyData.eqv (xs.getD j .none) (ys.getD j .none)) (r := fun j => HT.lexLt (enc (xs.getD j .none)) (enc (ys.getD j .none))) ⟨o, h1, h2, m, h3⟩ ⟨o', k1, k2, m', k3⟩ (by omega)
          (fun j a1 a2 => by
            have b1 : j < xs.length := by omega
            have b2 : j < ys.length := by omega
            obtain ⟨_, r1⟩ := get h4 j (by simpa using a1) b1
            obtain ⟨_, r2⟩ := get k4 j (by simpa using a2) b2
            have d1 := dep_homo n _ (List.all_eq_true.mp hxs _ (List.getElem_mem b1))
            simp only [List.getD_eq_getElem?_getD, List.getElem?_eq_getElem b1, List.getElem?_eq_getElem b2, Option.getD_some]
            exact SeqAt.eqAt_reads xs[j] ys[j] A.in1 s _ _ _ _ (by simpa using r1) (by simpa using r2) (lay_homo n _ (List.all_eq_true.mp hxs _ (List.getElem_mem b1))) (lay_homo n _ (List.all_eq_true.mp hys _ (List.getElem_mem b2))) (by rw [hin]; omega))
          (fun j a1 a2 _ => by
            have b1 : j < xs.length := by omega
            have b2 : j < ys.length := by omega
            obtain ⟨_, r1⟩ := get h4 j (by simpa using a1) b1
            obtain ⟨_, r2⟩ := get k4 j (by simpa using a2) b2
            simp only [List.getD_eq_getElem?_getD, List.getElem?_eq_getElem b1, List.getElem?_eq_getElem b2, Option.getD_some]
            exact rc_lt n A.in1 s xs[j] ys[j] _ _ _ _ (List.all_eq_true.mp hxs _ (List.getElem_mem b1)) (List.all_eq_true.mp hys _ (List.getElem_mem b2)) (by simpa using r1) (by simpa using r2) (by rw [hin]; omega))
        have e : ltD (.tuple xs) (.tuple ys) = Ob.lexAt (fun j => PyData.eqv (xs.getD j .none) (ys.getD j .none)) (fun j => HT.lexLt (enc (xs.getD j .none)) (enc (ys.getD j .none))) (decide (vs.size < us.size)) 0 (min vs.size us.size) := by
          unfold ltD
          rw [enc_tup, enc_tup, lx, ly]
          have q := lex_at (e := fun j => PyData.eqv (xs.getD j .none) (ys.getD j .none)) (r := fun j => HT.lexLt (enc (xs.getD j .none)) (enc (ys.getD j .none))) hxs hys (fun j b1 b2 => by simp only [List.getD_eq_getElem?_getD, List.getElem?_eq_getElem b1, List.getElem?_eq_getElem b2, Option.getD_some]) (fun j b1 b2 => by simp only [List.getD_eq_getElem?_getD, List.getElem?_eq_getElem b1, List.getElem?_eq_getElem b2, Option.getD_some]) (min xs.length ys.length) 0 (by omega)
          rw [List.drop_zero, List.drop_zero] at q
          exact q.symm
        rw [e]
        exact rc
end
end Nb

set_option Elab.async false
set_option linter.all false
set_option maxRecDepth 100000
set_option maxHeartbeats 4000000
namespace Nb
open PySem PySem.Spec L2 PyProof.Rows PySem.W
/-! ### sorted -/
section
variable {prog : Program} {w : World} {A : Around} {E : Value → Shared → Prop} {s : Shared}
theorem rall_len {h : Heap} : ∀ {us : List Value} {ds : List PyData} {as : List Addr}, ReadsAll h us ds as → us.length = ds.length
  | _, _, _, .nil => rfl
  | _, _, _, .cons _ r => by rw [List.length_cons, List.length_cons, rall_len r]
theorem kat_data {n : Nat} {b : Bool} {Q : Bool → Shared → Prop} (hb : b = true → n = 0) (hu : A.units + n + 5 < cLine) : ∀ (vs us : List Value) (xs ys : List PyData) (as bs : List Addr) (i : Nat) (fin : Bool), xs.all (homo n) = true → ys.all (homo n) = true → ReadsAll s.heap vs xs as → ReadsAll s.heap us ys bs →
    (fin = decide (vs.length < us.length)) → Q (HT.lexLt (encAll xs) (encAll ys)) s → KatLex prog w A b fin Q (vs.zip us) i s
  | [], [], xs, ys, _, _, i, fin, _, _, r, q, hf, h => by
    cases r; cases q
    rw [ltAll_nn] at h
    subst hf
    exact kat_nil h
  | [], u :: us, xs, ys, _, _, i, fin, _, _, r, q, hf, h => by
    cases r
    cases q with
    | cons q1 q2 =>
      rw [ltAll_nc] at h
      have : fin = true := by rw [hf]; simp
      subst this
      exact kat_nil h
  | v :: vs, [], xs, ys, _, _, i, fin, _, _, r, q, hf, h => by
    cases q
    cases r with
    | cons r1 r2 =>
      rw [ltAll_cn] at h
      have : fin = false := by rw [hf]; simp
      subst this
      exact kat_nil h
  | v :: vs, u :: us, xs, ys, _, _, i, fin, hx, hy, r, q, hf, h => by
    cases r with
    | @cons _ _ x xs' _ _ r1 r2 =>
      cases q with
      | @cons _ _ y ys' _ _ q1 q2 =>
        rw [List.all_cons, Bool.and_eq_true] at hx hy
        rw [ltAll_cons hx.1 hy.1] at h
        have d1 := dep_homo n x hx.1
        refine kat_cons (SeqAt.eqAt_reads x y A s _ _ _ _ r1 q1 (lay_homo n x hx.1) (lay_homo n y hy.1) (by omega) prog w _ _ (kat_go (fun e => ?_) (fun e => ?_)))
        · rw [e, if_pos rfl] at h
          refine kat_yes (kat_data hb hu vs us _ _ _ _ (i + 1) fin hx.2 hy.2 r2 q2 ?_ h)
          rw [hf]
          simp
        · rw [e, if_neg (by decide)] at h
          refine kat_no ?_
          cases n with
          | zero =>
            obtain ⟨a, rfl⟩ := homo_int hx.1
            obtain ⟨c, rfl⟩ := homo_int hy.1
            cases r1
            cases q1
            refine TS.oneLt_ints _ ?_
            rw [enc_int, enc_int, HT.lexLt_cons] at h
            have hne : ¬ a = c := by
              intro z
              subst z
              simp [PyData.eqv] at e
            rw [if_neg hne] at h
            exact h
          | succ n =>
            have : b = false := by
              cases b with
              | false => rfl
              | true => exact absurd (hb rfl) (by omega)
            subst this
            exact kat_one _ _ (rc_lt (n + 1) A s x y _ _ _ _ hx.1 hy.1 r1 q1 (by omega) prog w _ _ (show PySem.W.BoolBack Q (.bool (ltD x y)) s from h))
open Classical in
/-- the code of a value, as the heap h has it -/
noncomputable def kv (h : Heap) (v : Value) : List Int := if q : ∃ d, ∃ (n : Nat) (as : List Addr), homo n d = true ∧ Reads h v d as then enc q.choose else []
theorem kv_eq {h : Heap} {v : Value} {d : PyData} {n : Nat} {as : List Addr} (hd : homo n d = true) (r : Reads h v d as) : kv h v = enc d := by
  unfold kv
  have q : ∃ d, ∃ (n : Nat) (as : List Addr), homo n d = true ∧ Reads h v d as := ⟨d, n, as, hd, r⟩
  rw [dif_pos q]
  obtain ⟨m, bs, h1, h2⟩ := q.choose_spec
  rw [reads_uniq m n _ _ _ _ _ h1 hd h2 r]
theorem rall_mem {h : Heap} : ∀ {us : List Value} {ds : List PyData} {as : List Addr}, ReadsAll h us ds as → ∀ v ∈ us, ∃ d bs, d ∈ ds ∧ Reads h v d bs
  | _, _, _, .cons (d := d) r rs, v, hv => by
    rcases List.mem_cons.mp hv with e | hv
    · exact ⟨d, _, List.mem_cons_self, e ▸ r⟩
    · obtain ⟨d', bs, h1, h2⟩ := rall_mem rs v hv
      exact ⟨d', bs, List.mem_cons_of_mem _ h1, h2⟩
theorem rall_ints {h : Heap} : ∀ {us : List Value} {ds : List PyData} {as : List Addr}, ReadsAll h us ds as → ds.all (homo 0) = true → ∃ ns, IntsAre us ns
  | _, _, _, .nil, _ => ⟨[], .nil⟩
  | _, _, _, .cons r rs, hx => by
    rw [List.all_cons, Bool.and_eq_true] at hx
    obtain ⟨a, rfl⟩ := homo_int hx.1
    obtain ⟨ns, i⟩ := rall_ints rs hx.2
    cases r
    exact ⟨_, .cons a _ i⟩
def nonE : PyData → Bool
  | .tuple (_ :: _) => true
  | _ => false
theorem rall_tups {h : Heap} {n : Nat} : ∀ {us : List Value} {ds : List PyData} {as : List Addr}, ReadsAll h us ds as → ds.all (homo (n + 1)) = true → ds.all nonE = true → ∃ fs, KatTups h us fs ∧ fs.length = us.length ∧ ∀ f ∈ fs, ∃ d bs, homo n d = true ∧ Reads h f d bs
  | _, _, _, .nil, _, _ => ⟨[], trivial, rfl, fun _ h => by cases h⟩
  | _, _, _, .cons r rs, hx, hy => by
    rw [List.all_cons, Bool.and_eq_true] at hx hy
    obtain ⟨fs, k, hl, hf⟩ := rall_tups rs hx.2 hy.2
    obtain ⟨xs, rfl, hxs⟩ := homo_tup hx.1
    cases r with
    | @tuple a o vs m _ _ h1 h2 h3 h4 =>
      cases xs with
      | nil => simp [nonE] at hy
      | cons x xs =>
        have e0 : ∃ f r, vs.toList = f :: r ∧ ∃ bs, Reads h f x bs := by
          cases e : vs.toList with
          | nil => rw [e] at h4; cases h4
          | cons f r =>
            rw [e] at h4
            cases h4 with
            | cons r1 r2 => exact ⟨f, r, rfl, _, r1⟩
        obtain ⟨f, rr, ef, bs, rf⟩ := e0
        rw [List.all_cons, Bool.and_eq_true] at hxs
        refine ⟨f :: fs, KatTups.cons h1 h2 h3 (by rw [← Array.getElem?_toList, ef]; rfl) k, by rw [List.length_cons, List.length_cons, hl], fun g hg => ?_⟩
        rcases List.mem_cons.mp hg with e | hg
        · exact ⟨x, bs, hxs.1, e ▸ rf⟩
        · exact hf g hg
/-- data that sorts -/
def srtOk (n : Nat) (ds : List PyData) : Bool := ds.all (homo n) && (n == 0 || ds.all nonE) && decide (n ≤ 2)
theorem srt_able {a : Addr} {vs : List Value} {ds : List PyData} {as : List Addr} {n : Nat} (hs : srtOk n ds = true) (r : ReadsAll s.heap vs ds as) (h2 : 2 ≤ vs.length) (ha : ∀ o, s.heap.get? a = some o → o.cls ≠ .type "tuple") (hu : A.units + 10 < cLine) :
    SrtO.SortableO prog w A s a vs (fun v u => HT.lexLt (kv s.heap v) (kv s.heap u)) := by
  unfold srtOk at hs
  simp only [Bool.and_eq_true, decide_eq_true_eq] at hs
  obtain ⟨⟨hx, hy⟩, hn⟩ := hs
  intro h' keep
  -- what reads, still reads
  have keepR : ∀ (n : Nat) (d : PyData) (v : Value) (as : List Addr), homo n d = true → Reads s.heap v d as → ∃ bs, Reads h' v d bs := by
    intro n
    induction n with
    | zero => intro d v as hd r; obtain ⟨i, rfl⟩ := homo_int hd; cases r; exact ⟨_, .int i _⟩
    | succ n ih =>
      intro d v as hd r
      obtain ⟨xs, rfl, hxs⟩ := homo_tup hd
      cases r with
      | @tuple b o us m _ _ h1 h2 h3 h4 =>
        have all : ∀ {us : List Value} {xs : List PyData} {as : List Addr}, xs.all (homo n) = true → ReadsAll s.heap us xs as → ∃ bs, ReadsAll h' us xs bs := by
          intro us
          induction us with
          | nil => intro xs as _ r; cases r; exact ⟨_, .nil⟩
          | cons u us ih2 =>
            intro xs as hx r
            cases r with
            | cons r1 r2 =>
              rw [List.all_cons, Bool.and_eq_true] at hx
              obtain ⟨b1, q1⟩ := ih _ _ _ hx.1 r1
              obtain ⟨b2, q2⟩ := ih2 hx.2 r2
              exact ⟨_, .cons q1 q2⟩
        obtain ⟨bs, q⟩ := all hxs h4
        exact ⟨_, .tuple (keep b o (fun z => ha o (by rw [← z]; exact h1) h2) h1) h2 h3 q⟩
  have keepA : ∀ {us : List Value} {xs : List PyData} {as : List Addr}, xs.all (homo n) = true → ReadsAll s.heap us xs as → ∃ bs, ReadsAll h' us xs bs := by
    intro us
    induction us with
    | nil => intro xs as _ r; cases r; exact ⟨_, .nil⟩
    | cons u us ih2 =>
      intro xs as hx r
      cases r with
      | cons r1 r2 =>
        rw [List.all_cons, Bool.and_eq_true] at hx
        obtain ⟨b1, q1⟩ := keepR n _ _ _ hx.1 r1
        obtain ⟨b2, q2⟩ := ih2 hx.2 r2
        exact ⟨_, .cons q1 q2⟩
  obtain ⟨bs, r'⟩ := keepA hx r
  have kvs : ∀ v ∈ vs, ∃ d cs, homo n d = true ∧ Reads h' v d cs ∧ kv s.heap v = enc d := fun v hv => by
    obtain ⟨d, cs, hd, rd⟩ := rall_mem r v hv
    have hh := List.all_eq_true.mp hx d hd
    obtain ⟨cs', rd'⟩ := keepR n d v cs hh rd
    exact ⟨d, cs', hh, rd', kv_eq hh rd⟩
  cases n with
  | zero =>
    refine ⟨oneType', fun Q E hq => ?_, fun p q hm hm' => ?_⟩
    · obtain ⟨ns, hI⟩ := rall_ints r hx
      match vs, hI, h2 with
      | v1 :: v2 :: rest, hI, _ =>
        rw [keyKind_ints hI]
        exact wpAny_pure hq
      | [], _, h => exact absurd h (by decide)
      | [v], _, h => exact absurd h (by simp)
    · obtain ⟨d, cs, hd, rd, ed⟩ := kvs _ hm
      obtain ⟨d', cs', hd', rd', ed'⟩ := kvs _ hm'
      obtain ⟨i, rfl⟩ := homo_int hd
      obtain ⟨j, rfl⟩ := homo_int hd'
      show wpAny (model prog w) A (keyLt' oneType' p.1 q.1) (fun r s' => s' = _ ∧ r = HT.lexLt (kv s.heap p.1) (kv s.heap q.1)) (fun _ _ => False) _
      rw [ed, ed', enc_int, enc_int]
      generalize p.1 = v at rd ⊢
      generalize q.1 = u at rd' ⊢
      cases rd
      cases rd'
      rw [keyLt'_oneType]
      refine oneLt_int ⟨rfl, ?_⟩
      rw [HT.lexLt_cons]
      by_cases h : i = j
      · rw [if_pos h, h]; exact decide_eq_false (Int.lt_irrefl j)
      · rw [if_neg h]
  | succ n =>
    have hy' : ds.all nonE = true := by simpa using hy
    obtain ⟨fs, k1, k2, k3⟩ := rall_tups r' hx hy'
    refine ⟨tuples' ((if n = 0 then Value.type "int" else Value.type "tuple") != Value.type "tuple"), fun Q E hq => ?_, fun p q hm hm' => ?_⟩
    · refine kat_kind (T := if n = 0 then Value.type "int" else Value.type "tuple") k1 (by omega) (fun f hf => ?_) ?_ hq
      · obtain ⟨d, cs, hd, rd⟩ := k3 f hf
        cases n with
        | zero =>
          obtain ⟨i, rfl⟩ := homo_int hd
          cases rd
          exact Looks.now
        | succ n =>
          obtain ⟨xs, rfl, _⟩ := homo_tup hd
          cases rd with
          | @tuple b o us m _ _ h1 h2 h3 h4 =>
            rw [if_neg (by omega)]
            have q : Looks (model prog w) h' (typeOf (.ref b)) o.cls := (Looks.ld h1).andThen .now
            rw [h2] at q
            exact q
      · cases n <;> rfl
    · obtain ⟨d, cs, hd, rd, ed⟩ := kvs _ hm
      obtain ⟨d', cs', hd', rd', ed'⟩ := kvs _ hm'
      obtain ⟨xs, rfl, hxs⟩ := homo_tup hd
      obtain ⟨ys, rfl, hys⟩ := homo_tup hd'
      show wpAny (model prog w) A (keyLt' _ p.1 q.1) (fun r s' => s' = _ ∧ r = HT.lexLt (kv s.heap p.1) (kv s.heap q.1)) (fun _ _ => False) _
      rw [ed, ed', enc_tup, enc_tup]
      generalize p.1 = v at rd ⊢
      generalize q.1 = u at rd' ⊢
      cases rd with
      | @tuple b o us m _ _ h1 h2 h3 h4 =>
        cases rd' with
        | @tuple b' o' us' m' _ _ k1 k2 k3 k4 =>
          refine kat_lt (s := { s with heap := h' }) h1 h3 k1 k3 ?_
          refine kat_data (n := n) (fun e => ?_) (by omega) _ _ _ _ _ _ 0 _ hxs hys h4 k4 (by simp) ⟨rfl, rfl⟩
          by_cases h : n = 0
          · exact h
          · rw [if_neg h] at e
            exact absurd e (by decide)
end
end Nb

set_option Elab.async false
set_option linter.all false
set_option maxRecDepth 100000
set_option maxHeartbeats 4000000
namespace Nb
open PySem PySem.Spec L2 PyProof.Rows PySem.W
theorem vals_mem {P : Value → V → Prop} : ∀ {xs : List V} {us : List Value}, Vals xs us → xs.length = us.length
  | _, _, r => r.length
theorem zip3_mem {K : PySem.W.Frag} {G : Hp} : ∀ {xs : List V} {us : List Value} {ds : List PyData}, Vals xs us → DqAll K G xs ds → ∀ t ∈ us.zip (xs.zip ds), RelV t.2.1 t.1 ∧ Dq K G t.2.1 t.2.2
  | [], _, _, .nil, _, t, h => by cases h
  | x :: xs, u :: us, _, .cons r rs, d, t, h => by
    cases d with
    | cons d1 d2 =>
      rcases List.mem_cons.mp h with e | h
      · rw [e]; exact ⟨r, d1⟩
      · exact zip3_mem rs d2 t h
theorem vals_map : ∀ {l : List (Value × V × PyData)}, (∀ t ∈ l, RelV t.2.1 t.1) → Vals (l.map (·.2.1)) (l.map (·.1))
  | [], _ => .nil
  | t :: l, h => .cons (h t List.mem_cons_self) (vals_map fun u hu => h u (List.mem_cons_of_mem _ hu))
theorem dq_map {K : PySem.W.Frag} {G : Hp} : ∀ {l : List (Value × V × PyData)}, (∀ t ∈ l, Dq K G t.2.1 t.2.2) → DqAll K G (l.map (·.2.1)) (l.map (·.2.2))
  | [], _ => .nil
  | t :: l, h => .cons (h t List.mem_cons_self) (dq_map fun u hu => h u (List.mem_cons_of_mem _ hu))
theorem plain_all : ∀ {n : Nat} {ds : List PyData}, ds.all (homo n) = true → plainAll ds = true
  | n, [], _ => rfl
  | n, d :: ds, h => by
    rw [List.all_cons, Bool.and_eq_true] at h
    simp only [plainAll, Bool.and_eq_true]
    exact ⟨plain_of_lay (lay_homo n d h.1), plain_all h.2⟩
section
variable {X : Cx} {pins : List (Addr × Obj)} {σ : L2.St} {H : Hp} {s : Shared}
/-- the list made of the items, sorted -/
theorem srt_core {A : Around} {n : Nat} {vals : List Value} {vs : List V} {ds : List PyData} {h1 : Heap} {tk : Nat} {Q : VK} {E : Value → Shared → Prop} (I : Inv X pins σ H s) (hs : srtOk n ds = true) (r : Vals vs vals) (d : DqAll X.K H vs ds) (hz : vs.length ≤ sizeLine) (hu : A.units + 12 < cLine)
    (k : ∀ b o, s.heap.get? b = some o → h1.get? b = some o) (kz : s.heap.objs.size ≤ h1.objs.size)
    (q : ∀ us p, (∀ G, DqAll X.K G vs ds → DqAll X.K G us (sortD ds)) → H p = none → Q (.ref p) (upd H p (.lst us))) :
    wpAny (model X.prog X.w) A (call (.builtin "list.sort") [.ref h1.objs.size]) (fun _ s' => EP X pins σ Q (.ref h1.objs.size) s') E { s with heap := h1.push (seqObj "list" vals.toArray 0), toks := tk } := by
  have hs' := hs
  unfold srtOk at hs'
  simp only [Bool.and_eq_true, decide_eq_true_eq] at hs'
  obtain ⟨as, ra⟩ := Dp.readsAll I ds vs vals (DqAll.dp d (plain_all hs'.1.1)) r
  have hoL : (h1.push (seqObj "list" vals.toArray 0)).get? h1.objs.size = some (seqObj "list" vals.toArray 0) := Heap.get?_push_size _ rfl
  have hk : ∀ b o, s.heap.get? b = some o → (h1.push (seqObj "list" vals.toArray 0)).get? b = some o := fun b o e => Heap.get?_push_of_some _ (k b o e)
  have ra2 : ReadsAll (h1.push (seqObj "list" vals.toArray 0)) vals ds as := ReadsAll.keeps hk ra
  have hl : vals.length = vs.length := r.length.symm
  let hh := h1.push (seqObj "list" vals.toArray 0)
  refine wpAny_call_entry slot_list_sort ⟨_, hoL, rfl⟩ entry_list_sort (SrtO.list_sort_ord (s := { s with heap := hh, toks := tk }) (NtL.swo_lexL (kv hh)) hoL (by omega)
    (fun h2 => srt_able (s := { s with heap := hh, toks := tk }) hs ra2 h2 (fun o e c => by
      have e' : some o = some (seqObj "list" vals.toArray 0) := e.symm.trans hoL
      cases e'
      exact absurd (Value.type.inj c) (by decide)) (by show A.units + 1 + 10 < cLine; omega)) fun out h3 h4 => ⟨_, rfl, ?_⟩) (args_list_sort _)
  -- which list it is
  have hT : ∀ t ∈ vals.zip (vs.zip ds), RelV t.2.1 t.1 ∧ Dq X.K H t.2.1 t.2.2 := zip3_mem r d
  have hkv : ∀ t ∈ vals.zip (vs.zip ds), kv hh t.1 = enc t.2.2 := fun t ht => by
    obtain ⟨r1, d1⟩ := hT t ht
    have hm : t.2.2 ∈ ds := (List.of_mem_zip (List.of_mem_zip ht).2).2
    have hd := List.all_eq_true.mp hs'.1.1 _ hm
    obtain ⟨bs, rd⟩ := Dp.reads I _ _ _ (Dq.dp d1 (plain_of_lay (lay_homo n _ hd))) r1
    exact kv_eq hd (Reads.keeps hk rd)
  have ld : vs.length = ds.length := DqAll.length d
  have z1 : (vals.zip (vs.zip ds)).map (·.1) = vals := List.map_fst_zip (by rw [List.length_zip]; omega)
  have z2 : (vals.zip (vs.zip ds)).map (·.2.2) = ds := by
    have e : (vals.zip (vs.zip ds)).map (·.2) = vs.zip ds := List.map_snd_zip (by rw [List.length_zip]; omega)
    have e2 : (vs.zip ds).map (·.2) = ds := List.map_snd_zip (by omega)
    calc (vals.zip (vs.zip ds)).map (·.2.2) = ((vals.zip (vs.zip ds)).map (·.2)).map (·.2) := by rw [List.map_map]; rfl
      _ = ds := by rw [e, e2]
  let lt : (Value × V × PyData) → (Value × V × PyData) → Bool := fun x y => HT.lexLt (kv hh x.1) (kv hh y.1)
  obtain ⟨s1, s2⟩ := isort_ok (NtL.swo_lexL (α := Value × V × PyData) fun x => kv hh x.1) (vals.zip (vs.zip ds))
  have eo : out = (isort lt (vals.zip (vs.zip ds))).map (·.1) := by
    have b1 := SrtO.Stb.map (NtL.swo_lexL (kv hh)) (fun t : Value × V × PyData => t.1) s2
    rw [z1] at b1
    exact SrtO.stb_uniq (NtL.swo_lexL (kv hh)) h3 (SrtO.srtd_map (f := fun t : Value × V × PyData => t.1) s1) (h4.trans ⟨b1.perm.symm, fun x => (b1.cls x).symm⟩)
  have mem : ∀ t ∈ isort lt (vals.zip (vs.zip ds)), t ∈ vals.zip (vs.zip ds) := fun t ht => (isort_mem lt t _).mp ht
  have ed : (isort lt (vals.zip (vs.zip ds))).map (·.2.2) = sortD ds := by
    unfold sortD
    rw [← z2]
    rw [z2]
    have q := isort_map (lt := ltD) (lt' := lt) (fun t : Value × V × PyData => t.2.2) (vals.zip (vs.zip ds)) fun x hx y hy => by
      show HT.lexLt (enc y.2.2) (enc x.2.2) = HT.lexLt (kv hh y.1) (kv hh x.1)
      rw [hkv x hx, hkv y hy]
    rw [z2] at q
    exact q.symm
  have vout : Vals ((isort lt (vals.zip (vs.zip ds))).map (·.2.1)) out := by
    rw [eo]
    exact vals_map fun t ht => (hT t (mem t ht)).1
  obtain ⟨ep, he⟩ := sortedHeap_at (vs := vals) (out := out.toArray) hoL
  have hlen : ((isort lt (vals.zip (vs.zip ds))).map (·.2.1)).length ≤ sizeLine := by
    rw [List.length_map, isort_len, List.length_zip, List.length_zip]
    omega
  refine ⟨.ref h1.objs.size, upd H h1.objs.size (.lst ((isort lt (vals.zip (vs.zip ds))).map (·.2.1))), I.laid (t' := tk) (a := h1.objs.size) (h' := sortedHeap hh h1.objs.size vals out.toArray) (fun b u e => ?_) kz ⟨hlen, out, ep, vout, he⟩, rfl, q _ _ (fun G dG => ?_) (I.hok.fresh kz)⟩
  · have hlt : b < h1.objs.size := Heap.lt_size (k b u e)
    rw [sortedHeap_old (Nat.ne_of_lt hlt) (by show b < (h1.push _).objs.size; rw [Heap.size_push]; exact Nat.lt_succ_of_lt hlt)]
    exact hk b u e
  · rw [← ed]
    exact dq_map fun t ht => (zip3_mem r dG t (mem t ht)).2
/-- sorted of a list, a tuple -/
def rSrt (K : PySem.W.Frag) : List V → Hp → VK → Prop := fun args H Q => ∃ a vs ds n, args = [.ref a] ∧ (SqL K H a vs ∨ SqT K H a vs) ∧ DqAll K H vs ds ∧ srtOk n ds = true ∧ ∀ us p, (∀ G, DqAll K G vs ds → DqAll K G us (sortD ds)) → H p = none → Q (.ref p) (upd H p (.lst us))
theorem collect_tup {prog : Program} {w : World} {A : Around} {E : Value → Shared → Prop} {s : Shared} {l : Addr} {vs : List Value} {Q : List Value → Shared → Prop} (hl : s.heap.IsTuple l vs.toArray)
    (h : Q vs { s with heap := (s.heap.push (seqObj "list" #[] 0)).update s.heap.objs.size (Obj.mapSeq (· ++ vs.toArray)) }) (hsz : vs.length ≤ sizeLine) :
    wpAny (model prog w) A (collect (.ref l)) Q E s := by
  obtain ⟨o, ho, hc, n, hd⟩ := id hl
  unfold collect
  refine wpAny_bind (wpAny_runValue (codeAny_builtin entry_proto_collect' ?_))
  show wpAny _ _ (do again (.builtin "list.__iadd__" ⟨[← newList [], .ref l], []⟩)) _ _ s
  refine wpAny_bind (wpAny_newList (wpAny_pure ⟨Code.quiet_builtin _ (by decide +kernel), codeAny_builtin entry_list_iadd' ?_⟩))
  show wpAny _ _ (Builtin.List.listExtendWith (.ref s.heap.objs.size) (.ref l) (.ref s.heap.objs.size)) _ _ { s with heap := s.heap.push (seqObj "list" #[] 0) }
  unfold Builtin.List.listExtendWith
  have ho' : (s.heap.push (seqObj "list" #[] 0)).get? l = some o := Heap.get?_push_of_some _ ho
  refine wpAny_bind (wpAny_typeOf (T := "tuple") ⟨o, ho', hc⟩ ?_)
  have ht : (Value.type "tuple" == Value.type "tuple") = true := by rfl
  rw [if_pos (by rw [ht]; simp)]
  refine wpAny_bind (listItems_at ho' hd ?_)
  refine wpAny_bind (listItems_at (xs := #[]) (n := 0) (Heap.get?_push_size _ rfl) rfl ?_)
  rw [if_neg (by simp)]
  refine wpAny_bind (listUpdate_at (xs := #[]) (n := 0) (Heap.get?_push_size _ rfl) rfl ?_ (Nat.zero_le _) (by show (#[] ++ vs.toArray).size ≤ sizeLine + 1; simp only [Array.size_append, List.size_toArray, List.length_nil]; omega))
  refine wpAny_pure ?_
  show wpAny (model prog w) A (do
      let o ← load s.heap.objs.size
      match o.data with
      | .seq xs _ => pure xs.toList
      | _ => unsupported "internal:collect") Q E { s with heap := (s.heap.push (seqObj "list" #[] 0)).update s.heap.objs.size (Obj.mapSeq (· ++ vs.toArray)) }
  refine wpAny_bind (wpAny_load (get?_update_seq (Heap.get?_push_size _ rfl) _) ?_)
  show wpAny _ _ (pure ((#[] : Array Value) ++ vs.toArray).toList) Q E _
  rw [show ((#[] : Array Value) ++ vs.toArray).toList = vs by simp]
  exact wpAny_pure h
theorem cr_srt (hu : X.A.units + 65 < cLine) : CallR X (.builtin "sorted") (rSrt X.K) := by
  intro pins s σ H xs us Q I r h
  obtain ⟨a, vs, ds, n, rfl, hq, d, hs, q⟩ := h
  obtain ⟨u, rfl, rx⟩ := Vals.one r
  cases rx
  refine Calls.call_function_entry kind_sorted plain_sorted entry_sorted (args_sorted1 _) ?_
  unfold Builtin.«sorted»
  refine wpAny_bind (m := checkCount "sorted" 1 1 _) (wpAny_pure ?_)
  have fin : ∀ (vals : List Value), Vals vs vals → vs.length ≤ sizeLine → wpAny (model X.prog X.w) X.A.in1 (do
      let l ← newList vals
      let _ ← holding [l] (call (.builtin "list.sort") [l])
      PySem.ret l) (fun fin s' => ∃ v, fin = PySem.Fin.done (.ret v) ∧ EP X pins σ Q v s') X.xe { s with heap := (s.heap.push (seqObj "list" #[] 0)).update s.heap.objs.size (Obj.mapSeq (· ++ vals.toArray)) } := fun vals rv hz => by
    have hl := rv.length
    have hsz : ((s.heap.push (seqObj "list" #[] 0)).update s.heap.objs.size (Obj.mapSeq (· ++ vals.toArray))).objs.size = s.heap.objs.size + 1 := by rw [Heap.size_update, size_push']
    refine wpAny_bind (wpAny_newList ?_ (by omega))
    refine wpAny_bind (wpAny_holding (wpAny_mono (srt_core (s := s) (A := X.A.in1) (h1 := (s.heap.push (seqObj "list" #[] 0)).update s.heap.objs.size (Obj.mapSeq (· ++ vals.toArray))) (tk := s.toks) I hs rv d hz (by show X.A.units + 1 + 12 < cLine; omega) (fun b o e => ?_) (by rw [hsz]; exact Nat.le_succ _) q) (fun _ s' x => wpAny_pure ⟨_, rfl, x⟩) fun _ _ e => e))
    have hlt : b < s.heap.objs.size := Heap.lt_size e
    rw [Heap.get?_update_ne _ _ _ _ (Nat.ne_of_lt hlt)]
    exact Heap.get?_push_of_some _ e
  rcases hq with hq | hq
  · obtain ⟨its, rv, pl, hz⟩ := I.list hq
    exact wpAny_bind (collect_list pl.isList (fin its rv hz) (by have := rv.length; omega))
  · obtain ⟨its, rv, pl, hz⟩ := I.tuple hq
    exact wpAny_bind (collect_tup (show s.heap.IsTuple a its.toArray from pl) (fin its rv hz) (by have := rv.length; omega))
end
end Nb

set_option Elab.async false
set_option linter.all false
set_option maxRecDepth 100000
set_option maxHeartbeats 4000000
namespace Nb
open PySem PySem.Spec L2 PyProof.Rows PySem.W
theorem vals_of_get : ∀ {xs : List V} {us : List Value}, xs.length = us.length → (∀ (j : Nat) (x : V) (u : Value), xs[j]? = some x → us[j]? = some u → RelV x u) → Vals xs us
  | [], [], _, _ => .nil
  | [], _ :: _, h, _ => by cases h
  | _ :: _, [], h, _ => by cases h
  | x :: xs, u :: us, h, r => .cons (r 0 x u rfl rfl) (vals_of_get (by simpa using h) fun j y v h1 h2 => r (j + 1) y v h1 h2)
theorem rel_of_is {P : Program} {w : World} {k : Key} {u : Value} (h : (mixKind P w).is k u = true) : RelV (kV k) u := by
  have h : keyIs k u = true := h
  rcases keyIs_shape h with ⟨i, t, rfl, rfl⟩ | ⟨x, t, rfl, rfl⟩
  · exact ⟨t, rfl⟩
  · exact ⟨t, rfl⟩
/-- the keys as values -/
inductive KeyAt (H : Hp) : V → PyData → Prop
  | f (k : Key) : KeyAt H (kV k) (keyD k)
  | t {b : Addr} (ks : List Key) : H b = some (.tup (ks.map kV)) → KeyAt H (.ref b) (.tuple (ks.map keyD))
theorem dq_keyV {K : PySem.W.Frag} {G : Hp} : ∀ k : Key, Dq K G (kV k) (keyD k)
  | .inl i => .int i
  | .inr x => .str x
theorem dq_keysV {K : PySem.W.Frag} {G : Hp} : ∀ ks : List Key, DqAll K G (ks.map kV) (ks.map keyD)
  | [] => .nil
  | k :: ks => .cons (dq_keyV k) (dq_keysV ks)
theorem KeyAt.dq {K : PySem.W.Frag} {H G : Hp} {v : V} {d : PyData} (h : KeyAt H v d) (hg : ∀ b, v = .ref b → G b = H b) : Dq K G v d := by
  cases h with
  | f k => exact dq_keyV k
  | @t b ks e => exact .tup (by rw [hg b rfl]; exact e) (dq_keysV ks)
inductive KeysAt (H : Hp) : List V → List PyData → Prop
  | nil : KeysAt H [] []
  | cons {v : V} {d : PyData} {vs : List V} {ds : List PyData} : KeyAt H v d → KeysAt H vs ds → KeysAt H (v :: vs) (d :: ds)
theorem KeysAt.dq {K : PySem.W.Frag} {H G : Hp} : ∀ {vs : List V} {ds : List PyData}, KeysAt H vs ds → (∀ b, V.ref b ∈ vs → G b = H b) → DqAll K G vs ds
  | _, _, .nil, _ => .nil
  | _, _, .cons h t, hg => .cons (h.dq fun b e => hg b (e ▸ List.mem_cons_self)) (KeysAt.dq t fun b hb => hg b (List.mem_cons_of_mem _ hb))
theorem KeysAt.tup {H : Hp} : ∀ {vs : List V} {ds : List PyData}, KeysAt H vs ds → ∀ b, V.ref b ∈ vs → ∃ xs, H b = some (.tup xs)
  | _, _, .cons h t, b, hb => by
    rcases List.mem_cons.mp hb with e | hb
    · cases h with
      | f k => cases k <;> cases e
      | t ks e' => cases e; exact ⟨_, e'⟩
    · exact KeysAt.tup t b hb
def rSrtD (K : PySem.W.Frag) : List V → Hp → VK → Prop := fun args H Q => ∃ a t ks n, args = [.ref a] ∧ DicAt t H a ks ∧ srtOk n ks = true ∧ ∀ vs us p, KeysAt H vs ks → (∀ G, DqAll K G vs ks → DqAll K G us (sortD ks)) → H p = none → Q (.ref p) (upd H p (.lst us))
/-! the items of a dict collected (as KE.KDictSum has it; told too: the heap has grown) -/
section
variable {prog : Program} {w : World} {A : Around} {E : Value → Shared → Prop} {s : Shared} {T : String} {r d : Addr} {n : Nat} {P : Nat → Value → Prop} {OK : Heap → Prop}
theorem collect_kdl {R : List Value → Shared → Prop} (K : KdlSrc prog w T r d n P OK) (hh : A.handled = none) (hok : OK s.heap) (hn : n ≤ sizeLine)
    (h : ∀ (h' : Heap) (tk : Nat) (acc : Array Value), (∀ b o, s.heap.get? b = some o → h'.get? b = some o) → s.heap.objs.size < h'.objs.size → ItemsOf P acc n → R acc.toList { s with heap := h', toks := tk }) :
    wpAny (model prog w) A (collect (.ref r)) R E s := by
  have hlt := K.there _ hok
  unfold collect
  refine wpAny_bind (wpAny_runValue (codeAny_builtin entry_proto_collect' ?_))
  rw [Around.under_plainId PySem.F.plain_proto_collect _]
  show wpAny _ A.in1 (newList [] >>= fun l => again (.builtin "list.__iadd__" ⟨[l, .ref r], []⟩)) _ _ s
  refine wpAny_bind (wpAny_newObj_type ?_)
  refine wpAny_pure ⟨plainId_quiet PySem.F.plain_list_iadd _, codeAny_builtin entry_list_iadd' ?_⟩
  rw [Around.under_plainId PySem.F.plain_list_iadd _]
  have hS₁ : (s.heap.push { cls := .type "list", data := .seq ([] : List Value).toArray }).get? s.heap.objs.size = some { cls := .type "list", data := .seq #[] } := Heap.get?_push_size _ rfl
  show wpAny _ A.in1 (Builtin.List.listExtendWith (.ref s.heap.objs.size) (.ref r) (.ref s.heap.objs.size)) _ _ _
  have key := kdl_extend (A := A) (s := { s with heap := s.heap.push { cls := .type "list", data := .seq ([] : List Value).toArray } })
    (R := fun (q : Result) (s' : Shared) => ∃ (h' : Heap) (tk : Nat) (acc' : Array Value) (c' : Nat), q = .ok (.ret (.ref s.heap.objs.size)) ∧ s' = { s with heap := h', toks := tk } ∧
      (∀ b o, s.heap.get? b = some o → h'.get? b = some o) ∧ h'.get? s.heap.objs.size = some { cls := .type "list", dict := none, data := .seq acc' c', slots := #[] } ∧ ItemsOf P acc' n)
    K hh (K.keep _ _ hok fun b _ o e => Heap.get?_push_of_some _ e) s.heap.objs.size (Nat.ne_of_gt hlt.1) (Nat.ne_of_gt hlt.2) (.ref s.heap.objs.size) 0 hS₁
    (fun h' tk acc' c' hk hS' hacc => ⟨h', tk, acc', c', rfl, rfl, fun b o e => hk b o (Nat.ne_of_lt (Heap.lt_size e)) (Heap.get?_push_of_some _ e), hS', hacc⟩) hn
  refine wpAny_mono key (fun fin s' x => ?_) fun e s' x => ?_
  · cases fin with
    | done f =>
      obtain ⟨h', tk, acc', c', e, rfl, hk, hS', hacc⟩ := x
      cases e
      show wpAny _ A (load s.heap.objs.size >>= _) _ _ _
      refine wpAny_bind (wpAny_load hS' ?_)
      exact wpAny_pure (h h' tk acc' hk (Heap.lt_size hS') hacc)
    | again c₁ =>
      refine ⟨x.1, codeAny_mono x.2 fun q s₂ y => ?_⟩
      obtain ⟨h', tk, acc', c', rfl, rfl, hk, hS', hacc⟩ := y
      show wpAny _ A (load s.heap.objs.size >>= _) _ _ _
      refine wpAny_bind (wpAny_load hS' ?_)
      exact wpAny_pure (h h' tk acc' hk (Heap.lt_size hS') hacc)
  · obtain ⟨_, _, _, _, e', _⟩ := x
    cases e'
end
section
variable {X : Cx} {pins : List (Addr × Obj)} {σ : L2.St} {H : Hp} {s : Shared}
theorem kt_vals {P : Program} {w : World} : ∀ {kk : List (List Key)} {xs : List (List Key × Addr × Value)}, KT H (tr1 kk) xs → ∃ vs, KeysAt H vs (kk.map fun l => .tuple (l.map keyD)) ∧ Vals vs (xs.map fun x => Value.ref x.2.1)
  | [], _, .nil => ⟨[], .nil, .nil⟩
  | k :: kk, _, r => by
    have r : KT H ((k, V.bl true) :: tr1 kk) _ := r
    cases r with
    | @cons p q ps qs h t =>
      obtain ⟨vs, h1, h2⟩ := kt_vals (P := P) (w := w) t
      obtain ⟨e1, e2, _⟩ := h
      refine ⟨.ref q.2.1 :: vs, .cons (.t k e2) h1, .cons rfl h2⟩
/-- the dict's entries, its keys as values -/
theorem dic_raw {t : Bool} {a : Addr} {ks : List PyData} (I : Inv X pins σ H s) (h : DicAt t H a ks) : (a == sysModules) = false ∧ ks.length ≤ sizeLine ∧ ∃ es ep vs, s.heap.DictRaw a es ep ∧ es.size = ks.length ∧ KeysAt H vs ks ∧ Vals vs (es.toList.map (·.key)) := by
  unfold DicAt at h
  cases t with
  | true =>
    obtain ⟨kk, h1, rfl⟩ := h
    obtain ⟨z, hd, xs, rel, o, es, ep, e1, e2, e3, e4, _, _⟩ := dt_rd I.hok (.inl h1)
    have rel : KT H (tr1 kk) xs := rel
    obtain ⟨vs, k1, k2⟩ := kt_vals (P := X.prog) (w := X.w) rel
    have ek : es.toList.map (·.key) = xs.map fun x => Value.ref x.2.1 := by
      rw [e4, List.map_map]; rfl
    have hl : es.size = kk.length := by
      have := Paired.length rel
      have l2 := congrArg List.length e4
      simp [tr1] at this l2
      omega
    exact ⟨hd, by simpa using z, es, ep, vs, ⟨o, e1, e2, e3⟩, by simpa using hl, k1, by rw [ek]; exact k2⟩
  | false =>
    obtain ⟨kk, h1, rfl⟩ := h
    obtain ⟨z, hd, kvs, rel, dd⟩ := dk_rd I.hok (.inl h1)
    have rel : KV (tr1 kk) kvs := rel
    obtain ⟨es, ep, raw, hz, hx⟩ := Heap.DictOf.raw dd
    have hl : kvs.length = kk.length := by rw [← rel.length]; simp [tr1]
    have keysAt : ∀ kk : List Key, KeysAt H (kk.map kV) (kk.map keyD) := fun kk => by
      induction kk with
      | nil => exact .nil
      | cons k kk ih => exact .cons (.f k) ih
    refine ⟨hd, by simpa using z, es, ep, kk.map kV, raw, by simpa using hz.trans hl, keysAt kk, vals_of_get (by simp; omega) fun j x u e1 e2 => ?_⟩
    rw [List.getElem?_map] at e1 e2
    cases q : kk[j]? with
    | none => rw [q] at e1; cases e1
    | some k =>
      rw [q] at e1
      cases e1
      have hj : j < es.size := by
        have := (List.getElem?_eq_some_iff.mp q).1
        omega
      rw [Array.getElem?_toList, Array.getElem?_eq_getElem hj] at e2
      cases e2
      -- the j-th pair's key
      have kvk : ∀ {kk : List Key} {kvs : List (Key × Value)} {j : Nat} {k : Key}, KV (tr1 kk) kvs → kk[j]? = some k → ∃ v, kvs[j]? = some (k, v) := by
        intro kk
        induction kk with
        | nil => intro kvs j k _ e; cases e
        | cons k' kk ih =>
          intro kvs j k r e
          have r : KV ((k', V.bl true) :: tr1 kk) kvs := r
          cases r with
          | @cons p q ps qs h t =>
            cases j with
            | zero =>
              cases e
              obtain ⟨q1, q2⟩ := q
              cases h.1
              exact ⟨q2, rfl⟩
            | succ j =>
              obtain ⟨v, ev⟩ := ih (kvs := qs) (j := j) t (by simpa using e)
              exact ⟨v, by simpa using ev⟩
      obtain ⟨v, ev⟩ := kvk rel q
      exact rel_of_is (hx j hj k v ev).1
theorem cr_srtD (hc : X.calm = true) (hu : X.A.units + 65 < cLine) : CallR X (.builtin "sorted") (rSrtD X.K) := by
  intro pins s σ H xs us Q I r h
  obtain ⟨a, t, ks, n, rfl, hd, hs, q⟩ := h
  obtain ⟨u, rfl, rx⟩ := Vals.one r
  cases rx
  obtain ⟨lo, hz, es, ep, vs, raw, hsz, ka, rv⟩ := dic_raw I hd
  refine Calls.call_function_entry kind_sorted plain_sorted entry_sorted (args_sorted1 _) ?_
  unfold Builtin.«sorted»
  refine wpAny_bind (m := checkCount "sorted" 1 1 _) (wpAny_pure ?_)
  refine wpAny_bind (collect_kdl (A := X.A.in1) (KdlSrc.rawDict lo) (show X.A.in1.handled = none from I.ok.hd hc) raw (by omega) fun h' tk acc hk hgrow hacc => ?_)
  have ea : acc.toList = es.toList.map (·.key) := by
    apply List.ext_getElem?
    intro i
    by_cases hi : i < es.size
    · have ha : i < acc.size := by rw [hacc.1]; exact hi
      obtain ⟨_, e2⟩ := hacc.2 i acc[i] (Array.getElem?_eq_getElem ha)
      rw [Array.getElem?_toList, Array.getElem?_eq_getElem ha, List.getElem?_map, Array.getElem?_toList, Array.getElem?_eq_getElem hi, e2]
      rfl
    · rw [List.getElem?_eq_none (by rw [Array.length_toList, hacc.1]; omega), List.getElem?_eq_none (by rw [List.length_map, Array.length_toList]; omega)]
  rw [ea]
  have hl := rv.length
  have ht : s.heap.objs.size ≤ h'.objs.size := Nat.le_of_lt hgrow
  refine wpAny_bind (wpAny_newList ?_ (by rw [List.length_map, Array.length_toList]; omega))
  refine wpAny_bind (wpAny_holding (wpAny_mono (srt_core (s := s) (A := X.A.in1) (h1 := h') (tk := tk) I hs rv (ka.dq fun b _ => rfl) (by rw [hl, List.length_map, Array.length_toList]; omega) (by show X.A.units + 1 + 12 < cLine; omega) hk ht fun us p h1 h2 => q vs us p ka h1 h2) (fun _ s' x => wpAny_pure ⟨_, rfl, x⟩) fun _ _ e => e))
end
end Nb

set_option Elab.async false
set_option linter.all false
set_option maxRecDepth 100000
set_option maxHeartbeats 4000000
namespace Nb
open PySem PySem.Spec L2
section
variable {X : Cx} {W : Wd} {E : XK} {k : Nat}
open Classical in
/-- tuples that stand already stay from now on -/
theorem Tr.join {G H : Hp} {ρ : List SV} {σ : L2.St} (l : Lk W G H ρ σ) (S : Addr → Prop) (hS : ∀ b, S b → ∃ xs, H b = some (.tup xs)) : ∃ G', Tr W ρ σ G H ρ σ G' H ∧ ∀ b, S b → G' b = H b := by
  have own : ∀ p, OwnS ρ σ p → ¬ S p := fun p hp hs => by
    obtain ⟨⟨o, ho, _, nu⟩, _⟩ := OwnS.some l hp
    obtain ⟨xs, e⟩ := hS p hs
    rw [ho] at e
    cases e
    exact nu xs rfl
  let G' : Hp := fun b => if S b then H b else G b
  have gs : Sub G G' := fun b o e => by
    show (if S b then H b else G b) = some o
    by_cases h : S b
    · rw [if_pos h]; exact l.sub b o e
    · rw [if_neg h]; exact e
  have gh : Sub G' H := fun b o e => by
    have e : (if S b then H b else G b) = some o := e
    by_cases h : S b
    · rw [if_pos h] at e; exact e
    · rw [if_neg h] at e; exact l.sub b o e
  refine ⟨G', ⟨⟨gh, fun b ps e => ?_, l.len, fun i w ov e1 e2 => ?_, l.sep, l.tabs⟩, ⟨fun b o e _ _ => e, fun b ps e => ⟨ps, e⟩, gs, fun b o e => ?_⟩, fun b h => .inr h, fun i xs e => ⟨xs, e, rfl⟩⟩, fun b h => if_pos h⟩
  · have e : (if S b then H b else G b) = some (.tbl ps) := e
    by_cases h : S b
    · rw [if_pos h] at e
      obtain ⟨xs, q⟩ := hS b h
      rw [q] at e
      cases e
    · rw [if_neg h] at e; exact l.gt b ps e
  · refine (l.slot i w ov e1 e2).mono gs (fun _ _ _ _ z _ => z) fun p hw eq z => ?_
    have hp : OwnS ρ σ p := ⟨i, w, e1, hw, by rw [e2, eq]⟩
    show (if S p then H p else G p) = none
    rw [if_neg (own p hp)]
    exact z
  · have e : (if S b then H b else G b) = some o := e
    by_cases h : S b
    · rw [if_pos h] at e
      obtain ⟨xs, q⟩ := hS b h
      rw [q] at e
      cases e
      exact .inr (.inr (.inr ⟨q, xs, rfl⟩))
    · rw [if_neg h] at e; exact .inl e
def srtN (ds : List PyData) : Bool := srtOk 0 ds || srtOk 1 ds || srtOk 2 ds
theorem srtN_ok {ds : List PyData} (h : srtN ds = true) : ∃ n, srtOk n ds = true := by
  unfold srtN at h
  rw [Bool.or_eq_true, Bool.or_eq_true] at h
  rcases h with (h | h) | h
  · exact ⟨0, h⟩
  · exact ⟨1, h⟩
  · exact ⟨2, h⟩
def srtM : Op1
  | .list ds => gM (srtN ds = true) (ret (.ls (sortD ds)))
  | .tuple ds => gM (srtN ds = true) (ret (.ls (sortD ds)))
  | .dict [(.none, .tuple ds)] => gM (srtN ds = true) (ret (.ls (sortD ds)))
  | _ => failM
theorem srt_scr (ns : List Int) : srtM (.dict (ns.map fun n => (PyData.int n, PyData.none))) = failM := by
  cases ns with
  | nil => rfl
  | cons n r => cases r <;> rfl
theorem law_srt (hK : X.K = W.K) : Law1 W E (rSrt X.K) srtM := by
  intro x ρ σ G H Q v l px h
  rw [hK]
  cases x <;> first | exact h.elim | skip
  · obtain ⟨p, vs, rfl, hp, d⟩ := Pk.list l.sub px
    obtain ⟨hs, h⟩ := gM_ok h
    obtain ⟨n, hn⟩ := srtN_ok hs
    exact ⟨p, vs, _, n, rfl, .inl (SqL.of hp), DqAll.mono l.sub d, hn, fun us q hd hq => Go.lst l h hq (hd G d)⟩
  · obtain ⟨p, vs, rfl, hp, d⟩ := Pk.tup px
    obtain ⟨hs, h⟩ := gM_ok h
    obtain ⟨n, hn⟩ := srtN_ok hs
    exact ⟨p, vs, _, n, rfl, .inr (SqT.of (l.sub _ _ hp)), DqAll.mono l.sub d, hn, fun us q hd hq => Go.lst l h hq (hd G d)⟩
  · rcases px with px | ⟨_, _, _, _, q, _⟩
    · cases px with
      | @scr p ns _ hs ek =>
        subst ek
        rw [srt_scr] at h
        exact h.elim
      | @ktp p vs ds hs d =>
        obtain ⟨hs2, h⟩ := gM_ok h
        obtain ⟨n, hn⟩ := srtN_ok hs2
        exact ⟨p, vs, _, n, rfl, .inr (SqT.mono l.sub hs), DqAll.mono l.sub d, hn, fun us q hd hq => Go.lst l h hq (hd G d)⟩
    · cases q
theorem b_srt (c : Kx X W E k) : Bi1 X W E "sorted" srtM := ⟨_, _, cr_srt c.hu, law_srt c.K, by decide +kernel, .inl ⟨_, rfl⟩, by decide, by decide⟩
/-- sorted(name): a list, a tuple, a dict -/
def srtS : SV → M SV
  | .d y => srtM y
  | .ls ys => srtM (.list ys)
  | .br ys => srtM (.list ys)
  | .dc t ks => gM (srtN ks = true) (ret (.ls (sortD ks)))
  | .fd t ks => gM (srtN ks = true) (ret (.ls (sortD ks)))
  | _ => failM
theorem law_srtD {t : Bool} {ks : List PyData} {p : Addr} {ρ : List SV} {σ : L2.St} {G H : Hp} {Q : VK} (hK : X.K = W.K) (l : Lk W G H ρ σ) (hd : DicAt t H p ks) (h : Go W E (gM (srtN ks = true) (ret (.ls (sortD ks))) ρ) ρ σ G H Q) : rSrtD X.K [.ref p] H Q := by
  rw [hK]
  obtain ⟨hs, h⟩ := gM_ok h
  obtain ⟨n, hn⟩ := srtN_ok hs
  refine ⟨p, t, ks, n, rfl, hd, hn, fun vs us q ka hd hq => ?_⟩
  obtain ⟨G', tr, hg⟩ := Tr.join l (fun b => V.ref b ∈ vs) fun b hb => ka.tup b hb
  exact Go.lst tr.lk (Go.shift h tr) hq (hd G' (ka.dq fun b hb => hg b hb))
theorem q_srtN (c : Kx X W E k) (i : Nat) {y : Str} {p py pos : Pos} (hg : Gl X "sorted") (hm : X.mg "sorted" = none) (hN : X.N[i]? = some y) (hv : Vis X.env.scope y) (hd : (y == ("__debug__" : Str)) = false := by decide) (hcd : (y == ("__classdict__" : Str)) = false := by decide) : PE X (.Call (.Name "sorted" p) [.Name y py] [] pos) (tV W E (slotM i srtS)) := by
  refine Nb.PE.imp (pe_callB (CallR.or (cr_srt c.hu) (cr_srtD c.calm c.hu)) hg hm (by decide +kernel) (pa_cons (pe_var hN hv hd hcd) pa_nil rfl) (by decide) (by decide) rfl) fun σ H Q ⟨G, ρ, l, h⟩ => ?_
  obtain ⟨w, ov, ew, es, s, h⟩ := slot_go l h
  cases w with
  | d y => obtain ⟨u, rfl, dy⟩ := s; exact ⟨u, es, .inl (law_srt c.K y ρ σ G H Q u l (.inl dy) h)⟩
  | ls ys => obtain ⟨p, vs, rfl, h1, h2, dy⟩ := s; exact ⟨.ref p, es, .inl (law_srt c.K (.list ys) ρ σ G H Q _ l (.inr ⟨p, vs, ys, rfl, rfl, h1, dy⟩) h)⟩
  | br ys => obtain ⟨p, vs, rfl, h1, h2, dy⟩ := s; exact ⟨.ref p, es, .inl (law_srt c.K (.list ys) ρ σ G H Q _ l (.inr ⟨p, vs, ys, rfl, rfl, h1, dy⟩) h)⟩
  | dc t ks => obtain ⟨p, rfl, h1, h2⟩ := s; exact ⟨.ref p, es, .inr (law_srtD c.K l h1 h)⟩
  | fd t ks => obtain ⟨p, rfl, h1⟩ := s; exact ⟨.ref p, es, .inr (law_srtD c.K l (h1.at fun o e => l.sub p o e) h)⟩
  | un => exact h.elim
  | fn F => exact h.elim
end
end Nb

set_option Elab.async false
set_option linter.all false
set_option maxRecDepth 100000
set_option maxHeartbeats 4000000
namespace Nb
open PySem PySem.Spec L2 PyProof.Rows
/-! ### generator expressions: the frame's context -/
abbrev gctx (X : Cx) (s : Shared) (H : Hp) (cenv : Env) (fp : List Addr) : Cx :=
  { X with s_0 := s, H_0 := H, env := cenv, outer := X.stack, stack := cenv :: X.stack, A := X.A.in1.in1.deeper cenv, ex := fp, fn := fun _ => false, pn := [], xe := fun _ _ => False }
structure GnOk (N : List Str) (sc scope : Scope) (own : List (Str × Nat)) : Prop extends BlkOk N sc scope own where
  co : scope.isCoroutine = false
  cell : ∀ y ∈ scope.names, y.2 ≠ .cell
  dot : scope.names.lookup (".0" : Str) = some NameKind.local
  ndot : (".0" : Str) ∉ N
def gnC (N : List Str) (sc scope : Scope) (own : List (Str × Nat)) : Bool :=
  blkC N sc scope own && !scope.isCoroutine && (scope.names.all fun y => match y.2 with | .cell => false | _ => true) && decide (scope.names.lookup (".0" : Str) = some NameKind.local) && decide ((".0" : Str) ∉ N)
theorem gnOk_by {N : List Str} {sc scope : Scope} {own : List (Str × Nat)} (h : gnC N sc scope own = true) : GnOk N sc scope own := by
  unfold gnC at h
  simp only [Bool.and_eq_true, List.all_eq_true, decide_eq_true_eq, Bool.not_eq_true'] at h
  obtain ⟨⟨⟨⟨h1, h2⟩, h3⟩, h4⟩, h5⟩ := h
  refine ⟨blkOk_by h1, h2, fun y hy e => ?_, h4, h5⟩
  have q := h3 y hy
  rw [e] at q
  cases q
theorem over_gen {A : Around} {elt : Expr} {gens : List Comprehension} {scope : Scope} {pos : Pos} {it acc : Value} {env : Env} : A.over (.compLoop (.GeneratorExp elt gens scope pos) 0 it acc env) [] = A.deeper env := by
  first
    | rfl
    | (obtain ⟨hd, d, fr, gs, u⟩ := A; simp [Around.over, Around.deeper, marksOver, frameCount, unitsOf, envsOf, guardsOf, pushEnvs, pushGuards, Code.envs, Code.env?, Code.isFrame, Code.guards, Code.isGuard, Code.weight, Code.frames, Code.isCreation, Code.isCaller, Code.cUnits])
theorem over_gen0 {A : Around} {elt : Expr} {gens : List Comprehension} {scope : Scope} {pos : Pos} {it acc : Value} {env : Env} : A.over (.compStart (.GeneratorExp elt gens scope pos) 0 it acc env) [] = A.deeper env := by
  first
    | rfl
    | (obtain ⟨hd, d, fr, gs, u⟩ := A; simp [Around.over, Around.deeper, marksOver, frameCount, unitsOf, envsOf, guardsOf, pushEnvs, pushGuards, Code.envs, Code.env?, Code.isFrame, Code.guards, Code.isGuard, Code.weight, Code.frames, Code.isCreation, Code.isCaller, Code.cUnits])
section
variable {X : Cx} {pins : List (Addr × Obj)} {σ : L2.St} {H : Hp} {s : Shared}
theorem gen_start {scope : Scope} {own : List (Str × Nat)} {fp : List Addr} {code : Value} {a : Addr} {gobj : Obj} {h5 : Heap} {g' : Array GenState} {tk : Nat} {m : Str → Option Value} (I : Inv X pins σ H s) (ok : GnOk X.N X.env.scope scope own) (hN : X.N.Nodup) (hfp : ∀ b ∈ fp, FpOk X pins H b ∧ b < s.heap.objs.size)
    (kp : ∀ b o, s.heap.get? b = some o → h5.get? b = some o) (hn : h5.Ns s.heap.objs.size m) (ha : h5.get? a = some gobj) (hal : s.heap.objs.size < a) (hgo : ∀ v, gobj.data ≠ .cell v) (hgb : AllBare g') (hc : X.calm = true → X.A.handled = none) :
    Inv (gctx X s H (genEnv scope (cloFrom X.env.cells scope.names []) s.heap.objs.size code builtinsNs X.env) fp) [(a, gobj)] (wipe σ (own.map (·.2))) H { s with heap := h5, gens := g', toks := tk } := by
  have hfree : ∀ y ∈ scope.names, y.2 = .free → ∃ c, X.env.cells.lookup y.1 = some c := fun y hy e => by
    rcases ok.free y hy e with k | k
    · exact I.ok.has _ (.inl k)
    · exact I.ok.has _ (.inr k)
  generalize hcenv : genEnv scope (cloFrom X.env.cells scope.names []) s.heap.objs.size code builtinsNs X.env = cenv
  have hL : cenv.locals = s.heap.objs.size := by rw [← hcenv]; rfl
  have hcl : cenv.cells = cloFrom X.env.cells scope.names [] := by rw [← hcenv]; rfl
  have hsc : cenv.scope = scope := by rw [← hcenv]; rfl
  have hfr0 : cenv.frame = some cenv.locals := by rw [← hcenv]; rfl
  have cm : ∀ {y c}, (y, c) ∈ cloFrom X.env.cells scope.names [] → X.env.cells.lookup y = some c ∧ c < s.heap.objs.size := fun {y c} hm => by
    rcases cloFrom_mem hm with hm | ⟨h1, rfl⟩
    · cases hm
    · obtain ⟨c, hc⟩ := hfree _ h1 rfl
      rw [hc]
      obtain ⟨w, z⟩ := I.cell _ _ hc
      exact ⟨rfl, z.lt⟩
  have mem : ∀ {y c}, cenv.cells.lookup y = some c → X.env.cells.lookup y = some c ∧ c < s.heap.objs.size := fun {y c} e => by
    rw [hcl] at e
    exact cm (PySem.mem_of_lookup e)
  have look : ∀ {y}, scope.names.lookup y = some .free → ∃ c, cenv.cells.lookup y = some c ∧ X.env.cells.lookup y = some c := fun {y} hl => by
    have hy : (y, NameKind.free) ∈ scope.names := PySem.mem_of_lookup hl
    obtain ⟨c', e'⟩ := mem_lookup (cloFrom_has (cells := X.env.cells) (acc := []) hy)
    rw [← hcl] at e'
    exact ⟨c', e', (mem e').1⟩
  have stkNe : ∀ b ∈ frs X.stack, b < s.heap.objs.size := fun b hb => by
    obtain ⟨_, o, ho, _⟩ := I.stack.mem hb
    exact Heap.lt_size ho
  have okB : (gctx X s H cenv fp).Ok := by
    refine ⟨I.ok.mod, by show cenv.scope.kind = _; rw [hsc]; exact ok.kind, by show cenv.globals = _; rw [← hcenv]; exact I.ok.glob, by show cenv.builtins = _; rw [← hcenv]; rfl, by show s.heap.objs.size ≤ cenv.locals; rw [hL]; exact Nat.le_refl _,
      fun y z c e1 e2 => ?_, fun y hy => ?_, fun y c z e => ?_, hc, ?_, .inr ⟨rfl, hfr0⟩, fun b hb => ⟨?_, fun y c e z => ?_⟩, I.bs, Nat.le_trans I.ok.bsz I.sz, fun b o e hb => ?_, fun b hb z => ?_, I.stack, I.stkFree⟩
    · exact I.ok.inj y z c (mem e1).1 (mem e2).1
    · show ∃ c, cenv.cells.lookup y = some c
      have key : ∀ k, cenv.kindOf y = some k → (k = .cell ∨ k = .free) → ∃ c, cenv.cells.lookup y = some c := fun k hk hk' => by
        unfold Env.kindOf at hk
        rw [hsc] at hk
        rcases hk' with rfl | rfl
        · exact absurd rfl (ok.cell _ (PySem.mem_of_lookup hk))
        · obtain ⟨c, h1, _⟩ := look hk
          exact ⟨c, h1⟩
      rcases hy with hy | hy
      · exact key _ hy (.inl rfl)
      · exact key _ hy (.inr rfl)
    · exact absurd z (by simp)
    · show (X.A.in1.in1.deeper cenv).frames = some (cenv :: X.stack)
      have : X.A.frames = some X.stack := I.ok.frames
      show pushEnvs [cenv] X.A.frames = _ <;> rw [this] <;> rfl
    · show b ≠ cenv.locals
      rw [hL]; exact Nat.ne_of_lt (hfp b hb).2
    · exact (hfp b hb).1.2.2.2.2.1 y c (mem e).1 z
    · rcases (hfp b hb).1.2.2.2.1 with z | z
      · exact I.ok.noex b o e z
      · exact absurd (Nat.lt_of_lt_of_le (Heap.lt_size e) (Nat.le_trans I.ok.bsz z)) (Nat.lt_irrefl _)
    · rcases List.mem_cons.mp (I.stkSub b z) with z | z
      · exact (hfp b hb).1.2.1 z
      · exact (hfp b hb).1.2.2.1 z
  refine ⟨okB, rfl, hgb, Un.kept kp, ⟨m, by show h5.Ns cenv.locals m; rw [hL]; exact hn, fun i y av e1 e2 e3 => ?_⟩, fun y c e => ?_, ?_, fun y c e => ?_, fun p hp => ?_, I.hok.kept kp, by rw [wipe_length]; exact I.len⟩
  · obtain ⟨e2, hne⟩ := wipe_some e2
    have hfr : scope.names.lookup y = some .free := by
      have key : ∀ k, cenv.scope.names.lookup y = some k → k = .local ∨ k = .cell ∨ k = .free → scope.names.lookup y = some .free := fun k hk hk' => by
        rw [hsc] at hk
        have no : ¬ (k = .local ∨ k = .cell) := fun hh => by
          rcases ok.own _ (PySem.mem_of_lookup hk) hh with e' | e'
          · obtain ⟨p, hp, hpy⟩ := List.mem_map.mp e'
            have e3 := ok.ix p hp
            have : p.1 = y := hpy
            rw [this] at e3
            exact hne (List.mem_map.mpr ⟨p, hp, nodup_ix hN e3 e1⟩)
          · exact e' (List.mem_of_getElem? e1)
        rcases hk' with rfl | rfl | rfl
        · exact absurd (.inl rfl) no
        · exact absurd (.inr rfl) no
        · exact hk
      have e3 : Vis cenv.scope y := e3
      rcases e3 with e3 | e3 | e3
      · exact key _ e3 (.inl rfl)
      · exact key _ e3 (.inr (.inl rfl))
      · exact key _ e3 (.inr (.inr rfl))
    obtain ⟨m', hn', hl⟩ := I.loc
    have hvis : Vis X.env.scope y := (ok.free _ (PySem.mem_of_lookup hfr) rfl).elim (fun k => .inr (.inl k)) (fun k => .inr (.inr k))
    obtain ⟨w, r, q⟩ := hl i y av e1 e2 hvis
    refine ⟨w, r, .inr ⟨.inr (by show cenv.scope.names.lookup y = _; rw [hsc]; exact hfr), ?_⟩⟩
    obtain ⟨c, h1, h2⟩ := look hfr
    rcases q with ⟨k, _⟩ | ⟨_, c', e', z⟩
    · have k : X.env.scope.names.lookup y = some .local := k
      rcases ok.free _ (PySem.mem_of_lookup hfr) rfl with k' | k' <;> rw [show X.env.scope.names.lookup y = _ from k'] at k <;> cases k
    · rw [h2] at e'; cases e'
      exact ⟨c, h1, z.keeps kp⟩
  · obtain ⟨w, z⟩ := I.cell y c (mem e).1
    exact ⟨w, z.keeps kp⟩
  · show H cenv.locals = none
    rw [hL]; exact I.hok.fresh (Nat.le_refl _)
  · exact I.freeC y c (mem e).1
  · have hp : p ∈ ([] : List (Addr × Obj)) ++ [(a, gobj)] := hp
    have hp : p = (a, gobj) := by simpa using hp
    subst hp
    refine ⟨ha, I.hok.fresh (Nat.le_of_lt hal), ?_, fun z => ?_, hgo⟩
    · show a ≠ cenv.locals
      rw [hL]; exact Nat.ne_of_gt hal
    · exact absurd (stkNe a z) (Nat.not_lt.mpr (Nat.le_of_lt hal))
end
end Nb

set_option Elab.async false
set_option linter.all false
set_option maxRecDepth 100000
set_option maxHeartbeats 4000000
namespace Nb
open PySem PySem.Spec L2 PyProof.Rows
open Sem (wp)
/-! ### making -/
theorem eval_gen {elt target iter : Expr} {ifs : List Expr} {rest : List Comprehension} {scope : Scope} {pos : Pos} {env : Env} (hco : scope.isCoroutine = false) :
    eval (.GeneratorExp elt (⟨target, iter, ifs, 0⟩ :: rest) scope pos) env = (do
      let x ← eval iter env
      standAt iter.pos
      let x ← genFold iter env x
      let it ← holding [x] (pyIter x)
      enterFrame
      let cl ← closureFor scope env
      let code ← genexprCode env pos (env.qual ++ "<genexpr>") scope
      let bi ← builtinsFor env.globals env.builtins
      let cenv ← newFunctionEnv scope env.globals cl [(".0", it)] (env.qual ++ "<genexpr>.") none code none bi
      newGenerator (.compStart (.GeneratorExp elt (⟨target, iter, ifs, 0⟩ :: rest) scope pos) 0 it .none cenv) "<genexpr>" (env.qual ++ "<genexpr>")) := by
  rw [arm_eval_GeneratorExp]
  simp only [hco, Bool.false_eq_true, if_false]
  cases iter <;> rfl
section
variable {M : Model} {A : Around} {E : Value → Shared → Prop} {s : Shared}
theorem gen_mk {env : Env} {elt target iter : Expr} {ifs : List Expr} {rest : List Comprehension} {scope : Scope} {cl : List (Str × Addr)} {pos : Pos} {Q : Value → Shared → Prop}
    (hco : scope.isCoroutine = false) (hclos : closureFor scope env = pure cl) (hcell : ∀ y ∈ scope.names, y.2 ≠ .cell) (h0 : scope.names.lookup (".0" : Str) = some NameKind.local) (hkind : scope.kind = .function)
    (hroom : A.depth < recursionLimit)
    (h : wpAny M A (eval iter env) (fun xv s₁ => wpAny M A (pyIter xv) (fun it s₂ => s₂.heap.NoLimit ∧
      wpAny M A (genexprCode env pos (env.qual ++ "<genexpr>") scope) (fun code s₃ => wpAny M A (builtinsFor env.globals env.builtins) (fun bi s₄ =>
        ∀ h', h'.Ns s₄.heap.objs.size (fun y => if y = ".0" then some it else none) → Heap.SameBut s₄.heap.objs.size (s₄.heap.push { cls := .type "frame", data := .dict #[] }) h' →
          Q (.ref h'.objs.size) { s₄ with
            gens := s₄.gens.push (.fresh (.compStart (.GeneratorExp elt (⟨target, iter, ifs, 0⟩ :: rest) scope pos) 0 it .none (genEnv scope cl s₄.heap.objs.size code bi env))),
            toks := s₄.toks + 1 + 1 + 1,
            heap := h'.push { cls := .type "generator", data := .fields #[.int s₄.gens.size 0, .str "<genexpr>" (s₄.toks + 1), .str (env.qual ++ "<genexpr>") (s₄.toks + 1 + 1)] } }) E s₃) E s₂) E s₁) E s)
    (hs : ∀ x, genFold iter env x = pure x) :
    wpAny M A (eval (.GeneratorExp elt (⟨target, iter, ifs, 0⟩ :: rest) scope pos) env) Q E s := by
  rw [eval_gen hco, hclos]
  refine wpAny_bind (wpAny_mono h (fun xv s₁ h₁ => ?_) fun _ _ e => e)
  refine wpAny_bind (wpAny_standAt ?_)
  refine wpAny_bind (wpAny_of_eq (hs xv) ?_)
  refine wpAny_bind (wpAny_holding (wpAny_mono h₁ (fun it s₂ h₂ => ?_) fun _ _ e => e))
  refine wpAny_bind (wpAny_enterFrame h₂.1 hroom ?_)
  refine wpAny_bind (wpAny_pure ?_)
  refine wpAny_bind (wpAny_mono h₂.2 (fun code s₃ h₃ => ?_) fun _ _ e => e)
  refine wpAny_bind (wpAny_mono h₃ (fun bi s₄ h₄ => ?_) fun _ _ e => e)
  have hbinds : ∀ y ∈ ([((".0" : Str), it)] : List (Str × Value)), scope.names.lookup y.1 = some NameKind.local := by
    intro y hy
    rcases List.mem_cons.mp hy with rfl | hy
    · exact h0
    · cases hy
  refine wpAny_bind (wpAny_newFunctionEnv hcell hbinds (fun h' hn' hs' => ?_) hkind)
  have e : (fun y : Str => ([((".0" : Str), it)] : List (Str × Value)).reverse.lookup y) = fun y : Str => if y = (".0" : Str) then some it else none := by
    funext y
    by_cases hy : y = ".0"
    · subst hy; simp
    · have : (y == (".0" : Str)) = false := by simpa using hy
      simp [List.lookup, this, hy]
  rw [e] at hn'
  simp only [newGenerator, newFields]
  refine wpAny_bind (wpAny_newGen (wpAny_bind (wpAny_mkText (wpAny_bind (wpAny_mkText (wpAny_newObj_type ?_ (by size_fits)))))))
  exact h₄ h' hn' hs'
end
section
variable {X : Cx} {pins : List (Addr × Obj)} {σ : L2.St} {H : Hp} {s : Shared}
theorem gen_code {c P : Addr} {qual : Str} {scope : Scope} {gpos : Pos} {A : Around} {E Q : Value → Shared → Prop} (I : Inv X pins σ H s) (TB : GxR.TabB X.base X.mg c P) (hcode : X.env.code = .ref c) (hT : GxR.TabG H P)
    (hQ : ∀ code H2 s3, GxR.Tabbed P H H2 → Inv X pins σ H2 s3 → s.heap.objs.size ≤ s3.heap.objs.size → (∀ b o, b ≠ P → s.heap.get? b = some o → s3.heap.get? b = some o) → Q code s3) : wpAny (model X.prog X.w) A (genexprCode X.env gpos qual scope) Q E s := by
  obtain ⟨ps, hP, ht⟩ := hT
  have hPs : s.heap.get? P = some { cls := .none, data := .fields ps } := I.hok P _ hP
  have cd : PySem.W.CodeHd s.heap c P := TB.code.keeps fun b u e => I.bk b u e
  cases hf : codeAmong gpos ps.toList with
  | none =>
    refine wpAny_genexprCodeX hcode (cd.code hPs ht) (cd.tab hPs) hf fun c' h' tk hx hge hlt hco' _ htab' _ => ?_
    obtain ⟨o1, vs, f1, tf, fl, tg, inF, tx, tt, op, _, _, _, _, _, _, _, _, _, htr, _⟩ := hco'
    refine hQ _ _ _ ⟨⟨_, upd_same, htr⟩, fun b hb => upd_ne hb⟩ (GxR.inv_tab (g' := s.gens) (d' := s.drawn) (t' := tk) I hP (fun b u hb e => hx b u hb e) htab'.2 I.bare) (Nat.le_trans hge (Nat.le_of_lt hlt)) fun b o hb e => hx b o hb e
  | some cv => exact wpAny_genexprCode_hit hcode (cd.code hPs ht) hf (hQ cv H s ⟨⟨ps, hP, ht⟩, fun _ _ => rfl⟩ I (Nat.le_refl _) fun _ _ _ e => e)
/-! ### the consumer -/
theorem all_loop {prog : Program} {w : World} {A : Around} {R : Result → Shared → Prop} {g : Addr} (J : Nat → Shared → Prop)
    (turn : ∀ n s, J n s → wpAny (model prog w) A.in1 (pyNext (.ref g)) (fun r s1 => match r with
      | none => R (.ok (.ret (.bool true))) s1
      | some v => ∃ b, v = .bool b ∧ if b = true then ∃ m, m < n ∧ J m s1 else R (.ok (.ret (.bool false))) s1) (fun _ _ => False) s) :
    ∀ (n : Nat) (s : Shared), J n s → codeAny (model prog w) A (.builtin "all.loop" ⟨[.ref g], []⟩) R s := by
  intro n
  induction n using Nat.strongRecOn with
  | ind n ih =>
    intro s h
    refine codeAny_builtin F.entry_all_loop ?_
    rw [Around.under_plainId F.plain_all_loop _]
    show wpAny _ A.in1 (pyNext (.ref g) >>= _) _ _ s
    refine wpAny_bind (wpAny_mono (turn n s h) (fun r s1 h1 => ?_) fun _ _ z => z.elim)
    cases r with
    | none => exact wpAny_bind (wpAny_rule (wpAny_pure h1))
    | some v =>
      obtain ⟨b, rfl, h1⟩ := h1
      refine wpAny_bind (wpAny_holding (wpAny_truthy_bool ?_))
      refine wpAny_bind (wpAny_letGo ?_)
      cases b with
      | true =>
        simp only [if_true] at h1 ⊢
        obtain ⟨m, hm, h1⟩ := h1
        exact wpAny_pure ⟨plainId_quiet F.plain_all_loop _, ih m hm s1 h1⟩
      | false =>
        simp only [Bool.false_eq_true, if_false] at h1 ⊢
        exact wpAny_bind (wpAny_rule (wpAny_pure h1))
theorem call_all {prog : Program} {w : World} {A : Around} {E : Value → Shared → Prop} {x : Value} {Q : Value → Shared → Prop}
    (h : wpAny (model prog w) A.in1 (pyIter x) (fun it s₂ => ∃ g, it = .ref g ∧ ∃ J : Nat → Shared → Prop, (∃ n, J n s₂) ∧ ∀ n s, J n s → wpAny (model prog w) A.in1 (pyNext (.ref g)) (fun r s1 => match r with
      | none => Q (.bool true) s1
      | some v => ∃ b, v = .bool b ∧ if b = true then ∃ m, m < n ∧ J m s1 else Q (.bool false) s1) (fun _ _ => False) s) E s) :
    wpAny (model prog w) A (call (.builtin "all") [x]) Q E s := by
  refine call_function_tree F.kind_all F.plain_all F.entry_all (F.args_all1 _) ?_
  unfold Builtin.«all»
  refine wpAny_bind (m := oneArg "all" _) (wpAny_pure ?_)
  refine wpAny_bind (wpAny_mono h (fun it s₂ h₂ => ?_) fun _ _ e => e)
  obtain ⟨g, rfl, J, ⟨n, hn⟩, turn⟩ := h₂
  exact wpAny_pure ⟨plainId_quiet F.plain_all_loop _, all_loop J turn n s₂ hn⟩
theorem Inv.gens {g' : Array GenState} {t' : Nat} (I : Inv X pins σ H s) (hg : AllBare g') : Inv X pins σ H { s with gens := g', toks := t' } :=
  ⟨I.ok, I.os, hg, I.base, I.loc, I.cell, I.free, I.freeC, I.pin, I.hok, I.len⟩
/-- what the consumer may do between two turns -/
structure Same (s s' : Shared) : Prop where
  heap : s'.heap = s.heap
  os : s'.os = s.os
  bare : AllBare s'.gens
theorem Inv.same {s' : Shared} (I : Inv X pins σ H s) (h : Same s s') : Inv X pins σ H s' := by
  obtain ⟨hh, g, d, t, o⟩ := s'
  obtain ⟨h1, h2, h3⟩ := h
  subst h1
  have h2 : o = s.os := h2
  subst h2
  exact ⟨I.ok, I.os, h3, I.base, I.loc, I.cell, I.free, I.freeC, I.pin, I.hok, I.len⟩
theorem bare_set {s : Shared} {g : Nat} {x : GenState} (h : AllBare s.gens) (hx : x.bare = true) : AllBare (s.setGen g x).gens := by
  intro y hy
  obtain ⟨i, hi, rfl⟩ := Array.mem_iff_getElem.mp hy
  simp only [Shared.setGen] at hi ⊢
  by_cases hig : g = i
  · subst hig
    rw [Array.getElem_setIfInBounds_self]
    exact hx
  · rw [Array.getElem_setIfInBounds_ne (by simpa using hi) hig]
    exact h _ (Array.getElem_mem _)
end
end Nb

set_option Elab.async false
set_option linter.all false
set_option maxRecDepth 100000
set_option maxHeartbeats 4000000
namespace Nb
open PySem PySem.Spec L2 PyProof.Rows
open Sem (wp)
section
variable {X : Cx} {pins : List (Addr × Obj)} {σ : L2.St} {H : Hp} {s : Shared}
/-- the generator's protocol: what it yields; the consumer goes on with True alone -/
def YG (Xg : Cx) (pg : List (Addr × Obj)) (Qf : Hp → Prop) : Protocol := fun n s₀ v s kap =>
  ∃ b H', v = .bool b ∧ (∃ σ', Inv Xg pg σ' H' s) ∧ if b = true then ∀ s', Same s s' → kap (.send .none) s' else Qf H'
def PG1 (Xg : Cx) (pg : List (Addr × Obj)) (Qt : Hp → Prop) : Nat → Shared → Shared → Prop := fun n s₀ s => ∃ σ' H', Inv Xg pg σ' H' s ∧ Qt H'
abbrev RG1 (Xg : Cx) (pg : List (Addr × Obj)) (Qt : Hp → Prop) : GenEnd := fun n s₀ r s₁ => r = .ok .next ∧ PG1 Xg pg Qt n s₀ s₁
/-- all(elt for tg in iter): W by the turn and a measure -/
def turnsA (J : It) (g : TG) (te : TE) (vs : List Nat) (σ : L2.St) (Q : VK) (Wm : Nat → Nat → Hp → Prop) : Prop := ∀ i m H, Wm i m H →
  (J.stop i H ∧ Q (.bl true) H) ∨ (J.go i H ∧ ∃ Nx : Hp → Prop, (∀ H', Nx H' → ∃ m', m' < m ∧ Wm (i + 1) m' H') ∧ ∀ x H', J.yld i H x H' → g x (wipe σ vs) H' fun σ2 H2 => wipe σ2 vs = wipe σ vs ∧ te σ2 H2 fun y H3 =>
    ∃ b, y = .bl b ∧ if b = true then Nx H3 else Q (.bl false) H3)
theorem compTurn_gen1 (elt target iter : Expr) (scope : Scope) (pos : Pos) (it acc : Value) (env : Env) :
    compTurn (.GeneratorExp elt [⟨target, iter, [], 0⟩] scope pos) 0 it acc env = (do
      standAt iter.pos
      match ← pyNext it with
      | none => pure (.done .next)
      | some v =>
        letOwnedTupleGo target it v
        assign target env v
        (do let v ← eval elt env; standAt elt.pos; let _ ← yieldOut env v)
        again (.compLoop (.GeneratorExp elt [⟨target, iter, [], 0⟩] scope pos) 0 it acc env)) := by
  rw [compTurn_gen]
  simp only [List.forIn_nil]
  rfl
theorem gen_loop {A : Around} {elt tg iter : Expr} {scope : Scope} {pos : Pos} {J : It} {fp : List Addr} {it : Addr} {tn : Nat → Heap → Prop} {g : TG} {te : TE} {vs : List Nat} {Q : VK} {Wm : Nat → Nat → Hp → Prop} {Xg : Cx} {pg : List (Addr × Obj)} {σ : L2.St}
    (hA : A.deeper Xg.env = Xg.A) (hc : Xg.calm = true) (hco : Xg.env.scope.isCoroutine = false) (hex : Xg.ex = fp) (hpn : Xg.pn = []) (hxe : Xg.xe = fun _ _ => False) (hfpg : ∀ b ∈ fp, ∀ p ∈ pg, p.1 ≠ b)
    (T : Turn Xg.prog Xg.w Xg.K tg J fp it tn) (pgt : L2.PG Xg tg g) (pe : PE Xg elt te) (turn : turnsA J g te vs σ Q Wm) :
    ∀ (m i n : Nat) (s₀ s : Shared) (H' : Hp), m < n → Inv Xg pg (wipe σ vs) H' s → tn i s.heap → (∀ b ∈ fp, H' b = none) → Wm i m H' →
      Seg (model Xg.prog Xg.w) A (RG1 Xg pg (fun H => Q (.bl true) H)) (YG Xg pg (fun H => Q (.bl false) H)) n s₀ (.compLoop (.GeneratorExp elt [⟨tg, iter, [], 0⟩] scope pos) 0 (.ref it) .none Xg.env)
        ((model Xg.prog Xg.w).den (.compLoop (.GeneratorExp elt [⟨tg, iter, [], 0⟩] scope pos) 0 (.ref it) .none Xg.env)) [] s := by
  have stat : ∀ {σ' : L2.St} {H' : Hp} {s' : Shared}, Inv Xg pg σ' H' s' → (∀ b ∈ fp, H' b = none) → ∀ b ∈ fp, FpOk Xg pg H' b := fun {σ' H' s'} I' hn b hb =>
    ⟨hn b hb, (I'.ok.exf b (hex ▸ hb)).1, I'.ok.exfs b (hex ▸ hb), .inl (hex ▸ hb), fun x c e => (I'.ok.exf b (hex ▸ hb)).2 x c e, fun p hp => by
      rw [hpn, List.nil_append] at hp
      exact hfpg b hb p hp⟩
  have ov : ∀ {it' : Value}, A.over (.compLoop (.GeneratorExp elt [⟨tg, iter, [], 0⟩] scope pos) 0 it' .none Xg.env) [] = Xg.A := fun {it'} => over_gen.trans hA
  intro m
  induction m using Nat.strongRecOn with
  | ind m ih =>
    intro i n s₀ s5 H5 hmn I5 st5 n5 w5
    show Seg _ A _ _ _ s₀ _ ((compTurn (.GeneratorExp elt [⟨tg, iter, [], 0⟩] scope pos) 0 (.ref it) .none Xg.env).onRaise (leaving Xg.env)) [] s5
    rw [compTurn_gen1, Sem.onRaise_eq_wrap]
    refine seg_bind_wrap (wpAny_standAt ?_)
    rcases turn i m H5 w5 with ⟨stop, qq⟩ | ⟨go, Nx, hNx, step⟩
    · have td := T.done Xg rfl rfl rfl hc i pg s5 _ H5 (fun _ _ => False) I5 (stat I5 n5) st5 stop
      refine seg_bind_wrap ?_
      rw [ov]
      refine thnF td fun r s6 ⟨hr, I6⟩ => ?_
      subst hr
      exact seg_end (.ok .next) ⟨rfl, _, _, I6, qq⟩
    · have ti := T.item Xg rfl rfl rfl hc i pg s5 _ H5 (fun _ _ => False) I5 (stat I5 n5) st5 go
      refine seg_bind_wrap ?_
      rw [ov]
      refine thnF ti fun r s6 ⟨u, hr, h6⟩ => ?_
      subst hr
      refine seg_bind_wrap ?_
      rw [ov]
      refine thnF h6 fun _ s7 ⟨x, H7, I7, r7, y7, st7, n7⟩ => ?_
      have I7' := I7.pinned (stat I7 n7) (T.obj _ _ st7)
      refine seg_bind_wrap ?_
      rw [ov]
      have pgr := pgt.run _ s7 _ H7 x u _ I7' r7 (step x H7 y7)
      rw [hxe] at pgr
      refine thnF pgr fun _ s8 ⟨σ8, H8, I8, hw8, q8⟩ => ?_
      have hy : ∀ v, yieldOut Xg.env v = yieldValue v := fun v => by simp only [yieldOut, hco, Bool.false_eq_true, if_false]
      simp only [hy]
      rw [Sem.bind_eq_wrap', Sem.bind_eq_wrap', Sem.wrap_wrap, Sem.wrap_wrap]
      refine seg_wrap ?_
      rw [ov]
      have per := pe.run _ s8 σ8 H8 _ I8 q8
      rw [hxe] at per
      refine thnF per fun y s9 ⟨yv, H9, I9, r9, b, hb, q9⟩ => ?_
      subst hb
      have r9 : y = .bool b := r9
      subst r9
      obtain ⟨n', rfl⟩ : ∃ n', n = n' + 1 := ⟨n - 1, by omega⟩
      have pin' : ∀ b ∈ fp, ∀ o, s7.heap.get? b = some o → s9.heap.get? b = some o ∧ H9 b = none := fun b hb o e =>
        let z := I9.pin (b, o) (List.mem_append_right _ (List.mem_append_right _ (mem_pinsAt hb e)))
        ⟨z.1, z.2.1⟩
      refine seg_at (seg_yield rfl rfl rfl ⟨b, H9, rfl, ⟨σ8, I9.unpinned (pins := pg)⟩, ?_⟩)
      cases b with
      | false =>
        simp only [Bool.false_eq_true, if_false] at q9 ⊢
        exact q9
      | true =>
        simp only [if_true] at q9 ⊢
        intro s' hs'
        obtain ⟨m', hm, w'⟩ := hNx H9 q9
        have hl : (wipe σ vs).length = σ8.length := by rw [← hw8, wipe_length]
        refine seg_again rfl (ih m' hm (i + 1) n' s' s' H9 (by omega) (Inv.same ((I9.unpinned (pins := pg)).weak hl fun j v e => ?_) hs') ?_ (fun b hb => ?_) w')
        · rw [← hw8] at e
          exact (wipe_some e).1
        · rw [hs'.heap]
          exact T.keep _ _ _ st7 fun b hb o e => (pin' b hb o e).1
        · obtain ⟨o, e, _⟩ := T.obj _ _ st7 b hb
          exact (pin' b hb o e).2
theorem gen_seg {A : Around} {elt tg iter : Expr} {scope : Scope} {pos : Pos} {J : It} {fp : List Addr} {it : Addr} {tn : Nat → Heap → Prop} {Xg : Cx} {R : GenEnd} {Y : Protocol} {n : Nat} {s₀ s : Shared} {gens : List Comprehension}
    (T : Turn Xg.prog Xg.w Xg.K tg J fp it tn) (st : tn 0 s.heap)
    (loop : Seg (model Xg.prog Xg.w) A R Y n s₀ (.compLoop (.GeneratorExp elt (⟨tg, iter, [], 0⟩ :: gens) scope pos) 0 (.ref it) .none Xg.env) ((model Xg.prog Xg.w).den (.compLoop (.GeneratorExp elt (⟨tg, iter, [], 0⟩ :: gens) scope pos) 0 (.ref it) .none Xg.env)) [] s) :
    Seg (model Xg.prog Xg.w) A R Y n s₀ (.compStart (.GeneratorExp elt (⟨tg, iter, [], 0⟩ :: gens) scope pos) 0 (.ref it) .none Xg.env) ((model Xg.prog Xg.w).den (.compStart (.GeneratorExp elt (⟨tg, iter, [], 0⟩ :: gens) scope pos) 0 (.ref it) .none Xg.env)) [] s := by
  show Seg _ A _ _ _ s₀ _ ((compStart (.GeneratorExp elt (⟨tg, iter, [], 0⟩ :: gens) scope pos) 0 (.ref it) .none Xg.env).onRaise (leaving Xg.env)) [] s
  unfold compStart
  rw [Sem.onRaise_eq_wrap]
  show Seg _ A _ _ _ s₀ _ ((ask >>= _).wrap _ _ _ _) [] s
  refine seg_bind_wrap (wpAny_askSetting ?_)
  split
  · exact seg_again rfl loop
  · first
      | exact seg_bind_wrap (wpAny_rule (seg_bind_wrap (wpAny_standAt (seg_bind_wrap (T.self _ 0 s _ _ st (seg_again rfl loop))))))
      | (refine seg_bind_wrap (wpAny_rule ?_); show Seg _ A _ _ _ s₀ _ ((standAt iter.pos >>= _).wrap _ _ _ _) [] s; exact seg_bind_wrap (wpAny_standAt (seg_bind_wrap (T.self _ 0 s _ _ st (seg_again rfl loop)))))
/-- the generator g stands at a, ready to be asked -/
def GJ (P : Program) (w : World) (A0 : Around) (Xg : Cx) (pg : List (Addr × Obj)) (Q : VK) (a : Addr) (g : Nat) (n : Nat) (s : Shared) : Prop :=
  s.heap.IsGen a g ∧ s.heap.NoLimit ∧ AllBare s.gens ∧ g + 1 ≤ s.gens.size ∧ ∃ gs, s.gens[g]? = some gs ∧ ∀ s', Same s s' → gs.Goes (model P w) A0 (RG1 Xg pg fun H => Q (.bl true) H) (YG Xg pg fun H => Q (.bl false) H) n (.send .none) s'
theorem same_set {s : Shared} {g : Nat} {x : GenState} (h : AllBare s.gens) (hx : x.bare = true) : Same s (s.setGen g x) := ⟨rfl, rfl, bare_set h hx⟩
theorem gj_turn {P : Program} {w : World} {A : Around} {Xg : Cx} {pg : List (Addr × Obj)} {Q : VK} {a : Addr} {g : Nat} {gobj : Obj} {Q' : Value → Shared → Prop} (hh : A.handled = none) (hroom : A.depth < recursionLimit) (hpg : (a, gobj) ∈ pg) (hgo : gobj.cls = .type "generator" ∧ (∃ nm qn, gobj.data = .fields #[.int g 0, nm, qn]) ∧ gobj.slots = #[])
    (hQ : ∀ b σ' H' s, Inv Xg pg σ' H' s → Q (.bl b) H' → Q' (.bool b) s) :
    ∀ n s, GJ P w A.in1.in1 Xg pg Q a g n s → wpAny (model P w) A.in1 (pyNext (.ref a)) (fun r s1 => match r with
      | none => Q' (.bool true) s1
      | some v => ∃ b, v = .bool b ∧ if b = true then ∃ m, m < n ∧ GJ P w A.in1.in1 Xg pg Q a g m s1 else Q' (.bool false) s1) (fun _ _ => False) s := by
  rintro n s ⟨hg, hl, hb, hsz, gs, hgs, hgoes⟩
  refine GenW.wpAny_gsz hsz (wpAny_pyNext_genexpQ (A := A.in1) (P := PG1 Xg pg fun H => Q (.bl true) H) hh hl hroom hg hgs (hgoes _ (same_set hb rfl)) (fun v s₁ gs' hb' hv => ?_) (fun s₁ hp h' hk => ?_))
  · obtain ⟨b, H', rfl, ⟨σ', I'⟩, hv⟩ := hv
    intro hsz1
    refine ⟨b, rfl, ?_⟩
    cases b with
    | false =>
      simp only [Bool.false_eq_true, if_false] at hv ⊢
      exact hQ false σ' H' _ (Inv.same I' (same_set I'.bare hb')) hv
    | true =>
      simp only [if_true] at hv ⊢
      cases n with
      | zero => exact (hv s₁ ⟨rfl, rfl, I'.bare⟩).elim
      | succ m =>
        refine ⟨m, Nat.lt_succ_self _, ?_, I'.nolimit, bare_set I'.bare hb', hsz1, gs', ?_, fun s' hs' => hv s' ⟨hs'.heap, hs'.os, hs'.bare⟩⟩
        · obtain ⟨h1, ⟨nm, qn, h2⟩, h3⟩ := hgo
          exact ⟨gobj, nm, qn, (I'.pin (a, gobj) (List.mem_append_right _ hpg)).1, h1, h2, h3⟩
        · simp only [Shared.setGen, Array.size_setIfInBounds] at hsz1 ⊢
          rw [Array.getElem?_setIfInBounds_self]
          rw [if_pos (by omega)]
  · obtain ⟨σ', H', I', q⟩ := hp
    intro _
    exact hQ true σ' H' _ ((Inv.same I' (same_set I'.bare rfl)).kept (t' := s₁.toks) hk) q
end
end Nb

set_option Elab.async false
set_option linter.all false
set_option maxRecDepth 100000
set_option maxHeartbeats 4000000
namespace Nb
open PySem PySem.Spec L2 PyProof.Rows
open Sem (wp)
def RAll (g : TG) (te : TE) (vs : List Nat) (σ : L2.St) (Q : VK) (J : It) (H : Hp) : Prop := ∃ Wm : Nat → Nat → Hp → Prop, (∃ m, Wm 0 m H) ∧ turnsA J g te vs σ Q Wm
def tAllG (P : Addr) (wi : TI) (g : TG) (te : TE) (vs : List Nat) : TE := fun σ H Q => wi σ H fun J H1 => GxR.TabG H1 P ∧ ∀ H2, GxR.Tabbed P H1 H2 → RAll g te vs σ Q J H2
section
variable {X : Cx}
abbrev gEnv (X : Cx) (scope : Scope) (C : Addr) (code : Value) : Env := genEnv scope (cloFrom X.env.cells scope.names []) C code builtinsNs X.env
theorem boot_all : bootBuiltins "all" = some (.builtin "all") := by decide +kernel
/-- the making, any number of clauses: what is known when the generator stands -/
theorem gen_all {pins : List (Addr × Obj)} {s : Shared} {σ : L2.St} {H : Hp} {Q : VK} {c P : Addr} {elt tg iter : Expr} {gens : List Comprehension} {scope : Scope} {own : List (Str × Nat)} {p pos gpos : Pos} {wi : TI} {k : Nat} {R : It → Hp → Prop}
    (hr : Room k X.A) (hg : Gl X "all") (hm : X.mg "all" = none) (TB : GxR.TabB X.base X.mg c P) (hcode : X.env.code = .ref c) (hc : X.calm = true) (hN : X.N.Nodup) (ok : GnOk X.N X.env.scope scope own) (hi : PI X tg iter wi)
    (hs : ∀ v, genFold iter X.env v = pure v) (I : Inv X pins σ H s) (h : wi σ H fun J H1 => GxR.TabG H1 P ∧ ∀ H2, GxR.Tabbed P H1 H2 → R J H2)
    (he : starEach [.GeneratorExp elt (⟨tg, iter, [], 0⟩ :: gens) scope gpos] X.env = (false, eval (.GeneratorExp elt (⟨tg, iter, [], 0⟩ :: gens) scope gpos) X.env) :: starEach [] X.env)
    (seg : ∀ (s3 : Shared) (H3 : Hp) (code : Value) (fp : List Addr) (it a : Addr) (gobj : Obj) (tn : Nat → Heap → Prop) (J : It), R J H3 → Turn X.prog X.w X.K tg J fp it tn → (∀ b ∈ fp, H3 b = none) → (∀ b ∈ fp, ∀ q ∈ [(a, gobj)], q.1 ≠ b) → ∃ n, ∀ s', Inv (gctx X s3 H3 (gEnv X scope s3.heap.objs.size code) fp) [(a, gobj)] (wipe σ (own.map (·.2))) H3 s' → tn 0 s'.heap →
      Seg (model X.prog X.w) X.A.in1.in1 (RG1 (gctx X s3 H3 (gEnv X scope s3.heap.objs.size code) fp) [(a, gobj)] fun H => Q (.bl true) H) (YG (gctx X s3 H3 (gEnv X scope s3.heap.objs.size code) fp) [(a, gobj)] fun H => Q (.bl false) H) n s'
        (.compStart (.GeneratorExp elt (⟨tg, iter, [], 0⟩ :: gens) scope gpos) 0 (.ref it) .none (gEnv X scope s3.heap.objs.size code)) ((model X.prog X.w).den (.compStart (.GeneratorExp elt (⟨tg, iter, [], 0⟩ :: gens) scope gpos) 0 (.ref it) .none (gEnv X scope s3.heap.objs.size code))) [] s') :
    wpAny (model X.prog X.w) X.A (eval (.Call (.Name "all" p) [.GeneratorExp elt (⟨tg, iter, [], 0⟩ :: gens) scope gpos] [] pos) X.env) (EP X pins σ Q) X.xe s := by
  have hfree : ∀ y ∈ scope.names, y.2 = .free → ∃ c, X.env.cells.lookup y.1 = some c := fun y hy e => by
    rcases ok.free y hy e with k | k
    · exact I.ok.has _ (.inl k)
    · exact I.ok.has _ (.inr k)
  have hdp : X.A.depth < recursionLimit := by have := hr.dp; omega
  refine wpAny_Call_Name_kw (ld_blt I hg hm boot_all ?_)
  refine PyProof.Rows.callWith_builtin1 ?_ he (by rfl)
  rw [he]
  show wpAny _ _ (spliced ((false, eval (.GeneratorExp elt (⟨tg, iter, [], 0⟩ :: gens) scope gpos) X.env) :: backTo pos (starEach [] X.env))) _ _ s
  refine Calls.spliced_cons (gen_mk ok.co (closure_ok hfree) ok.cell ok.dot ok.kind hdp ?_ hs)
  refine thn (hi.run pins s σ H _ I h) fun xv s1 hx => thn hx fun itv s2 h2 => ?_
  obtain ⟨it, fp, tn, J, H2, e, I2, T, st2, f2, hT, q⟩ := h2
  subst e
  refine ⟨I2.nolimit, gen_code I2 TB hcode hT fun code H3 s3 htab I3 hsz kp3 => ?_⟩
  obtain ⟨bm, ob, e1, e2, e3, e4, e5, e6, e7, e8⟩ := TB.bm
  refine wpAny_builtinsFor (m := X.mg) (by rw [I3.ok.glob]; exact I3.mod.glob.keeps I3.bk) e1 e2 (I3.bk _ _ e5) e6 e7 e8 ?_
  intro h' hn' hs'
  have sz : ∀ b ∈ fp, b < s2.heap.objs.size := fun b hb => by
    obtain ⟨o, e, _⟩ := T.obj _ _ st2 b hb
    exact Heap.lt_size e
  have nP : ∀ b ∈ fp, b ≠ P := fun b hb z => by
    obtain ⟨ps, hP, _⟩ := hT
    have := (f2 b hb).1
    rw [z, hP] at this
    cases this
  have f3 : ∀ b ∈ fp, FpOk X pins H3 b ∧ b < s3.heap.objs.size := fun b hb => ⟨⟨by rw [htab.2 b (nP b hb)]; exact (f2 b hb).1, (f2 b hb).2⟩, Nat.lt_of_lt_of_le (sz b hb) hsz⟩
  have st3 : tn 0 s3.heap := T.keep _ _ _ st2 fun b hb o e => kp3 b o (nP b hb) e
  have hsz' : h'.objs.size = s3.heap.objs.size + 1 := by rw [hs'.1, Heap.size_push]
  generalize hgobj : ({ cls := .type "generator", data := .fields #[.int s3.gens.size 0, .str "<genexpr>" (s3.toks + 1), .str (X.env.qual ++ "<genexpr>") (s3.toks + 1 + 1)] } : Obj) = gobj
  have kp : ∀ b o, s3.heap.get? b = some o → (h'.push gobj).get? b = some o := fun b o e => Heap.get?_push_of_some _ (hs'.extBut b o (Nat.ne_of_lt (Heap.lt_size e)) (Heap.get?_push_of_some _ e))
  have ha : (h'.push gobj).get? h'.objs.size = some gobj := Heap.get?_push_size _ (by rw [← hgobj]; rfl)
  have hal : s3.heap.objs.size < h'.objs.size := by omega
  have hgb : AllBare (s3.gens.push (.fresh (.compStart (.GeneratorExp elt (⟨tg, iter, [], 0⟩ :: gens) scope gpos) 0 (.ref it) .none (gEnv X scope s3.heap.objs.size code)))) := I3.bare.push rfl
  have I5 := gen_start (own := own) (code := code) (tk := s3.toks + 1 + 1 + 1) I3 ok hN f3 kp (hn'.push gobj) ha hal (by rw [← hgobj]; intro v z; cases z) hgb fun z => hr.hd
  have nA : ∀ b ∈ fp, ∀ q ∈ [(h'.objs.size, gobj)], q.1 ≠ b := fun b hb q hq => by
    have : q = (h'.objs.size, gobj) := by simpa using hq
    subst this
    have := (f3 b hb).2
    exact Nat.ne_of_gt (Nat.lt_trans this hal)
  obtain ⟨n, hseg⟩ := seg s3 H3 code fp it h'.objs.size gobj tn J (q H3 htab) T (fun b hb => (f3 b hb).1.1) nA
  have hgen : (h'.push gobj).IsGen h'.objs.size s3.gens.size := ⟨gobj, _, _, ha, by rw [← hgobj], by rw [← hgobj], by rw [← hgobj]⟩
  refine Calls.spliced_nil ?_
  refine call_all (wpAny_pyIter_gen hgen ⟨_, rfl, GJ X.prog X.w X.A.in1.in1 (gctx X s3 H3 (gEnv X scope s3.heap.objs.size code) fp) [(h'.objs.size, gobj)] Q h'.objs.size s3.gens.size, ⟨n, hgen, I5.nolimit, hgb, ?_, .fresh (.compStart (.GeneratorExp elt (⟨tg, iter, [], 0⟩ :: gens) scope gpos) 0 (.ref it) .none (gEnv X scope s3.heap.objs.size code)), ?_, fun s' hs' => ⟨rfl, hseg s' (Inv.same I5 hs') ?_⟩⟩, ?_⟩)
  · show s3.gens.size + 1 ≤ (s3.gens.push _).size
    rw [Array.size_push]
    exact Nat.le_refl _
  · exact Array.getElem?_push_size ..
  · rw [hs'.heap]
    exact T.keep _ _ _ st3 fun b _ o e => kp b o e
  · exact gj_turn (gobj := gobj) hr.hd hdp (by simp) ⟨by rw [← hgobj], ⟨_, _, by rw [← hgobj]⟩, by rw [← hgobj]⟩ fun b σ' H' s6 I6 q6 => ⟨.bl b, H', I3.call' (ch := fp) I6.os I6.base I6.hok I6.bare (fun b hb => ⟨(f3 b hb).1.2.2.2.1, (f3 b hb).1.2.1, (f3 b hb).1.2.2.2.2.1, (f3 b hb).1.2.2.2.2.2⟩), rfl, q6⟩
theorem pe_allG {c P : Addr} {elt tg iter : Expr} {scope : Scope} {own : List (Str × Nat)} {p pos gpos : Pos} {wi : TI} {g : TG} {te : TE} {k : Nat}
    (hr : Room k X.A) (hg : Gl X "all") (hm : X.mg "all" = none) (TB : GxR.TabB X.base X.mg c P) (hcode : X.env.code = .ref c) (hc : X.calm = true) (hN : X.N.Nodup) (ok : GnOk X.N X.env.scope scope own) (hi : PI X tg iter wi)
    (hb : ∀ (s : Shared) (H : Hp) (C : Addr) (code : Value) (fp : List Addr), L2.PG (gctx X s H (gEnv X scope C code) fp) tg g ∧ PE (gctx X s H (gEnv X scope C code) fp) elt te)
    (hs : ∀ v, genFold iter X.env v = pure v := by intro _; rfl) (he : starEach [.GeneratorExp elt [⟨tg, iter, [], 0⟩] scope gpos] X.env = (false, eval (.GeneratorExp elt [⟨tg, iter, [], 0⟩] scope gpos) X.env) :: starEach [] X.env := by rfl) :
    PE X (.Call (.Name "all" p) [.GeneratorExp elt [⟨tg, iter, [], 0⟩] scope gpos] [] pos) (tAllG P wi g te (own.map (·.2))) := by
  refine ⟨fun pins s σ H Q I h => gen_all (own := own) (R := RAll g te (own.map (fun x : Str × Nat => x.2)) σ Q) hr hg hm TB hcode hc hN ok hi hs I h he fun s3 H3 code fp it a gobj tn J ⟨Wm, ⟨m, hm0⟩, turn⟩ T nfp nA => ⟨m + 1, fun s' I' st => ?_⟩⟩
  obtain ⟨hpg, hpe⟩ := hb s3 H3 s3.heap.objs.size code fp
  exact gen_seg (Xg := gctx X s3 H3 (gEnv X scope s3.heap.objs.size code) fp) T st (gen_loop (Xg := gctx X s3 H3 (gEnv X scope s3.heap.objs.size code) fp) rfl hc ok.co rfl rfl rfl nA T hpg hpe turn m 0 (m + 1) s' s' H3 (Nat.lt_succ_self _) I' st nfp hm0)
end
end Nb

set_option Elab.async false
set_option linter.all false
set_option maxRecDepth 100000
set_option maxHeartbeats 4000000
namespace Nb
open PySem PySem.Spec L2 PyProof.Rows
/-- all(te for g in ..) -/
def allLoop (vs : List Nat) (g : AG) (te : M PyData) : List PyData → List SV → Option (Bool × List SV)
  | [], ρ => some (true, ρ)
  | x :: xs, ρ => match g x ρ with
    | none => none
    | some ρ1 => match te ρ1 with
      | .ok (.bool b) ρ2 => match wipeR vs ρ2 with
        | some ρ3 => if b = true then allLoop vs g te xs ρ3 else some (false, ρ3)
        | none => none
      | _ => none
def allM (vs : List Nat) (it : M (List PyData)) (g : AG) (te : M PyData) : M PyData := M.bind it fun xs ρ => match wipeR vs ρ with
  | none => .fail
  | some ρ1 => match allLoop vs g te xs ρ1 with
    | some (b, ρ2) => .ok (.bool b) (unAll vs ρ2)
    | none => .fail
section
variable {X : Cx} {W : Wd} {E : XK} {k : Nat}
theorem tab_tr {G H1 H2 : Hp} {ρ : List SV} {σ : L2.St} {P : Addr} (l : Lk W G H1 ρ σ) (hT : GxR.TabG H1 P) (h : GxR.Tabbed P H1 H2) (hu : ∀ nm, (P, TK.lam nm) ∉ W.T) : Tr W ρ σ G H1 ρ σ G H2 := by
  obtain ⟨ps, hP, ht⟩ := hT
  obtain ⟨h1, h2⟩ := h
  have nP : ∀ b o, H1 b = some o → (∀ q, o ≠ .tbl q) → b ≠ P := fun b o e n z => by
    subst z
    rw [hP] at e
    exact n ps (Option.some.inj e).symm
  refine Tr.frame l ⟨fun b o e _ nt => by rw [h2 b (nP b o e nt)]; exact e, fun b q e => ?_, fun _ _ e => e, fun b o e => .inl e⟩ (fun b o e => ?_) l.gt fun p hp => ?_
  · by_cases hb : b = P
    · obtain ⟨q', e', _⟩ := h1
      exact ⟨q', by rw [hb]; exact e'⟩
    · exact ⟨q, by rw [h2 b hb]; exact e⟩
  · rw [h2 b (nP b o (l.sub b o e) fun q z => l.gt b q (by rw [e, z]))]
    exact l.sub b o e
  · have q := l.tabs p hp
    cases hk : p.2 with
    | gen =>
      rw [hk] at q
      by_cases hb : p.1 = P
      · show GxR.TabG H2 p.1
        rw [hb]
        exact h1
      · obtain ⟨ps', e1, e2⟩ := q
        exact ⟨ps', by rw [h2 p.1 hb]; exact e1, e2⟩
    | lam nm =>
      rw [hk] at q
      have hb : p.1 ≠ P := fun z => hu nm (by rw [← z, ← hk]; exact hp)
      obtain ⟨ps', e1, e2, e3⟩ := q
      refine ⟨ps', by rw [h2 p.1 hb]; exact e1, e2, fun pos cv hc => ?_⟩
      obtain ⟨c, z1, z2⟩ := e3 pos cv hc
      exact ⟨c, z1, by rw [h2 c (nP c _ z2 fun q z => by cases z)]; exact z2⟩
theorem all_red {is vs : List Nat} {it : M (List PyData)} {g : AG} {te : M PyData} {P : Addr} (his : (is.all fun i => vs.contains i) = true) (hT : (P, TK.gen) ∈ W.T) (hu : ∀ nm, (P, TK.lam nm) ∉ W.T) :
    ∀ σ H Q, tD W E (allM vs it g te) σ H Q → tAllG P (tI W E it) (tG W is g) (tD W E0 te) vs σ H Q := by
  intro σ H Q ⟨G, ρ, l, h⟩
  refine ⟨G, ρ, l, ?_⟩
  unfold allM M.bind at h
  cases e : it ρ with
  | fail => rw [e] at h; exact h
  | exn cc => rw [e] at h; exact h
  | ok xs ρ0 =>
    rw [e] at h
    intro J G1 H1 a j
    have h := GoD.shift (r := _) h a
    refine ⟨a.lk.tabs _ hT, fun H2 htab => ?_⟩
    have tt := tab_tr a.lk (a.lk.tabs _ hT) htab hu
    have h := GoD.shift (r := _) h tt
    cases ew : wipeR vs ρ0 with
    | none => simp only [Res.bind, ew] at h; exact h.elim
    | some ρ1 =>
      simp only [Res.bind, ew] at h
      cases el : allLoop vs g te xs ρ1 with
      | none => simp only [el] at h; exact h.elim
      | some r =>
        obtain ⟨rb, ρr⟩ := r
        simp only [el] at h
        have lw : Lk W G1 H2 ρ1 (L2.wipe σ vs) := (Tr.wipe tt.lk ew).lk
        refine ⟨fun i m H' => ∃ G' ρ', Tr W ρ1 (L2.wipe σ vs) G1 H2 ρ' (L2.wipe σ vs) G' H' ∧ m + i = xs.length ∧ allLoop vs g te (xs.drop i) ρ' = some (rb, ρr), ⟨xs.length, G1, ρ1, Tr.refl lw, rfl, el⟩, fun i m H' ⟨G', ρ', t, hm, hl⟩ => ?_⟩
        have l' := t.lk
        have s1 : Sub G1 G' := t.fr.gsub
        cases hd : xs.drop i with
        | nil =>
          rw [hd] at hl
          cases hl
          refine .inl ⟨j.stop G' H' i s1 l'.sub (by have := congrArg List.length hd; simp at this; omega), ?_⟩
          exact h (.bl true) G' H' (Tr.unwipe tt.lk ew t) (.bl true)
        | cons x r =>
          rw [hd] at hl
          have hlt : i < xs.length := by
            have := congrArg List.length hd
            simp at this
            omega
          have ex : xs[i]? = some x := by
            have := congrArg (fun z => z[0]?) hd
            simpa using this
          have er : xs.drop (i + 1) = r := by
            have := congrArg List.tail hd
            simpa [List.tail_drop] using this
          refine .inr ⟨j.go G' H' i s1 l'.sub hlt, fun H3 => ∃ G' ρ', Tr W ρ1 (L2.wipe σ vs) G1 H2 ρ' (L2.wipe σ vs) G' H3 ∧ allLoop vs g te (xs.drop (i + 1)) ρ' = some (rb, ρr),
            fun H3 ⟨G', ρ', b1, b6⟩ => ⟨m - 1, by omega, G', ρ', b1, by omega, b6⟩, fun v H3 y => ?_⟩
          obtain ⟨G2, t2, dv, keep⟩ := yld_go j s1 l' ex y
          unfold allLoop at hl
          cases eg : g x ρ' with
          | none => rw [eg] at hl; cases hl
          | some ρ2 =>
            rw [eg] at hl
            simp only at hl
            refine ⟨G2, ρ', x, ρ2, t2.lk, dv, eg, fun σ3 G3 t3 on => ?_⟩
            have hw : L2.wipe σ3 vs = L2.wipe σ vs := wipe_only on (fun i hi => by have := (List.all_eq_true.mp his) i hi; simpa using this) |>.trans (wipe_wipe σ vs)
            refine ⟨hw, G3, ρ2, t3.lk, ?_⟩
            cases et : te ρ2 with
            | fail => rw [et] at hl; cases hl
            | exn cc => rw [et] at hl; cases hl
            | ok d ρ3 =>
              rw [et] at hl
              cases d with
              | bool b =>
                simp only at hl
                intro yv G4 H4 t4 dq
                cases dq
                refine ⟨b, rfl, ?_⟩
                cases ew4 : wipeR vs ρ3 with
                | none => rw [ew4] at hl; cases hl
                | some ρ4 =>
                  rw [ew4] at hl
                  have t5 := Tr.wipe t4.lk ew4
                  rw [hw] at t5
                  have tall := t.trans (t2.trans (t3.trans (t4.trans t5)))
                  cases b with
                  | true =>
                    simp only [if_true] at hl ⊢
                    exact ⟨G4, ρ4, tall, by rw [er]; exact hl⟩
                  | false =>
                    simp only [Bool.false_eq_true, if_false] at hl ⊢
                    cases hl
                    exact h (.bl false) G4 H4 (Tr.unwipe tt.lk ew tall) (.bl false)
              | _ => cases hl
theorem Kx.gen (c : Kx X W E (k + 1)) {s : Shared} {H : Hp} {cenv : Env} {fp : List Addr} : Kx (gctx X s H cenv fp) W E0 k :=
  ⟨c.K, c.calm, c.nd, ⟨c.room.hd, by have := c.room.dp; show X.A.depth + 1 + 3 * k + 5 < _; omega, by have := c.room.un; show X.A.units + 1 + 1 + 3 + 16 * k + 200 < _; omega⟩, fun _ _ _ _ _ _ _ h => by
    obtain ⟨_, _, _, _, _, _, _, _, _, _, _, _, z⟩ := h
    exact z⟩
theorem q_all {is vs : List Nat} {c P : Addr} {elt tg iter : Expr} {scope : Scope} {own : List (Str × Nat)} {p pos gpos : Pos} {it : M (List PyData)} {g : AG} {te : M PyData} (cx : Kx X W E (k + 1)) (hg : Gl X "all") (hm : X.mg "all" = none) (TB : GxR.TabB X.base X.mg c P) (hcode : X.env.code = .ref c) (hT : (P, TK.gen) ∈ W.T) (hu : ∀ nm, (P, TK.lam nm) ∉ W.T)
    (hi : PI X tg iter (tI W E it)) (ok : gnC X.N X.env.scope scope own = true) (hvs : own.map (·.2) = vs) (his : (is.all fun i => vs.contains i) = true)
    (hb : ∀ (s : Shared) (H : Hp) (C : Addr) (code : Value) (fp : List Addr), Kx (gctx X s H (gEnv X scope C code) fp) W E0 k → L2.PG (gctx X s H (gEnv X scope C code) fp) tg (tG W is g) ∧ PE (gctx X s H (gEnv X scope C code) fp) elt (tD W E0 te))
    (hs : ∀ v, genFold iter X.env v = pure v := by intro _; rfl) (he : starEach [.GeneratorExp elt [⟨tg, iter, [], 0⟩] scope gpos] X.env = (false, eval (.GeneratorExp elt [⟨tg, iter, [], 0⟩] scope gpos) X.env) :: starEach [] X.env := by rfl) :
    PE X (.Call (.Name "all" p) [.GeneratorExp elt [⟨tg, iter, [], 0⟩] scope gpos] [] pos) (tD W E (allM vs it g te)) := by
  subst hvs
  exact Nb.PE.imp (pe_allG cx.room hg hm TB hcode cx.calm cx.nd (gnOk_by ok) hi (fun s H C code fp => hb s H C code fp cx.gen) hs he) (all_red his hT hu)
end
end Nb

set_option Elab.async false
set_option linter.all false
set_option maxRecDepth 100000
set_option maxHeartbeats 4000000
namespace Nb
open PySem PySem.Spec L2 PyProof.Rows
open Sem (wp)
/-! ### two clauses -/
theorem gturn_out (elt t0 i0 t1 i1 : Expr) (scope : Scope) (pos : Pos) (it acc : Value) (env : Env) :
    compTurn (.GeneratorExp elt [⟨t0, i0, [], 0⟩, ⟨t1, i1, [], 0⟩] scope pos) 0 it acc env = (do
      standAt i0.pos
      match ← pyNext it with
      | none => pure (.done .next)
      | some v =>
        letOwnedTupleGo t0 it v
        assign t0 env v
        let x ← eval i1 env
        standAt i1.pos
        let x ← foldedSetIterable i1 env x
        let _ ← runOwn (.compStart (.GeneratorExp elt [⟨t0, i0, [], 0⟩, ⟨t1, i1, [], 0⟩] scope pos) 1 (← holding [x] (pyIter x)) acc env) env
        again (.compLoop (.GeneratorExp elt [⟨t0, i0, [], 0⟩, ⟨t1, i1, [], 0⟩] scope pos) 0 it acc env)) := by rfl
theorem gturn_in (elt t0 i0 t1 i1 : Expr) (scope : Scope) (pos : Pos) (it acc : Value) (env : Env) :
    compTurn (.GeneratorExp elt [⟨t0, i0, [], 0⟩, ⟨t1, i1, [], 0⟩] scope pos) 1 it acc env = (do
      standAt i1.pos
      match ← pyNext it with
      | none => pure (.done .next)
      | some v =>
        letOwnedTupleGo t1 it v
        assign t1 env v
        (do let v ← eval elt env; standAt elt.pos; let _ ← yieldOut env v)
        again (.compLoop (.GeneratorExp elt [⟨t0, i0, [], 0⟩, ⟨t1, i1, [], 0⟩] scope pos) 1 it acc env)) := by rfl
section
variable {Xg : Cx} {pg pg1 : List (Addr × Obj)} {σ : L2.St} {A : Around} {elt t0 i0 tg1 iter1 : Expr} {scope : Scope} {pos : Pos} {Q : VK}
def innerA (J1 : It) (g1 : TG) (te : TE) (vs1 : List Nat) (σ : L2.St) (Q : VK) (Nx : Hp → Prop) (W1 : Nat → Nat → Hp → Prop) : Prop := ∀ j k H, W1 j k H →
  (J1.stop j H ∧ Nx H) ∨ (J1.go j H ∧ ∃ Nx1 : Hp → Prop, (∀ H', Nx1 H' → ∃ k', k' < k ∧ W1 (j + 1) k' H') ∧ ∀ x H', J1.yld j H x H' → g1 x (wipe σ vs1) H' fun σ3 H5 => wipe σ3 vs1 = wipe σ vs1 ∧ te σ3 H5 fun y H7 =>
    ∃ b, y = .bl b ∧ if b = true then Nx1 H7 else Q (.bl false) H7)
theorem gen_inner {J1 : It} {fp1 : List Addr} {it1 : Addr} {tn1 : Nat → Heap → Prop} {g1 : TG} {te : TE} {vs1 : List Nat} {W1 : Nat → Nat → Hp → Prop} {Nx : Hp → Prop} {fs1 : List Frame} {base : Nat}
    (ov : ∀ it' : Value, A.over (.compLoop (.GeneratorExp elt [⟨t0, i0, [], 0⟩, ⟨tg1, iter1, [], 0⟩] scope pos) 1 it' .none Xg.env) fs1 = Xg.A) (hsp : splitAtGen fs1 = none) (hgu : fs1.any Frame.guarded = false)
    (hc : Xg.calm = true) (hco : Xg.env.scope.isCoroutine = false) (hxe : Xg.xe = fun _ _ => False) (hun : ∀ σ H s, Inv Xg pg1 σ H s → Inv Xg pg σ H s) (f1 : ∀ b ∈ fp1, ∀ H : Hp, H b = none → FpOk Xg pg1 H b)
    (T : Turn Xg.prog Xg.w Xg.K tg1 J1 fp1 it1 tn1) (pgt : L2.PG Xg tg1 g1) (pe : PE Xg elt te) (turn : innerA J1 g1 te vs1 σ Q Nx W1) (Qt : Hp → Prop)
    (hend : ∀ (n : Nat) (s₀ s' : Shared) (H' : Hp), base < n → Inv Xg pg1 (wipe σ vs1) H' s' → Nx H' → Seg (model Xg.prog Xg.w) A (RG1 Xg pg Qt) (YG Xg pg fun H => Q (.bl false) H) n s₀ (.compLoop (.GeneratorExp elt [⟨t0, i0, [], 0⟩, ⟨tg1, iter1, [], 0⟩] scope pos) 1 (.ref it1) .none Xg.env) (leafOf (.ok .next)) fs1 s') :
    ∀ (k j n : Nat) (s₀ s : Shared) (H' : Hp), base + k < n → Inv Xg pg1 (wipe σ vs1) H' s → tn1 j s.heap → (∀ b ∈ fp1, H' b = none) → W1 j k H' →
      Seg (model Xg.prog Xg.w) A (RG1 Xg pg Qt) (YG Xg pg fun H => Q (.bl false) H) n s₀ (.compLoop (.GeneratorExp elt [⟨t0, i0, [], 0⟩, ⟨tg1, iter1, [], 0⟩] scope pos) 1 (.ref it1) .none Xg.env)
        ((model Xg.prog Xg.w).den (.compLoop (.GeneratorExp elt [⟨t0, i0, [], 0⟩, ⟨tg1, iter1, [], 0⟩] scope pos) 1 (.ref it1) .none Xg.env)) fs1 s := by
  intro k
  induction k using Nat.strongRecOn with
  | ind k ih =>
    intro j n s₀ s5 H5 hmn I5 st5 n5 w5
    show Seg _ A _ _ _ s₀ _ ((compTurn (.GeneratorExp elt [⟨t0, i0, [], 0⟩, ⟨tg1, iter1, [], 0⟩] scope pos) 1 (.ref it1) .none Xg.env).onRaise (fun x => do noteFrame x Xg.env; theTreesLotGoes x)) fs1 s5
    rw [gturn_in, Sem.onRaise_eq_wrap]
    refine seg_bind_wrap (wpAny_standAt ?_)
    rcases turn j k H5 w5 with ⟨stop, qq⟩ | ⟨go, Nx1, hNx, step⟩
    · have td := T.done Xg rfl rfl rfl hc j pg1 s5 _ H5 (fun _ _ => False) I5 (fun b hb => f1 b hb H5 (n5 b hb)) st5 stop
      refine seg_bind_wrap ?_
      rw [ov]
      refine thnF td fun r s6 ⟨hr, I6⟩ => ?_
      subst hr
      exact hend n s₀ s6 H5 (by omega) I6 qq
    · have ti := T.item Xg rfl rfl rfl hc j pg1 s5 _ H5 (fun _ _ => False) I5 (fun b hb => f1 b hb H5 (n5 b hb)) st5 go
      refine seg_bind_wrap ?_
      rw [ov]
      refine thnF ti fun r s6 ⟨u, hr, h6⟩ => ?_
      subst hr
      refine seg_bind_wrap ?_
      rw [ov]
      refine thnF h6 fun _ s7 ⟨x, H7, I7, r7, y7, st7, n7⟩ => ?_
      have I7' := I7.pinned (fun b hb => f1 b hb H7 (n7 b hb)) (T.obj _ _ st7)
      refine seg_bind_wrap ?_
      rw [ov]
      have pgr := pgt.run _ s7 _ H7 x u _ I7' r7 (step x H7 y7)
      rw [hxe] at pgr
      refine thnF pgr fun _ s8 ⟨σ8, H8, I8, hw8, q8⟩ => ?_
      have hy : ∀ v, yieldOut Xg.env v = yieldValue v := fun v => by simp only [yieldOut, hco, Bool.false_eq_true, if_false]
      simp only [hy]
      rw [Sem.bind_eq_wrap', Sem.bind_eq_wrap', Sem.wrap_wrap, Sem.wrap_wrap]
      refine seg_wrap ?_
      rw [ov]
      have per := pe.run _ s8 σ8 H8 _ I8 q8
      rw [hxe] at per
      refine thnF per fun y s9 ⟨yv, H9, I9, r9, b, hb, q9⟩ => ?_
      subst hb
      have r9 : y = .bool b := r9
      subst r9
      obtain ⟨n', rfl⟩ : ∃ n', n = n' + 1 := ⟨n - 1, by omega⟩
      have pin' : ∀ b ∈ fp1, ∀ o, s7.heap.get? b = some o → s9.heap.get? b = some o ∧ H9 b = none := fun b hb o e =>
        let z := I9.pin (b, o) (List.mem_append_right _ (List.mem_append_right _ (mem_pinsAt hb e)))
        ⟨z.1, z.2.1⟩
      refine seg_at (seg_yield hsp rfl hgu ⟨b, H9, rfl, ⟨σ8, hun _ _ _ (I9.unpinned (pins := pg1))⟩, ?_⟩)
      cases b with
      | false =>
        simp only [Bool.false_eq_true, if_false] at q9 ⊢
        exact q9
      | true =>
        simp only [if_true] at q9 ⊢
        intro s' hs'
        obtain ⟨m', hm, w'⟩ := hNx H9 q9
        have hl : (wipe σ vs1).length = σ8.length := by rw [← hw8, wipe_length]
        refine seg_again rfl (ih m' hm (j + 1) n' s' s' H9 (by omega) (Inv.same ((I9.unpinned (pins := pg1)).weak hl fun j v e => ?_) hs') ?_ (fun b hb => ?_) w')
        · rw [← hw8] at e
          exact (wipe_some e).1
        · rw [hs'.heap]
          exact T.keep _ _ _ st7 fun b hb o e => (pin' b hb o e).1
        · obtain ⟨o, e, _⟩ := T.obj _ _ st7 b hb
          exact (pin' b hb o e).2
theorem gen_seg1 {J1 : It} {fp1 : List Addr} {it1 : Addr} {tn1 : Nat → Heap → Prop} {R : GenEnd} {Y : Protocol} {n : Nat} {s₀ s : Shared} {fs1 : List Frame}
    (T : Turn Xg.prog Xg.w Xg.K tg1 J1 fp1 it1 tn1) (st : tn1 0 s.heap)
    (loop : Seg (model Xg.prog Xg.w) A R Y n s₀ (.compLoop (.GeneratorExp elt [⟨t0, i0, [], 0⟩, ⟨tg1, iter1, [], 0⟩] scope pos) 1 (.ref it1) .none Xg.env) ((model Xg.prog Xg.w).den (.compLoop (.GeneratorExp elt [⟨t0, i0, [], 0⟩, ⟨tg1, iter1, [], 0⟩] scope pos) 1 (.ref it1) .none Xg.env)) fs1 s) :
    Seg (model Xg.prog Xg.w) A R Y n s₀ (.compStart (.GeneratorExp elt [⟨t0, i0, [], 0⟩, ⟨tg1, iter1, [], 0⟩] scope pos) 1 (.ref it1) .none Xg.env) ((model Xg.prog Xg.w).den (.compStart (.GeneratorExp elt [⟨t0, i0, [], 0⟩, ⟨tg1, iter1, [], 0⟩] scope pos) 1 (.ref it1) .none Xg.env)) fs1 s := by
  show Seg _ A _ _ _ s₀ _ ((compStart (.GeneratorExp elt [⟨t0, i0, [], 0⟩, ⟨tg1, iter1, [], 0⟩] scope pos) 1 (.ref it1) .none Xg.env).onRaise (fun x => do noteFrame x Xg.env; standAt theWindowsPlace)) fs1 s
  unfold compStart
  rw [Sem.onRaise_eq_wrap]
  show Seg _ A _ _ _ s₀ _ ((ask >>= _).wrap _ _ _ _) fs1 s
  refine seg_bind_wrap (wpAny_askSetting ?_)
  split
  · exact seg_again rfl loop
  · first
      | exact seg_bind_wrap (wpAny_rule (seg_bind_wrap (wpAny_standAt (seg_bind_wrap (T.self _ 0 s _ _ st (seg_again rfl loop))))))
      | (refine seg_bind_wrap (wpAny_rule ?_); show Seg _ A _ _ _ s₀ _ ((standAt iter1.pos >>= _).wrap _ _ _ _) fs1 s; exact seg_bind_wrap (wpAny_standAt (seg_bind_wrap (T.self _ 0 s _ _ st (seg_again rfl loop)))))
/-- all(elt for tg in iter for tg1 in iter1); B: the second loop's most turns -/
def turnsA2 (B : Nat) (J : It) (g : TG) (wi1 : TI) (g1 : TG) (te : TE) (vs vs1 : List Nat) (σ : L2.St) (Q : VK) (Wm : Nat → Nat → Hp → Prop) : Prop := ∀ i m H, Wm i m H →
  (J.stop i H ∧ Q (.bl true) H) ∨ (J.go i H ∧ ∃ Nx : Hp → Prop, (∀ H', Nx H' → ∃ m', m' < m ∧ Wm (i + 1) m' H') ∧ ∀ x H', J.yld i H x H' → g x (wipe σ vs) H' fun σ2 H2 => wipe σ2 vs = wipe σ vs ∧
    wi1 σ2 H2 fun J1 H4 => ∃ W1 : Nat → Nat → Hp → Prop, (∃ m, m ≤ B ∧ W1 0 m H4) ∧ innerA J1 g1 te vs1 σ2 Q Nx W1)
theorem gen_loop2 {iter tg : Expr} {J : It} {fp : List Addr} {it : Addr} {tn : Nat → Heap → Prop} {g g1 : TG} {wi1 : TI} {te : TE} {vs vs1 : List Nat} {Wm : Nat → Nat → Hp → Prop} {B : Nat}
    (hA : A.deeper Xg.env = Xg.A) (hc : Xg.calm = true) (hco : Xg.env.scope.isCoroutine = false) (hex : Xg.ex = fp) (hpn : Xg.pn = []) (hxe : Xg.xe = fun _ _ => False) (hfpg : ∀ b ∈ fp, ∀ p ∈ pg, p.1 ≠ b) (hv : ∀ i ∈ vs1, i ∈ vs)
    (T : Turn Xg.prog Xg.w Xg.K tg J fp it tn) (pgt : L2.PG Xg tg g) (pi1 : PI Xg tg1 iter1 wi1) (pgt1 : L2.PG Xg tg1 g1) (pe : PE Xg elt te) (hs1 : ∀ x, foldedSetIterable iter1 Xg.env x = pure x) (turn : turnsA2 B J g wi1 g1 te vs vs1 σ Q Wm) :
    ∀ (m i n : Nat) (s₀ s : Shared) (H' : Hp), (m + 1) * (B + 1) < n → Inv Xg pg (wipe σ vs) H' s → tn i s.heap → (∀ b ∈ fp, H' b = none) → Wm i m H' →
      Seg (model Xg.prog Xg.w) A (RG1 Xg pg (fun H => Q (.bl true) H)) (YG Xg pg (fun H => Q (.bl false) H)) n s₀ (.compLoop (.GeneratorExp elt [⟨tg, iter, [], 0⟩, ⟨tg1, iter1, [], 0⟩] scope pos) 0 (.ref it) .none Xg.env)
        ((model Xg.prog Xg.w).den (.compLoop (.GeneratorExp elt [⟨tg, iter, [], 0⟩, ⟨tg1, iter1, [], 0⟩] scope pos) 0 (.ref it) .none Xg.env)) [] s := by
  have stat : ∀ {σ' : L2.St} {H' : Hp} {s' : Shared}, Inv Xg pg σ' H' s' → (∀ b ∈ fp, H' b = none) → ∀ b ∈ fp, FpOk Xg pg H' b := fun {σ' H' s'} I' hn b hb =>
    ⟨hn b hb, (I'.ok.exf b (hex ▸ hb)).1, I'.ok.exfs b (hex ▸ hb), .inl (hex ▸ hb), fun x c e => (I'.ok.exf b (hex ▸ hb)).2 x c e, fun p hp => by
      rw [hpn, List.nil_append] at hp
      exact hfpg b hb p hp⟩
  have ov : ∀ {it' : Value}, A.over (.compLoop (.GeneratorExp elt [⟨tg, iter, [], 0⟩, ⟨tg1, iter1, [], 0⟩] scope pos) 0 it' .none Xg.env) [] = Xg.A := fun {it'} => over_gen.trans hA
  intro m
  induction m using Nat.strongRecOn with
  | ind m ih =>
    intro i n s₀ s5 H5 hmn I5 st5 n5 w5
    show Seg _ A _ _ _ s₀ _ ((compTurn (.GeneratorExp elt [⟨tg, iter, [], 0⟩, ⟨tg1, iter1, [], 0⟩] scope pos) 0 (.ref it) .none Xg.env).onRaise (leaving Xg.env)) [] s5
    rw [gturn_out, Sem.onRaise_eq_wrap]
    refine seg_bind_wrap (wpAny_standAt ?_)
    rcases turn i m H5 w5 with ⟨stop, qq⟩ | ⟨go, Nx, hNx, step⟩
    · have td := T.done Xg rfl rfl rfl hc i pg s5 _ H5 (fun _ _ => False) I5 (stat I5 n5) st5 stop
      refine seg_bind_wrap ?_
      rw [ov]
      refine thnF td fun r s6 ⟨hr, I6⟩ => ?_
      subst hr
      exact seg_end (.ok .next) ⟨rfl, _, _, I6, qq⟩
    · have ti := T.item Xg rfl rfl rfl hc i pg s5 _ H5 (fun _ _ => False) I5 (stat I5 n5) st5 go
      refine seg_bind_wrap ?_
      rw [ov]
      refine thnF ti fun r s6 ⟨u, hr, h6⟩ => ?_
      subst hr
      refine seg_bind_wrap ?_
      rw [ov]
      refine thnF h6 fun _ s7 ⟨x, H7, I7, r7, y7, st7, n7⟩ => ?_
      have I7' := I7.pinned (stat I7 n7) (T.obj _ _ st7)
      refine seg_bind_wrap ?_
      rw [ov]
      have pgr := pgt.run _ s7 _ H7 x u _ I7' r7 (step x H7 y7)
      rw [hxe] at pgr
      refine thnF pgr fun _ s8 ⟨σ8, H8, I8, hw8, q8⟩ => ?_
      refine seg_bind_wrap ?_
      rw [ov]
      have pir := pi1.run _ s8 σ8 H8 _ I8 q8
      rw [hxe] at pir
      refine thnF pir fun xv s9 hx => ?_
      refine seg_bind_wrap (wpAny_standAt ?_)
      refine seg_bind_wrap (wpAny_of_eq (hs1 xv) ?_)
      refine seg_bind_wrap (wpAny_holding ?_)
      rw [ov]
      refine thnF hx fun itv s11 h11 => ?_
      obtain ⟨it1, fp1, tn1, J1, H11, e1, I11, T1, st11, f11, W1, ⟨m1, hB, w1⟩, turn1⟩ := h11
      subst e1
      refine seg_call fun p => ?_
      have hlt : m * (B + 1) + m1 < n := by
        rw [Nat.succ_mul] at hmn
        omega
      refine gen_seg1 T1 st11 (gen_inner (pg := pg) (base := m * (B + 1)) (W1 := W1) (Nx := Nx) (vs1 := vs1) (σ := σ8) (g1 := g1) (te := te) (fun it' => (GenW.over_loop rfl rfl).trans ov) rfl rfl hc hco hxe (fun σ H s I => I.unpinned (pins := pg)) (fun b hb H hn => ⟨hn, (f11 b hb).2⟩) T1 pgt1 pe turn1 (fun H => Q (.bl true) H) (fun n' s₀' s' H' hn' I' nx => ?_)
        m1 0 n s₀ s11 H11 hlt (I11.weak (wipe_length _ _) fun j v e => (wipe_some e).1) st11 (fun b hb => (f11 b hb).1) w1)
      refine seg_leaf (.ok .next) ?_
      obtain ⟨m', hm, w'⟩ := hNx H' nx
      have pin' : ∀ b ∈ fp, ∀ o, s7.heap.get? b = some o → s'.heap.get? b = some o ∧ H' b = none := fun b hb o e =>
        let z := I'.pin (b, o) (List.mem_append_right _ (List.mem_append_right _ (mem_pinsAt hb e)))
        ⟨z.1, z.2.1⟩
      have hl8 : (wipe σ vs).length = (wipe σ8 vs1).length := by rw [← hw8, wipe_length, wipe_length]
      have hk9 : ∀ (j : Nat) v, (wipe σ vs)[j]? = some (some v) → (wipe σ8 vs1)[j]? = some (some v) := fun j v e => by
        rw [← hw8] at e
        obtain ⟨e1, e2⟩ := wipe_some e
        rw [wipe_out fun z => e2 (hv j z)]
        exact e1
      refine seg_again rfl (ih m' hm (i + 1) n' s₀' s' H' ?_ ((I'.unpinned (pins := pg)).weak hl8 hk9) (T.keep _ _ _ st7 fun b hb o e => (pin' b hb o e).1) (fun b hb => ?_) w')
      · exact Nat.lt_of_le_of_lt (Nat.mul_le_mul_right _ hm) hn'
      · obtain ⟨o, e, _⟩ := T.obj _ _ st7 b hb
        exact (pin' b hb o e).2
end
section
variable {X : Cx}
def RAll2 (B : Nat) (g : TG) (wi1 : TI) (g1 : TG) (te : TE) (vs vs1 : List Nat) (σ : L2.St) (Q : VK) (J : It) (H : Hp) : Prop := ∃ Wm : Nat → Nat → Hp → Prop, (∃ m, Wm 0 m H) ∧ turnsA2 B J g wi1 g1 te vs vs1 σ Q Wm
def tAllG2 (B : Nat) (P : Addr) (wi : TI) (g : TG) (wi1 : TI) (g1 : TG) (te : TE) (vs vs1 : List Nat) : TE := fun σ H Q => wi σ H fun J H1 => GxR.TabG H1 P ∧ ∀ H2, GxR.Tabbed P H1 H2 → RAll2 B g wi1 g1 te vs vs1 σ Q J H2
theorem pe_allG2 {c P : Addr} {elt tg iter tg1 iter1 : Expr} {scope : Scope} {own : List (Str × Nat)} {vs1 : List Nat} {p pos gpos : Pos} {wi wi1 : TI} {g g1 : TG} {te : TE} {k B : Nat}
    (hr : Room k X.A) (hg : Gl X "all") (hm : X.mg "all" = none) (TB : GxR.TabB X.base X.mg c P) (hcode : X.env.code = .ref c) (hc : X.calm = true) (hN : X.N.Nodup) (ok : GnOk X.N X.env.scope scope own) (hv : ∀ i ∈ vs1, i ∈ own.map (fun x : Str × Nat => x.2)) (hi : PI X tg iter wi)
    (hb : ∀ (s : Shared) (H : Hp) (C : Addr) (code : Value) (fp : List Addr), L2.PG (gctx X s H (gEnv X scope C code) fp) tg g ∧ PI (gctx X s H (gEnv X scope C code) fp) tg1 iter1 wi1 ∧ L2.PG (gctx X s H (gEnv X scope C code) fp) tg1 g1 ∧ PE (gctx X s H (gEnv X scope C code) fp) elt te)
    (hs : ∀ v, genFold iter X.env v = pure v := by intro _; rfl) (hs1 : ∀ env x, foldedSetIterable iter1 env x = pure x := by intro _ _; rfl) (he : starEach [.GeneratorExp elt [⟨tg, iter, [], 0⟩, ⟨tg1, iter1, [], 0⟩] scope gpos] X.env = (false, eval (.GeneratorExp elt [⟨tg, iter, [], 0⟩, ⟨tg1, iter1, [], 0⟩] scope gpos) X.env) :: starEach [] X.env := by rfl) :
    PE X (.Call (.Name "all" p) [.GeneratorExp elt [⟨tg, iter, [], 0⟩, ⟨tg1, iter1, [], 0⟩] scope gpos] [] pos) (tAllG2 B P wi g wi1 g1 te (own.map (fun x : Str × Nat => x.2)) vs1) := by
  refine ⟨fun pins s σ H Q I h => gen_all (own := own) (R := RAll2 B g wi1 g1 te (own.map (fun x : Str × Nat => x.2)) vs1 σ Q) hr hg hm TB hcode hc hN ok hi hs I h he fun s3 H3 code fp it a gobj tn J ⟨Wm, ⟨m, hm0⟩, turn⟩ T nfp nA => ⟨(m + 1) * (B + 1) + 1, fun s' I' st => ?_⟩⟩
  obtain ⟨hpg, hpi1, hpg1, hpe⟩ := hb s3 H3 s3.heap.objs.size code fp
  exact gen_seg (Xg := gctx X s3 H3 (gEnv X scope s3.heap.objs.size code) fp) T st (gen_loop2 (Xg := gctx X s3 H3 (gEnv X scope s3.heap.objs.size code) fp) rfl hc ok.co rfl rfl rfl nA hv T hpg hpi1 hpg1 hpe (hs1 _) turn m 0 ((m + 1) * (B + 1) + 1) s' s' H3 (Nat.lt_succ_self _) I' st nfp hm0)
end
end Nb

set_option Elab.async false
set_option linter.all false
set_option maxRecDepth 100000
set_option maxHeartbeats 4000000
namespace Nb
open PySem PySem.Spec L2 PyProof.Rows
/-- all(te for g in .. for g1 in ..) -/
def all2Loop (vs vs1 : List Nat) (g : AG) (it1 : M (List PyData)) (g1 : AG) (te : M PyData) : List PyData → List SV → Option (Bool × List SV)
  | [], ρ => some (true, ρ)
  | x :: xs, ρ => match g x ρ with
    | none => none
    | some ρ1 => match it1 ρ1 with
      | .ok xs1 ρ2 => if xs1.length ≤ sizeLine then match wipeR vs1 ρ2 with
        | some ρ3 => match allLoop vs1 g1 te xs1 ρ3 with
          | some (b, ρ4) => match wipeR vs ρ4 with
            | some ρ5 => if b = true then all2Loop vs vs1 g it1 g1 te xs ρ5 else some (false, ρ5)
            | none => none
          | none => none
        | none => none
        else none
      | _ => none
def all2M (vs vs1 : List Nat) (it : M (List PyData)) (g : AG) (it1 : M (List PyData)) (g1 : AG) (te : M PyData) : M PyData := M.bind it fun xs ρ => match wipeR vs ρ with
  | none => .fail
  | some ρ1 => match all2Loop vs vs1 g it1 g1 te xs ρ1 with
    | some (b, ρ2) => .ok (.bool b) (unAll vs ρ2)
    | none => .fail
section
variable {X : Cx} {W : Wd} {E : XK} {k : Nat}
theorem all_turns {is vs : List Nat} {g : AG} {te : M PyData} {J : It} {xs : List PyData} {rb : Bool} {ρb ρ1 ρr : List SV} {σb σ : L2.St} {Gb Hb G1 H1 : Hp} {Nx : Hp → Prop} {Q : VK} (his : (is.all fun i => vs.contains i) = true)
    (t0 : Tr W ρb σb Gb Hb ρ1 (L2.wipe σ vs) G1 H1) (j : Jok W G1 xs J) (el : allLoop vs g te xs ρ1 = some (rb, ρr))
    (hT : rb = true → ∀ G' H', Tr W ρb σb Gb Hb ρr (L2.wipe σ vs) G' H' → Nx H') (hF : rb = false → ∀ G' H', Tr W ρb σb Gb Hb ρr (L2.wipe σ vs) G' H' → Q (.bl false) H') :
    ∃ W1 : Nat → Nat → Hp → Prop, (∃ m, m ≤ xs.length ∧ W1 0 m H1) ∧ innerA J (tG W is g) (tD W E0 te) vs σ Q Nx W1 := by
  refine ⟨fun i m H' => ∃ G' ρ', Tr W ρb σb Gb Hb ρ' (L2.wipe σ vs) G' H' ∧ Sub G1 G' ∧ m + i = xs.length ∧ allLoop vs g te (xs.drop i) ρ' = some (rb, ρr), ⟨xs.length, Nat.le_refl _, G1, ρ1, t0, fun _ _ z => z, rfl, el⟩, fun i m H' ⟨G', ρ', t, s1, hm, hl⟩ => ?_⟩
  have l' := t.lk
  cases hd : xs.drop i with
  | nil =>
    rw [hd] at hl
    cases hl
    exact .inl ⟨j.stop G' H' i s1 l'.sub (by have := congrArg List.length hd; simp at this; omega), hT rfl G' H' t⟩
  | cons x r =>
    rw [hd] at hl
    have hlt : i < xs.length := by
      have := congrArg List.length hd
      simp at this
      omega
    have ex : xs[i]? = some x := by
      have := congrArg (fun z => z[0]?) hd
      simpa using this
    have er : xs.drop (i + 1) = r := by
      have := congrArg List.tail hd
      simpa [List.tail_drop] using this
    refine .inr ⟨j.go G' H' i s1 l'.sub hlt, fun H3 => ∃ G' ρ', Tr W ρb σb Gb Hb ρ' (L2.wipe σ vs) G' H3 ∧ Sub G1 G' ∧ allLoop vs g te (xs.drop (i + 1)) ρ' = some (rb, ρr),
      fun H3 ⟨G', ρ', b1, b0, b6⟩ => ⟨m - 1, by omega, G', ρ', b1, b0, by omega, b6⟩, fun v H3 y => ?_⟩
    obtain ⟨G2, t2, dv, keep⟩ := yld_go j s1 l' ex y
    unfold allLoop at hl
    cases eg : g x ρ' with
    | none => rw [eg] at hl; cases hl
    | some ρ2 =>
      rw [eg] at hl
      simp only at hl
      refine ⟨G2, ρ', x, ρ2, t2.lk, dv, eg, fun σ3 G3 t3 on => ?_⟩
      have hw : L2.wipe σ3 vs = L2.wipe σ vs := wipe_only on (fun i hi => by have := (List.all_eq_true.mp his) i hi; simpa using this) |>.trans (wipe_wipe σ vs)
      refine ⟨hw, G3, ρ2, t3.lk, ?_⟩
      cases et : te ρ2 with
      | fail => rw [et] at hl; cases hl
      | exn cc => rw [et] at hl; cases hl
      | ok d ρ3 =>
        rw [et] at hl
        cases d with
        | bool b =>
          simp only at hl
          intro yv G4 H4 t4 dq
          cases dq
          refine ⟨b, rfl, ?_⟩
          cases ew4 : wipeR vs ρ3 with
          | none => rw [ew4] at hl; cases hl
          | some ρ4 =>
            rw [ew4] at hl
            have t5 := Tr.wipe t4.lk ew4
            rw [hw] at t5
            have tall := t.trans (t2.trans (t3.trans (t4.trans t5)))
            cases b with
            | true =>
              simp only [if_true] at hl ⊢
              exact ⟨G4, ρ4, tall, fun b o e => t4.fr.gsub b o (t3.fr.gsub b o (t2.fr.gsub b o (s1 b o e))), by rw [er]; exact hl⟩
            | false =>
              simp only [Bool.false_eq_true, if_false] at hl ⊢
              cases hl
              exact hF rfl G4 H4 tall
        | _ => cases hl
theorem all2_red {is is1 vs vs1 : List Nat} {it it1 : M (List PyData)} {g g1 : AG} {te : M PyData} {P : Addr} (his : (is.all fun i => vs.contains i) = true) (his1 : (is1.all fun i => vs1.contains i) = true) (hv : ∀ i ∈ vs1, i ∈ vs) (hT : (P, TK.gen) ∈ W.T) (hu : ∀ nm, (P, TK.lam nm) ∉ W.T) :
    ∀ σ H Q, tD W E (all2M vs vs1 it g it1 g1 te) σ H Q → tAllG2 sizeLine P (tI W E it) (tG W is g) (tI W E0 it1) (tG W is1 g1) (tD W E0 te) vs vs1 σ H Q := by
  intro σ H Q ⟨G, ρ, l, h⟩
  refine ⟨G, ρ, l, ?_⟩
  unfold all2M M.bind at h
  cases e : it ρ with
  | fail => rw [e] at h; exact h
  | exn cc => rw [e] at h; exact h
  | ok xs ρ0 =>
    rw [e] at h
    intro J G1 H1 a j
    have h := GoD.shift (r := _) h a
    refine ⟨a.lk.tabs _ hT, fun H2 htab => ?_⟩
    have tt := tab_tr a.lk (a.lk.tabs _ hT) htab hu
    have h := GoD.shift (r := _) h tt
    cases ew : wipeR vs ρ0 with
    | none => simp only [Res.bind, ew] at h; exact h.elim
    | some ρ1 =>
      simp only [Res.bind, ew] at h
      cases el : all2Loop vs vs1 g it1 g1 te xs ρ1 with
      | none => simp only [el] at h; exact h.elim
      | some r =>
        obtain ⟨rb, ρr⟩ := r
        simp only [el] at h
        have lw : Lk W G1 H2 ρ1 (L2.wipe σ vs) := (Tr.wipe tt.lk ew).lk
        refine ⟨fun i m H' => ∃ G' ρ', Tr W ρ1 (L2.wipe σ vs) G1 H2 ρ' (L2.wipe σ vs) G' H' ∧ m + i = xs.length ∧ all2Loop vs vs1 g it1 g1 te (xs.drop i) ρ' = some (rb, ρr), ⟨xs.length, G1, ρ1, Tr.refl lw, rfl, el⟩, fun i m H' ⟨G', ρ', t, hm, hl⟩ => ?_⟩
        have l' := t.lk
        have s1 : Sub G1 G' := t.fr.gsub
        cases hd : xs.drop i with
        | nil =>
          rw [hd] at hl
          cases hl
          refine .inl ⟨j.stop G' H' i s1 l'.sub (by have := congrArg List.length hd; simp at this; omega), ?_⟩
          exact h (.bl true) G' H' (Tr.unwipe tt.lk ew t) (.bl true)
        | cons x r =>
          rw [hd] at hl
          have hlt : i < xs.length := by
            have := congrArg List.length hd
            simp at this
            omega
          have ex : xs[i]? = some x := by
            have := congrArg (fun z => z[0]?) hd
            simpa using this
          have er : xs.drop (i + 1) = r := by
            have := congrArg List.tail hd
            simpa [List.tail_drop] using this
          refine .inr ⟨j.go G' H' i s1 l'.sub hlt, fun H3 => ∃ G' ρ', Tr W ρ1 (L2.wipe σ vs) G1 H2 ρ' (L2.wipe σ vs) G' H3 ∧ all2Loop vs vs1 g it1 g1 te (xs.drop (i + 1)) ρ' = some (rb, ρr),
            fun H3 ⟨G', ρ', b1, b6⟩ => ⟨m - 1, by omega, G', ρ', b1, by omega, b6⟩, fun v H3 y => ?_⟩
          obtain ⟨G2, t2, dv, keep⟩ := yld_go j s1 l' ex y
          unfold all2Loop at hl
          cases eg : g x ρ' with
          | none => rw [eg] at hl; cases hl
          | some ρ2 =>
            rw [eg] at hl
            simp only at hl
            refine ⟨G2, ρ', x, ρ2, t2.lk, dv, eg, fun σ3 G3 t3 on => ?_⟩
            have hw : L2.wipe σ3 vs = L2.wipe σ vs := wipe_only on (fun i hi => by have := (List.all_eq_true.mp his) i hi; simpa using this) |>.trans (wipe_wipe σ vs)
            refine ⟨hw, G3, ρ2, t3.lk, ?_⟩
            cases e1 : it1 ρ2 with
            | fail => rw [e1] at hl; cases hl
            | exn cc => rw [e1] at hl; cases hl
            | ok xs1 ρ3 =>
              rw [e1] at hl
              simp only at hl
              intro J1 G4 H4 t4 j1
              split at hl
              case isFalse => cases hl
              case isTrue hz =>
                cases ew4 : wipeR vs1 ρ3 with
                | none => rw [ew4] at hl; cases hl
                | some ρ4 =>
                  rw [ew4] at hl
                  simp only at hl
                  cases el1 : allLoop vs1 g1 te xs1 ρ4 with
                  | none => rw [el1] at hl; cases hl
                  | some r1 =>
                    obtain ⟨b, ρ5⟩ := r1
                    rw [el1] at hl
                    simp only at hl
                    cases ew5 : wipeR vs ρ5 with
                    | none => rw [ew5] at hl; cases hl
                    | some ρ6 =>
                      rw [ew5] at hl
                      simp only at hl
                      have t5 := Tr.wipe t4.lk ew4
                      have tall := t.trans (t2.trans (t3.trans (t4.trans t5)))
                      have fin : ∀ G' H', Tr W ρ1 (L2.wipe σ vs) G1 H2 ρ5 (L2.wipe σ3 vs1) G' H' → Tr W ρ1 (L2.wipe σ vs) G1 H2 ρ6 (L2.wipe σ vs) G' H' := fun G' H' a' => by
                        have t7 := Tr.wipe a'.lk ew5
                        rw [wipe_sub hw hv] at t7
                        exact a'.trans t7
                      obtain ⟨W1, ⟨m1, hm1, w1⟩, hin⟩ := all_turns (W := W) (is := is1) (Q := Q) (Nx := fun H3 => ∃ G' ρ', Tr W ρ1 (L2.wipe σ vs) G1 H2 ρ' (L2.wipe σ vs) G' H3 ∧ all2Loop vs vs1 g it1 g1 te (xs.drop (i + 1)) ρ' = some (rb, ρr)) his1 tall j1 el1 (fun hb G' H' a' => by
                          subst hb
                          simp only [if_true] at hl
                          exact ⟨G', ρ6, fin G' H' a', by rw [er]; exact hl⟩) (fun hb G' H' a' => by
                          subst hb
                          simp only [Bool.false_eq_true, if_false] at hl
                          cases hl
                          exact h (.bl false) G' H' (Tr.unwipe tt.lk ew (fin G' H' a')) (.bl false))
                      exact ⟨W1, ⟨m1, Nat.le_trans hm1 hz, w1⟩, hin⟩
theorem q_all2 {is is1 vs vs1 : List Nat} {c P : Addr} {elt tg iter tg1 iter1 : Expr} {scope : Scope} {own : List (Str × Nat)} {p pos gpos : Pos} {it it1 : M (List PyData)} {g g1 : AG} {te : M PyData} (cx : Kx X W E (k + 1)) (hg : Gl X "all") (hm : X.mg "all" = none) (TB : GxR.TabB X.base X.mg c P) (hcode : X.env.code = .ref c) (hT : (P, TK.gen) ∈ W.T) (hu : ∀ nm, (P, TK.lam nm) ∉ W.T)
    (hi : PI X tg iter (tI W E it)) (ok : gnC X.N X.env.scope scope own = true) (hvs : own.map (fun x : Str × Nat => x.2) = vs) (his : (is.all fun i => vs.contains i) = true) (his1 : (is1.all fun i => vs1.contains i) = true) (hv : ∀ i ∈ vs1, i ∈ vs)
    (hb : ∀ (s : Shared) (H : Hp) (C : Addr) (code : Value) (fp : List Addr), Kx (gctx X s H (gEnv X scope C code) fp) W E0 k → L2.PG (gctx X s H (gEnv X scope C code) fp) tg (tG W is g) ∧ PI (gctx X s H (gEnv X scope C code) fp) tg1 iter1 (tI W E0 it1) ∧ L2.PG (gctx X s H (gEnv X scope C code) fp) tg1 (tG W is1 g1) ∧ PE (gctx X s H (gEnv X scope C code) fp) elt (tD W E0 te))
    (hs : ∀ v, genFold iter X.env v = pure v := by intro _; rfl) (hs1 : ∀ env x, foldedSetIterable iter1 env x = pure x := by intro _ _; rfl) (he : starEach [.GeneratorExp elt [⟨tg, iter, [], 0⟩, ⟨tg1, iter1, [], 0⟩] scope gpos] X.env = (false, eval (.GeneratorExp elt [⟨tg, iter, [], 0⟩, ⟨tg1, iter1, [], 0⟩] scope gpos) X.env) :: starEach [] X.env := by rfl) :
    PE X (.Call (.Name "all" p) [.GeneratorExp elt [⟨tg, iter, [], 0⟩, ⟨tg1, iter1, [], 0⟩] scope gpos] [] pos) (tD W E (all2M vs vs1 it g it1 g1 te)) := by
  subst hvs
  exact Nb.PE.imp (pe_allG2 (B := sizeLine) cx.room hg hm TB hcode cx.calm cx.nd (gnOk_by ok) hv hi (fun s H C code fp => hb s H C code fp cx.gen) hs hs1 he) (all2_red his his1 hv hT hu)
end
end Nb

set_option Elab.async false
set_option linter.all false
set_option maxRecDepth 100000
set_option maxHeartbeats 4000000
namespace Nb
open PySem PySem.Spec L2 PyProof.Rows
open Sem (wp)
/-! ### lambdas: making -/
section
variable {X : Cx} {pins : List (Addr × Obj)} {σ : L2.St} {H : Hp} {s : Shared}
/-- what the making changed: nothing, or the table grew by one code object -/
def Made (P : Addr) (q : Str) (H H1 : Hp) : Prop := H1 = H ∨ ∃ (ps more : Array Value) (c' : Addr), H P = some (.tbl ps) ∧ H c' = none ∧ H1 = upd (upd H P (.tbl (ps ++ more))) c' (LamX.CodeO c' q)
theorem lam_make3 {c P : Addr} {params : Arguments} {body : Expr} {scope : Scope} {pos : Pos} {E : Value → Shared → Prop} {Q : Value → Shared → Prop} (I : Inv X pins σ H s) (TB : GxR.TabB X.base X.mg c P) (hcode : X.env.code = .ref c)
    (hT : LamX.TabS H P (X.env.qual ++ "<lambda>")) (hdef : defaultsOf params X.env = ([], [])) (hfree : ∀ y ∈ scope.names, y.2 = .free → ∃ c, X.env.cells.lookup y.1 = some c)
    (h : ∀ (f c' : Addr) (pm ctv : Value) (H1 : Hp) (s' : Shared), Inv X pins σ H1 s' → Made P (X.env.qual ++ "<lambda>") H H1 → LamX.TabS H1 P (X.env.qual ++ "<lambda>") →
      s'.heap.get? f = some (PySem.W.kla_obj "<lambda>" (X.env.qual ++ "<lambda>") params body scope (cloFrom X.env.cells scope.names []) pm c' ctv) → H1 f = none → f ∉ frs X.stack → H1 c' = some (LamX.CodeO c' (X.env.qual ++ "<lambda>")) → Q (.ref f) s') :
    wpAny (model X.prog X.w) X.A (eval (.Lambda params body scope pos) X.env) Q E s := by
  obtain ⟨ps, hP, ht, ha⟩ := hT
  refine PySem.W.kla_eval hdef ?_
  have bP : s.heap.BuiltinsAt X.mg P := TB.bm.keeps I.bk
  have hP' : s.heap.get? P = some { cls := .none, data := .fields ps } := I.hok P _ hP
  have nofr : ∀ f, s.heap.objs.size ≤ f → f ∉ frs X.stack := fun f hf z => by
    rcases List.mem_cons.mp (I.stkSub _ z) with e | e
    · have h1 := I.lt
      rw [← e] at h1
      exact Nat.lt_irrefl _ (Nat.lt_of_lt_of_le h1 hf)
    · exact I.nofs hf e
  cases hc : codeAmong pos ps.toList with
  | none =>
    refine PySem.W.kla_makeFunction (mg := X.mg) (c := c) (P := P) (ps := ps) (closure_ok hfree) I.ok.glob (I.mod.glob.keeps I.bk) hcode (TB.code.keeps I.bk) hP' ht hc TB.gP bP fun c' ctv h' tk hx hge hlt hrec htb => ?_
    obtain ⟨c2, oc, vs, t, e2, hoc, hd, hv⟩ := hrec
    cases e2
    have hsz : s.heap.objs.size ≤ h'.objs.size := Nat.le_trans hge (Nat.le_of_lt hlt)
    have nC : H c' = none := I.hok.fresh hge
    have I1 := LamX.inv_table (t' := tk) (more := #[rawInt pos.line, rawInt pos.col, .ref c']) (h' := h'.push (PySem.W.kla_obj "<lambda>" (X.env.qual ++ "<lambda>") params body scope (cloFrom X.env.cells scope.names []) ((X.mg "__name__").getD .none) c' ctv)) I hP
      (fun b o hb e => Heap.get?_push_of_some _ (hx b o hb e)) (Heap.get?_push_of_some _ htb) hge ⟨oc, vs, t, Heap.get?_push_of_some _ hoc, hd, hv⟩
    have hE : LamX.ExtN H (upd (upd H P (.tbl (ps ++ #[rawInt pos.line, rawInt pos.col, .ref c']))) c' (LamX.CodeO c' (X.env.qual ++ "<lambda>"))) := fun b o e n => by
      rw [upd_ne (ne_of_none e nC), upd_ne (fun z => n ps (Option.some.inj (e.symm.trans (by rw [z]; exact hP))))]
      exact e
    have eL : (ps ++ #[rawInt pos.line, rawInt pos.col, .ref c']).toList = ps.toList ++ [rawInt pos.line, rawInt pos.col, .ref c'] := by simp
    refine h h'.objs.size c' ((X.mg "__name__").getD .none) ctv _ _ I1 (.inr ⟨ps, _, c', hP, nC, rfl⟩) ?_ (Heap.get?_push_size _ rfl) ?_ (nofr _ hsz) upd_same
    · refine ⟨_, by rw [upd_ne (ne_of_none hP nC), upd_same], by rw [eL]; exact PySem.TriplesOk_snoc _ _ _ _ ht, fun p' cv hcv => ?_⟩
      rw [eL] at hcv
      rcases LamX.among_app _ ht hcv with z | z
      · obtain ⟨c0, e1, e2⟩ := ha p' cv z
        exact ⟨c0, e1, hE _ _ e2 LamX.codeO_ne⟩
      · exact ⟨c', z, upd_same⟩
    · have n1 : h'.objs.size ≠ c' := Nat.ne_of_gt hlt
      have n2 : h'.objs.size ≠ P := Nat.ne_of_gt (Nat.lt_of_lt_of_le (Heap.lt_size hP') hsz)
      rw [upd_ne n1, upd_ne n2]
      exact I.hok.fresh hsz
  | some cv =>
    obtain ⟨c', e, hco⟩ := ha pos cv hc
    subst e
    refine PySem.W.kla_makeFunctionHit (mg := X.mg) (c := c) (P := P) (ps := ps) (closure_ok hfree) I.ok.glob (I.mod.glob.keeps I.bk) hcode (TB.code.keeps I.bk) hP' ht hc bP fun ctv h' tk hx hsz => ?_
    have I1 : Inv X pins σ H { s with heap := h'.push (PySem.W.kla_obj "<lambda>" (X.env.qual ++ "<lambda>") params body scope (cloFrom X.env.cells scope.names []) ((X.mg "__name__").getD .none) c' ctv), toks := tk } := I.kept fun b o e => Heap.get?_push_of_some _ (hx b o e)
    exact h h'.objs.size c' ((X.mg "__name__").getD .none) ctv H _ I1 (.inl rfl) ⟨ps, hP, ht, ha⟩ (Heap.get?_push_size _ rfl) (I.hok.fresh hsz) (nofr _ hsz) hco
/-! ### the lambda's frame -/
abbrev lmEnv (X : Cx) (scope : Scope) (L f c' : Addr) : Env := newEnv scope L mainGlobals (cellsFrom (L + 1) scope.names (cloFrom X.env.cells scope.names [])) (X.env.qual ++ "<lambda>" ++ ".<locals>.") (some f) (.ref c') none builtinsNs
def lmCx (X : Cx) (A : Around) (outer : List Env) (s : Shared) (H : Hp) (scope : Scope) (f c' : Addr) : Cx where
  prog := X.prog
  w := X.w
  K := X.K
  mg := X.mg
  base := X.base
  A := A.deeper (lmEnv X scope s.heap.objs.size f c')
  N := X.N
  s_0 := s
  H_0 := H
  env := lmEnv X scope s.heap.objs.size f c'
  outer := outer
  stack := lmEnv X scope s.heap.objs.size f c' :: outer
  ex := []
  fn := fun x => scope.names.lookup x == some .cell
  calm := true
  pn := []
  xe := fun _ _ => False
theorem lam_start3 {HZ : Hp} {s1 : Shared} {A : Around} {outer : List Env} {scope : Scope} {own : List (Str × Nat)} {f c' : Addr} (I : Inv X pins σ H s) (ok : BlkOk X.N X.env.scope scope own) (hN : X.N.Nodup) (e0 : Env0 X.prog X.w X.K X.mg X.base A outer s1 HZ) (hd : A.handled = none)
    (un : Un (frs X.stack) [] H HZ s.heap s1.heap) :
    Inv (lmCx X A outer s1 HZ scope f c') [] (wipe σ (own.map (·.2))) HZ { s1 with heap := pushCells (s1.heap.push { cls := .type "frame", data := .dict #[] }) scope.names } := by
  have hfree : ∀ y ∈ scope.names, y.2 = .free → ∃ c, X.env.cells.lookup y.1 = some c := fun y hy e => by
    rcases ok.free y hy e with k | k
    · exact I.ok.has _ (.inl k)
    · exact I.ok.has _ (.inr k)
  have cellK : ∀ {c : Addr} {v : Option Value}, H c = none → s.heap.IsCell c v → s1.heap.IsCell c v := fun {c v} n ⟨o, ho, hd⟩ => by
    obtain ⟨sl, q⟩ := un.any ho n (by simp)
    exact ⟨_, q, hd⟩
  have cellZ : ∀ {y c}, X.env.cells.lookup y = some c → HZ c = none := fun {y c} e => by
    obtain ⟨v, o, ho, hd⟩ := I.cell y c e
    exact un.free c o ho (I.freeC y c e) (by simp)
  generalize hcenv : lmEnv X scope s1.heap.objs.size f c' = cenv
  have kp : ∀ b o, s1.heap.get? b = some o → (pushCells (s1.heap.push { cls := .type "frame", data := .dict #[] }) scope.names).get? b = some o := fun b o e => pushCells_keeps _ _ _ _ (Heap.get?_push_of_some _ e)
  have hL : cenv.locals = s1.heap.objs.size := by rw [← hcenv]; rfl
  have hcl : cenv.cells = cellsFrom (s1.heap.objs.size + 1) scope.names (cloFrom X.env.cells scope.names []) := by rw [← hcenv]; rfl
  have hsc : cenv.scope = scope := by rw [← hcenv]; rfl
  have hfr0 : cenv.frame = some cenv.locals := by rw [← hcenv]; rfl
  rw [← Heap.size_push s1.heap { cls := .type "frame", data := .dict #[] }] at hcl
  have cm : ∀ {y c}, (y, c) ∈ cloFrom X.env.cells scope.names [] → X.env.cells.lookup y = some c ∧ c < s1.heap.objs.size := fun {y c} hm => by
    rcases cloFrom_mem hm with hm | ⟨h1, rfl⟩
    · cases hm
    · obtain ⟨c, hc⟩ := hfree _ h1 rfl
      rw [hc]
      obtain ⟨w, z⟩ := I.cell _ _ hc
      exact ⟨rfl, (cellK (I.freeC _ _ hc) z).lt⟩
  have mem : ∀ {y c}, cenv.cells.lookup y = some c → (X.env.cells.lookup y = some c ∧ c < s1.heap.objs.size) ∨ (s1.heap.objs.size + 1 ≤ c ∧ CellAt (pushCells (s1.heap.push { cls := .type "frame", data := .dict #[] }) scope.names) c none) := fun {y c} e => by
    rw [hcl] at e
    rcases cells_mem (PySem.mem_of_lookup e) with hm | ⟨_, h2, h3⟩
    · exact .inl (cm hm)
    · rw [Heap.size_push] at h2; exact .inr ⟨h2, h3⟩
  have look : ∀ {y}, scope.names.lookup y = some .free → ∃ c, cenv.cells.lookup y = some c ∧ X.env.cells.lookup y = some c := fun {y} hl => by
    have hy : (y, NameKind.free) ∈ scope.names := PySem.mem_of_lookup hl
    obtain ⟨c', e'⟩ := mem_lookup (cells_acc (names := scope.names) (n := (s1.heap.push { cls := .type "frame", data := .dict #[] }).objs.size) (cloFrom_has (cells := X.env.cells) (acc := []) hy))
    rw [← hcl] at e'
    refine ⟨c', e', ?_⟩
    rw [hcl] at e'
    rcases cells_mem (PySem.mem_of_lookup e') with hm | ⟨h1, _, _⟩
    · exact (cm hm).1
    · have := ok.uniq _ h1
      rw [hl] at this; cases this
  have noA : ∀ b : Addr, b ∉ (lmCx X A outer s1 HZ scope f c').ex := fun b z => absurd (show b ∈ ([] : List Addr) from z) (by simp)
  have okB : (lmCx X A outer s1 HZ scope f c').Ok := by
    refine ⟨e0.mod, ok.kind, rfl, rfl, Nat.le_refl _, fun y z c e1 e2 => ?_, fun y hy => ?_, fun y c z e => ?_, fun _ => hd, Around.frames_deeper e0.frames, .inr ⟨rfl, rfl⟩, fun b z => absurd z (noA b), e0.bs, e0.bsz, fun b _ _ => noA b, fun b z => absurd z (noA b), e0.funs, e0.frf⟩
    · have e1 : cenv.cells.lookup y = some c := by rw [← hcenv]; exact e1
      have e2 : cenv.cells.lookup z = some c := by rw [← hcenv]; exact e2
      rw [hcl] at e1 e2
      refine cells_inj (fun p hp => ?_) (fun y z c a b => I.ok.inj y z c (cm a).1 (cm b).1) (PySem.mem_of_lookup e1) (PySem.mem_of_lookup e2)
      rw [Heap.size_push]
      exact Nat.lt_succ_of_lt (cm (y := p.1) (c := p.2) hp).2
    · have key : ∀ k, scope.names.lookup y = some k → (k = .cell ∨ k = .free) → ∃ c, cenv.cells.lookup y = some c := fun k hk hk' => by
        rcases hk' with rfl | rfl
        · obtain ⟨c, hm⟩ := cells_has (n := (s1.heap.push { cls := .type "frame", data := .dict #[] }).objs.size) (acc := cloFrom X.env.cells scope.names []) (PySem.mem_of_lookup hk)
          obtain ⟨c', e'⟩ := mem_lookup hm
          exact ⟨c', by rw [hcl]; exact e'⟩
        · obtain ⟨c, h1, _⟩ := look hk
          exact ⟨c, h1⟩
      have r : ∃ c, cenv.cells.lookup y = some c := by
        rcases hy with hy | hy
        · exact key _ hy (.inl rfl)
        · exact key _ hy (.inr rfl)
      rw [← hcenv] at r
      exact r
    · have z : (scope.names.lookup y == some NameKind.cell) = true := z
      have z : scope.names.lookup y = some .cell := by simpa using z
      have e : cenv.cells.lookup y = some c := by rw [← hcenv]; exact e
      rw [hcl] at e
      rcases cells_mem (PySem.mem_of_lookup e) with hm | ⟨_, h2, _⟩
      · rcases cloFrom_mem hm with hm | ⟨h1, _⟩
        · cases hm
        · have q := ok.uniq _ h1
          rw [z] at q; cases q
      · rw [Heap.size_push] at h2
        exact Nat.le_of_succ_le h2
  refine ⟨okB, rfl, e0.bare, Un.kept kp, ⟨fun _ => none, ?_, fun i y av e1 e2 e3 => ?_⟩, fun y c e => ?_, e0.hok.fresh (Nat.le_refl _), fun y c e => ?_, fun p hp => absurd (show p ∈ ([] : List (Addr × Obj)) ++ [] from hp) (by simp), e0.hok.kept kp, by rw [wipe_length]; exact I.len⟩
  · exact Heap.Ns.keeps (Heap.Ns.new ..) fun b o e => pushCells_keeps _ _ _ _ e
  · obtain ⟨e2, hne⟩ := wipe_some e2
    have hfr : scope.names.lookup y = some .free := by
      have key : ∀ k, scope.names.lookup y = some k → k = .local ∨ k = .cell ∨ k = .free → scope.names.lookup y = some .free := fun k hk hk' => by
        have no : ¬ (k = .local ∨ k = .cell) := fun hh => by
          rcases ok.own _ (PySem.mem_of_lookup hk) hh with e' | e'
          · obtain ⟨p, hp, hpy⟩ := List.mem_map.mp e'
            have e3 := ok.ix p hp
            have : p.1 = y := hpy
            rw [this] at e3
            exact hne (List.mem_map.mpr ⟨p, hp, nodup_ix hN e3 e1⟩)
          · exact e' (List.mem_of_getElem? e1)
        rcases hk' with rfl | rfl | rfl
        · exact absurd (.inl rfl) no
        · exact absurd (.inr rfl) no
        · exact hk
      have e3 : Vis scope y := e3
      rcases e3 with e3 | e3 | e3
      · exact key _ e3 (.inl rfl)
      · exact key _ e3 (.inr (.inl rfl))
      · exact key _ e3 (.inr (.inr rfl))
    obtain ⟨m', hn', hl⟩ := I.loc
    have hvis : Vis X.env.scope y := (ok.free _ (PySem.mem_of_lookup hfr) rfl).elim (fun k => .inr (.inl k)) (fun k => .inr (.inr k))
    obtain ⟨w, r, q⟩ := hl i y av e1 e2 hvis
    obtain ⟨c, h1, h2⟩ := look hfr
    refine ⟨w, r, .inr ⟨.inr hfr, c, by rw [← hcenv] at h1; exact h1, ?_⟩⟩
    rcases q with ⟨k, _⟩ | ⟨_, c', e', z⟩
    · have k : X.env.scope.names.lookup y = some .local := k
      rcases ok.free _ (PySem.mem_of_lookup hfr) rfl with k' | k' <;> rw [show X.env.scope.names.lookup y = _ from k'] at k <;> cases k
    · rw [h2] at e'; cases e'
      exact (cellK (I.freeC y _ h2) z).keeps kp
  · have e : cenv.cells.lookup y = some c := by rw [← hcenv]; exact e
    rcases mem e with ⟨h1, _⟩ | ⟨_, z⟩
    · obtain ⟨w, z⟩ := I.cell y c h1
      exact ⟨w, (cellK (I.freeC y c h1) z).keeps kp⟩
    · exact ⟨_, z⟩
  · have e : cenv.cells.lookup y = some c := by rw [← hcenv]; exact e
    rcases mem e with ⟨h1, _⟩ | ⟨h1, _⟩
    · exact cellZ h1
    · exact e0.hok.fresh (Nat.le_of_succ_le h1)
end
end Nb

set_option Elab.async false
set_option linter.all false
set_option maxRecDepth 100000
set_option maxHeartbeats 4000000
namespace Nb
open PySem PySem.Spec L2 PyProof.Rows
open Sem (wp)
/-! ### lambdas: called -/
/-- the slot i holds a function of data: called on one -/
def callF (i : Nat) (g : M (List PyData)) : M PyData := fun ρ => match ρ[i]? with
  | some (.fn F) => M.bind g (fun xs => match xs with
    | [x] => ofO (F x)
    | _ => failM) ρ
  | _ => .fail
structure Act (Z : Cx) (W : Wd) (E : XK) (i : Nat) (a : Str) : Prop where
  run : ∀ {e : Expr} {p pos : Pos} {g : M (List PyData)}, PA Z [e] (tL W E g) → starEach [e] Z.env = (false, eval e Z.env) :: starEach [] Z.env → PE Z (.Call (.Name a p) [e] [] pos) (tD W E (callF i g))
def lamW (W : Wd) (f : Addr) (G0 : Hp) (F0 : PyData → Option PyData) : Wd where
  K := W.K
  T := W.T
  Fv := fun G v F => v = .ref f ∧ Sub G0 G ∧ F = F0
  Fm := fun s h => ⟨h.1, fun b o e => s b o (h.2.1 b o e), h.2.2⟩
  Ex := W.Ex
/-- what of the maker's slots the lambda sees -/
def frz1 : SV → SV
  | .d x => .d x
  | .fd t ks => .fd t ks
  | _ => .un
def frzR (vs : List Nat) (ρ : List SV) : List SV := ρ.mapIdx fun i w => if vs.contains i then .un else frz1 w
def lamF (te : M PyData) (vs : List Nat) (i : Nat) (ρ : List SV) : PyData → Option PyData := fun x => match te ((frzR vs ρ).set i (.d x)) with
  | .ok y _ => some y
  | _ => none
theorem frzR_get {vs : List Nat} {ρ : List SV} {i : Nat} {w : SV} (h : (frzR vs ρ)[i]? = some w) : w = .un ∨ (i ∉ vs ∧ ∃ u, ρ[i]? = some u ∧ frz1 u = w) := by
  unfold frzR at h
  rw [List.getElem?_mapIdx] at h
  cases e : ρ[i]? with
  | none => rw [e] at h; cases h
  | some u =>
    rw [e] at h
    have h : some (if vs.contains i then SV.un else frz1 u) = some w := h
    by_cases hi : i ∈ vs
    · rw [if_pos (by simpa using hi)] at h
      exact .inl (Option.some.inj h).symm
    · rw [if_neg (by simpa using hi)] at h
      exact .inr ⟨hi, u, rfl, Option.some.inj h⟩
theorem frz1_own (w : SV) : (frz1 w).isOwn = false := by cases w <;> rfl
section
variable {X : Cx} {W : Wd} {E : XK} {k : Nat} {pins : List (Addr × Obj)} {σ : L2.St} {H : Hp} {s : Shared}
theorem lk_lam {G G' H' : Hp} {ρ : List SV} {vs : List Nat} {i : Nat} {x : PyData} {v : V} (l : Lk W G H ρ σ) (s1 : Sub G G') (s2 : Sub G' H') (gt : ∀ b ps, G' b ≠ some (.tbl ps)) (tb : TabsOk W.T H') (d : Dq W.K G' v x) (hi : i < ρ.length) :
    Lk W G' H' ((frzR vs ρ).set i (.d x)) ((L2.wipe σ vs).set i (some v)) ∧ ∀ b, ¬ OwnS ((frzR vs ρ).set i (.d x)) ((L2.wipe σ vs).set i (some v)) b := by
  have hl : (frzR vs ρ).length = ρ.length := by simp [frzR]
  have hlσ : (L2.wipe σ vs).length = ρ.length := by rw [wipe_length, l.len]
  have get : ∀ (j : Nat) (w : SV), ((frzR vs ρ).set i (.d x))[j]? = some w → (j = i ∧ w = .d x) ∨ (j ≠ i ∧ (w = .un ∨ (j ∉ vs ∧ ∃ u, ρ[j]? = some u ∧ frz1 u = w))) := fun j w e => by
    by_cases hj : j = i
    · subst hj
      rw [List.getElem?_set_self (by rw [hl]; exact hi)] at e
      cases e
      exact .inl ⟨rfl, rfl⟩
    · rw [List.getElem?_set_ne (Ne.symm hj)] at e
      exact .inr ⟨hj, frzR_get e⟩
  have nown : ∀ (j : Nat) (w : SV), ((frzR vs ρ).set i (.d x))[j]? = some w → w.isOwn = false := fun j w e => by
    rcases get j w e with ⟨_, rfl⟩ | ⟨_, rfl | ⟨_, u, _, rfl⟩⟩
    · rfl
    · rfl
    · exact frz1_own u
  refine ⟨⟨s2, gt, by rw [List.length_set, List.length_set, hl, hlσ], (fun j w ov e1 e2 => ?_), (fun j j' w w' p _ e1 _ o1 _ _ _ => by rw [nown j w e1] at o1; cases o1), tb⟩, fun b ⟨j, w, e1, o1, _⟩ => by rw [nown j w e1] at o1; cases o1⟩
  rcases get j w e1 with ⟨rfl, rfl⟩ | ⟨hj, rfl | ⟨hjv, u, eu, rfl⟩⟩
  · rw [List.getElem?_set_self (by rw [hlσ]; exact hi)] at e2
    cases e2
    exact ⟨v, rfl, d⟩
  · trivial
  · rw [List.getElem?_set_ne (Ne.symm hj), wipe_out hjv] at e2
    have q := l.slot j u ov eu e2
    cases u <;> first | trivial | skip
    · obtain ⟨v', e, d'⟩ := q
      exact ⟨v', e, d'.mono s1⟩
    · obtain ⟨p, e, d'⟩ := q
      exact ⟨p, e, d'.at fun o eo => s1 p o eo⟩
theorem q_act {G0 Gl : Hp} {ρ : List SV} {scope : Scope} {own : List (Str × Nat)} {vs : List Nat} {f c' ga : Addr} {params : Arguments} {body : Expr} {pm ctv cdg : Value} {Ng : List Str} {qg a pn : Str} {sg : Scope} {Eg : XK} {i j : Nat} {te : M PyData}
    (I : Inv X pins σ H s) (l : Lk W Gl H ρ σ) (sl : Sub Gl G0) (hN : X.N.Nodup) (ok : BlkOk X.N X.env.scope scope own) (hvs : own.map (fun x : Str × Nat => x.2) = vs) (hco : scope.isCoroutine = false) (hgen : scope.isGenerator = false)
    (hf : s.heap.get? f = some (PySem.W.kla_obj "<lambda>" (X.env.qual ++ "<lambda>") params body scope (cloFrom X.env.cells scope.names []) pm c' ctv)) (hfn : H f = none) (hfr : f ∉ frs X.stack) (hcO : G0 c' = some (LamX.CodeO c' (X.env.qual ++ "<lambda>")))
    (hi : X.N[i]? = some pn) (hiv : i ∈ vs) (hpl : scope.names.lookup pn = some .local ∨ scope.names.lookup pn = some .cell)
    (hbind : ∀ u : Value, bindArgs (PySem.W.kla_fn "<lambda>" (X.env.qual ++ "<lambda>") params body scope (cloFrom X.env.cells scope.names []) pm (.ref c') ctv) ⟨[u], []⟩ = pure [(pn, u)])
    (hr : Room (k + 1) (X.A.deeper (envOfC qg sg s.heap.objs.size ga cdg))) (hK : X.K = W.K)
    (hbody : ∀ (A : Around) (outer : List Env) (s : Shared) (H : Hp), Kx (lmCx X A outer s H scope f c') W E0 k → PE (lmCx X A outer s H scope f c') body (tD W E0 te))
    (hNg : Ng[j]? = some a) (hv : Vis sg a) (hd : (a == ("__debug__" : Str)) = false := by decide) (hcd : (a == ("__classdict__" : Str)) = false := by decide) :
    Act (cxOf (L2.CX X.prog X.w) X.prog X.w X.K X.mg X.base Ng qg sg ga cdg X.A X.stack s H Eg) (lamW W f G0 (lamF te vs i ρ)) Eg j a := by
  subst hvs
  have hiρ : i < ρ.length := by rw [l.len, I.len]; exact (List.getElem?_eq_some_iff.mp hi).1
  refine ⟨fun {e p pos g} ha he => ⟨fun pinsZ sZ σZ HZ Q IZ ⟨G, ρZ, lZ, h⟩ => ?_⟩⟩
  unfold callF at h
  cases eF : ρZ[j]? with
  | none => rw [eF] at h; exact h.elim
  | some u =>
    rw [eF] at h
    cases u with
    | fn F =>
      simp only at h
      obtain ⟨ov, e1, v, e2, e3, sG, e5⟩ := slotAt lZ eF
      subst e2
      subst e3
      subst e5
      refine wpAny_Call_Name_kw (thn ((pe_var (pos := p) (i := j) hNg hv hd hcd).run pinsZ sZ σZ HZ (fun v H1 => v = .ref f ∧ H1 = HZ) IZ ⟨.ref f, e1, rfl, rfl⟩) fun u s1 ⟨v, H1, I1, r1, q1⟩ => ?_)
      obtain ⟨ev, eH⟩ := q1
      subst ev
      rw [eH] at I1
      obtain rfl : u = Value.ref f := r1
      have fAt : ∀ {σ' : L2.St} {H' : Hp} {s' : Shared}, Inv (cxOf (L2.CX X.prog X.w) X.prog X.w X.K X.mg X.base Ng qg sg ga cdg X.A X.stack s H Eg) pinsZ σ' H' s' → s'.heap.get? f = some (PySem.W.kla_obj "<lambda>" (X.env.qual ++ "<lambda>") params body scope (cloFrom X.env.cells scope.names []) pm c' ctv) := fun {σ' H' s'} I' => I'.base.keep f _ hf hfn hfr (fun z => nomatch (show f ∈ ([] : List Addr) from z))
      have key : tL (lamW W f G0 (lamF te (own.map (fun x : Str × Nat => x.2)) i ρ)) Eg g σZ HZ (fun vs H1 => ∃ x v y ρ1 G1, vs = [v] ∧ Tr (lamW W f G0 (lamF te (own.map (fun x : Str × Nat => x.2)) i ρ)) ρZ σZ G HZ ρ1 σZ G1 H1 ∧ Dq W.K G1 v x ∧ lamF te (own.map (fun x : Str × Nat => x.2)) i ρ x = some y ∧ GoD (lamW W f G0 (lamF te (own.map (fun x : Str × Nat => x.2)) i ρ)) Eg (.ok y ρ1) ρ1 σZ G1 H1 Q) := by
        refine stepLD lZ h fun xs ρ1 vs1 G1 H1 a dp g1 => ?_
        match xs, vs1, dp with
        | [], _, _ => exact g1.elim
        | _ :: _ :: _, _, _ => exact g1.elim
        | [x], _, .cons d0 .nil =>
          simp only at g1
          cases ey : lamF te (own.map (fun x : Str × Nat => x.2)) i ρ x with
          | none => rw [ey] at g1; exact g1.elim
          | some y =>
            rw [ey] at g1
            exact ⟨x, _, y, ρ1, G1, rfl, a, d0, ey, g1⟩
      refine PySem.W.callWith_F (first := []) ⟨_, _, _, _, fAt I1⟩ (thn (ha.run pos pinsZ s1 σZ HZ _ I1 key) fun us s2 ⟨vs2, H2, I2, r2, q2⟩ => ⟨⟨_, _, _, _, fAt I2⟩, ?_⟩) he rfl
      obtain ⟨x, v0, y, ρ1, G1, rfl, a, d0, ey, g1⟩ := q2
      obtain ⟨u0, rfl, r0⟩ : ∃ u0, us = [u0] ∧ RelV v0 u0 := by
        cases r2 with
        | cons r0 rt =>
          cases rt
          exact ⟨_, rfl, r0⟩
      show wpAny _ _ (call (.ref f) [u0]) _ _ _
      have hcR : s2.heap.CodeRec (.ref c') (X.env.qual ++ "<lambda>") := NdefX.codeO_at I2.hok (a.lk.sub _ _ (a.fr.gsub _ _ (sG _ _ hcO)))
      have s1' : Sub Gl G1 := fun b o e => a.fr.gsub b o (sG b o (sl b o e))
      obtain ⟨lkL, noO⟩ := lk_lam (vs := own.map (fun x : Str × Nat => x.2)) (i := i) l s1' a.lk.sub a.lk.gt a.lk.tabs d0 hiρ
      have rc : codeAny (model X.prog X.w) (X.A.deeper (envOfC qg sg s.heap.objs.size ga cdg)) (.call (.ref f) ⟨[u0], []⟩) (fun r s' => ∃ u, r = .ok (.ret u) ∧ CE (envOfC qg sg s.heap.objs.size ga cdg :: X.stack) X.prog X.w H2 s2 Q u s') s2 := by
        refine PySem.W.kla_callFunE hr.depth (fAt I2) rfl hco hgen rfl hcR ?_
        rw [hbind]
        refine wpAny_pure ?_
        simp only [newFunctionEnv, Option.isSome_none, Bool.false_eq_true, if_false]
        refine wpAny_bind (wpAny_alloc ?_)
        refine wpAny_bind (wpAny_layCells _ (fun name kind cells => by cases hkc : kind == NameKind.cell <;> simp [hkc]) _ _ _ _ ?_)
        rw [show ({ s2 with heap := s2.heap.push { cls := .type "frame", data := .dict #[] } } : Shared).heap.objs.size = s2.heap.objs.size + 1 from Heap.size_push ..]
        have J0 := lam_start3 (f := f) (c' := c') I ok hN I2.env0 hr.hd I2.base
        refine wpAny_bind ?_
        rw [List.forIn_cons]
        refine wpAny_bind (wpAny_bind (store_ok (X := lmCx X (X.A.deeper (envOfC qg sg s.heap.objs.size ga cdg)) (envOfC qg sg s.heap.objs.size ga cdg :: X.stack) s2 H2 scope f c') J0 hN hi hpl r0 (fun s3 J1 => ?_) ?hf))
        case hf =>
          rcases hpl with z | z
          · exact .inr z
          · exact .inl (show (scope.names.lookup pn == some NameKind.cell) = true by rw [z]; rfl)
        refine wpAny_pure ?_
        dsimp only
        rw [List.forIn_nil]
        refine wpAny_pure (wpAny_pure ⟨J1.nolimit, ?_⟩)
        have kx : Kx (lmCx X (X.A.deeper (envOfC qg sg s.heap.objs.size ga cdg)) (envOfC qg sg s.heap.objs.size ga cdg :: X.stack) s2 H2 scope f c') W E0 k := ⟨hK, rfl, hN, hr.deeper _, fun _ _ _ _ _ _ _ h => by
          obtain ⟨_, _, _, _, _, _, _, _, _, _, _, _, z⟩ := h
          exact z⟩
        refine PySem.W.kla_codeExpr (env := lmEnv X scope s2.heap.objs.size f c') (wpAny_mono ((hbody _ _ s2 H2 kx).run [] s3 _ H2 Q J1 ⟨G1, _, lkL, ?_⟩) (fun u s' hq => ?_) fun e s' hq => hq.elim)
        · unfold lamF at ey
          cases et : te ((frzR (own.map (fun x : Str × Nat => x.2)) ρ).set i (.d x)) with
          | fail => rw [et] at ey; cases ey
          | exn cc => rw [et] at ey; cases ey
          | ok y' ρ'' =>
            rw [et] at ey
            cases ey
            intro v G' H' t dq
            exact g1 v G' H' (Tr.frame a.lk ⟨fun b o e _ nt => t.fr.keep b o e (noO b) nt, t.fr.tbl, t.fr.gsub, fun b o e => by
              rcases t.fr.gnew b o e with z | z | z | z
              · exact .inl z
              · exact .inr (.inl z)
              · exact (noO b z).elim
              · exact .inr (.inr (.inr z))⟩ t.lk.sub t.lk.gt t.lk.tabs) dq
        · obtain ⟨w', H', J', rv, q⟩ := hq
          exact ⟨u, rfl, w', H', J'.os, J'.bare, J'.base, J'.hok, rv, q⟩
      refine wpAny_call (codeAny_mono rc fun r s' hq => ?_)
      obtain ⟨u, rfl, hce⟩ := hq
      exact I2.after hce
    | un => exact h.elim
    | d x => exact h.elim
    | ls x => exact h.elim
    | br x => exact h.elim
    | dc t x => exact h.elim
    | fd t x => exact h.elim
end
end Nb

set_option Elab.async false
set_option linter.all false
set_option maxRecDepth 100000
set_option maxHeartbeats 4000000
namespace Nb
open PySem PySem.Spec L2 PyProof.Rows
open Sem (wp)
/-! ### a def called on data and a lambda -/
def callLamM (N : Nat) (B : M Fl) (te : M PyData) (vs : List Nat) (i : Nat) (fe : M PyData) : M SV := M.bind fe fun x ρ => match bodyM 2 N B [.d x, .fn (lamF te vs i ρ)] with
  | .ok (.ls xs) _ => .ok (.ls xs) ρ
  | .ok (.d y) _ => .ok (.d y) ρ
  | _ => .fail
theorem SqL.rest {K : PySem.W.Frag} {G G' : Hp} {a : Addr} {xs : List V} (s : ∀ b o, G b = some o → (∀ φ, o ≠ .ext φ) → G' b = some o) (h : SqL K G a xs) : SqL K G' a xs := by
  rcases h with (h | ⟨o, h⟩) | h
  · exact .inl (.inl (s _ _ h fun _ z => by cases z))
  · exact .inl (.inr ⟨o, s _ _ h fun _ z => by cases z⟩)
  · exact .inr h
theorem SqT.rest {K : PySem.W.Frag} {G G' : Hp} {a : Addr} {xs : List V} (s : ∀ b o, G b = some o → (∀ φ, o ≠ .ext φ) → G' b = some o) (h : SqT K G a xs) : SqT K G' a xs := by
  rcases h with (h | ⟨o, h⟩) | h
  · exact .inl (.inl (s _ _ h fun _ z => by cases z))
  · exact .inl (.inr ⟨o, s _ _ h fun _ z => by cases z⟩)
  · exact .inr h
mutual
theorem Dq.rest {K : PySem.W.Frag} {G G' : Hp} (s : ∀ b o, G b = some o → (∀ φ, o ≠ .ext φ) → G' b = some o) : ∀ {d : PyData} {v : V}, Dq K G v d → Dq K G' v d
  | .none, _, h => by cases h; exact .non
  | .bool b, _, h => by cases h; exact .bl b
  | .int i, _, h => by cases h; exact .int i
  | .str x, _, h => by cases h; exact .str x
  | .list ds, _, h => by
    cases h with
    | lst hs ha => exact .lst (s _ _ hs fun _ z => by cases z) (DqAll.rest s ha)
  | .tuple ds, _, h => by
    cases h with
    | tup hs ha => exact .tup (s _ _ hs fun _ z => by cases z) (DqAll.rest s ha)
  | .dict _, _, h => by
    cases h with
    | scr hs e => exact .scr (SqL.rest s hs) e
    | ktp hs ha => exact .ktp (SqT.rest s hs) (DqAll.rest s ha)
theorem DqAll.rest {K : PySem.W.Frag} {G G' : Hp} (s : ∀ b o, G b = some o → (∀ φ, o ≠ .ext φ) → G' b = some o) : ∀ {ds : List PyData} {vs : List V}, DqAll K G vs ds → DqAll K G' vs ds
  | [], _, h => by cases h; exact .nil
  | d :: ds, _, h => by
    cases h with
    | cons h1 h2 => exact .cons (Dq.rest s h1) (DqAll.rest s h2)
end
section
variable {X : Cx} {W : Wd} {E : XK} {k : Nat}
theorem mk_tr {G H H1 : Hp} {ρ : List SV} {σ : L2.St} {P : Addr} {q : Str} (l : Lk W G H ρ σ) (hm : Made P q H H1) (hT : LamX.TabS H1 P q) (hu : ∀ kd, (P, kd) ∈ W.T → kd = TK.lam (fun _ _ => q)) : Tr W ρ σ G H ρ σ G H1 := by
  rcases hm with rfl | ⟨ps, more, c', hP, hc, rfl⟩
  · exact Tr.refl l
  have nP : ∀ b o, H b = some o → (∀ q, o ≠ .tbl q) → b ≠ P := fun b o e n z => by
    subst z
    rw [hP] at e
    exact n ps (Option.some.inj e).symm
  have at_ : ∀ b o, H b = some o → (∀ q, o ≠ .tbl q) → upd (upd H P (.tbl (ps ++ more))) c' (LamX.CodeO c' q) b = some o := fun b o e n => by
    rw [upd_ne (ne_of_none e hc), upd_ne (nP b o e n)]
    exact e
  have at2 : ∀ b o, b ≠ P → H b = some o → upd (upd H P (.tbl (ps ++ more))) c' (LamX.CodeO c' q) b = some o := fun b o n e => by
    rw [upd_ne (ne_of_none e hc), upd_ne n]
    exact e
  refine Tr.frame l ⟨fun b o e _ nt => at_ b o e nt, fun b r e => ?_, fun _ _ e => e, fun b o e => .inl e⟩ (fun b o e => at_ b o (l.sub b o e) fun q z => l.gt b q (by rw [e, z])) l.gt fun p hp => ?_
  · by_cases hb : b = P
    · obtain ⟨ps', h1, _⟩ := hT
      exact ⟨ps', by rw [hb]; exact h1⟩
    · exact ⟨r, at2 b _ hb e⟩
  · have z := l.tabs p hp
    by_cases hb : p.1 = P
    · have hk := hu p.2 (by rw [← hb]; exact hp)
      rw [hk]
      show NdefX.TabN _ p.1 _
      rw [hb]
      exact hT
    · cases hk : p.2 with
      | gen =>
        rw [hk] at z
        obtain ⟨ps', e1, e2⟩ := z
        exact ⟨ps', at2 _ _ hb e1, e2⟩
      | lam nm =>
        rw [hk] at z
        obtain ⟨ps', e1, e2, e3⟩ := z
        refine ⟨ps', at2 _ _ hb e1, e2, fun pos cv h => ?_⟩
        obtain ⟨c, z1, z2⟩ := e3 pos cv h
        exact ⟨c, z1, at_ _ _ z2 LamX.codeO_ne⟩
theorem q_callLam {gx gqual p0 a pn : Str} {ga P c : Addr} {pg params : Arguments} {bg : List Stmt} {sg scope : Scope} {dV kV doc pm cdg ct oc : Value} {an od : Option Addr} {osl : Array (Option Value)} {Ng : List Str} {gname : Str} {e body : Expr} {p lpos pos : Pos} {own : List (Str × Nat)} {vs : List Nat} {i : Nat} {fe te : M PyData} {B : M Fl}
    (cx : Kx X W E (k + 2)) (hg : Gl X gx) (hm : X.mg gx = some (.ref ga)) (hkp : PySem.W.keepIn X.K (.ref ga) = true)
    (lk : X.K.lookup ga = some ⟨oc, od, .func (PySem.W.fnOf gname gqual pg bg sg dV kV doc pm an cdg ct), osl⟩) (hcg : PySem.W.codeIn X.K cdg gqual = true) (Sg : FnScope Ng [p0, a] sg) (hbg : L2.Binds X.K (PySem.W.fnOf gname gqual pg bg sg dV kV doc pm an cdg ct) [p0, a] []) (hNa : Ng[1]? = some a) (hva : Vis sg a)
    (TB : GxR.TabB X.base X.mg c P) (hcode : X.env.code = .ref c) (hT : (P, TK.lam (fun _ _ => X.env.qual ++ "<lambda>")) ∈ W.T) (hu : ∀ kd, (P, kd) ∈ W.T → kd = TK.lam (fun _ _ => X.env.qual ++ "<lambda>")) (hdef : defaultsOf params X.env = ([], []))
    (ok : blkC X.N X.env.scope scope own = true) (hvs : own.map (fun x : Str × Nat => x.2) = vs) (hco : scope.isCoroutine = false) (hgen : scope.isGenerator = false) (hi : X.N[i]? = some pn) (hiv : i ∈ vs) (hpl : scope.names.lookup pn = some .local ∨ scope.names.lookup pn = some .cell)
    (hbind : ∀ (q : Str) (cl : List (Str × Addr)) (pm cv ctv u : Value), bindArgs (PySem.W.kla_fn "<lambda>" q params body scope cl pm cv ctv) ⟨[u], []⟩ = pure [(pn, u)])
    (he : PE X e (tD W E fe))
    (hbody : ∀ (A : Around) (outer : List Env) (s : Shared) (H : Hp) (f c' : Addr), Kx (lmCx X A outer s H scope f c') W E0 k → PE (lmCx X A outer s H scope f c') body (tD W E0 te))
    (hB : ∀ (W' : Wd) (A : Around) (outer : List Env) (s : Shared) (H : Hp), W'.K = W.K → Ky (cxOf (L2.CX X.prog X.w) X.prog X.w X.K X.mg X.base Ng gqual sg ga cdg A outer s H E) W' E (k + 1) → Act (cxOf (L2.CX X.prog X.w) X.prog X.w X.K X.mg X.base Ng gqual sg ga cdg A outer s H E) W' E 1 a →
      PSs (cxOf (L2.CX X.prog X.w) X.prog X.w X.K X.mg X.base Ng gqual sg ga cdg A outer s H E) bg (tS W' E B))
    (hdb : (gx == ("__debug__" : Str)) = false := by decide) (hd : (a == ("__debug__" : Str)) = false := by decide) (hcd : (a == ("__classdict__" : Str)) = false := by decide)
    (hse : starEach [e, .Lambda params body scope lpos] X.env = (false, eval e X.env) :: starEach [.Lambda params body scope lpos] X.env := by rfl) :
    PE X (.Call (.Name gx p) [e, .Lambda params body scope lpos] [] pos) (tV W E (callLamM Ng.length B te vs i fe)) := by
  have okb := blkOk_by ok
  refine ⟨fun pins s σ H Q I ⟨G, ρ, l, h⟩ => ?_⟩
  have hfree : ∀ y ∈ scope.names, y.2 = .free → ∃ c, X.env.cells.lookup y.1 = some c := fun y hy e => by
    rcases okb.free y hy e with k | k
    · exact I.ok.has _ (.inl k)
    · exact I.ok.has _ (.inr k)
  refine wpAny_Call_Name_kw (ld_glob I hg hm ?_ hdb)
  refine PySem.W.callWith_K (h₀ := X.base) I.ok.mod.kin hkp ?_ hse (by rfl)
  rw [hse]
  show wpAny _ _ (spliced ((false, eval e X.env) :: backTo pos (starEach [.Lambda params body scope lpos] X.env))) _ _ s
  have key : tD W E fe σ H (fun v H1 => ∃ x ρ1 G1, Tr W ρ σ G H ρ1 σ G1 H1 ∧ Dq W.K G1 v x ∧ Go W E (match bodyM 2 Ng.length B [.d x, .fn (lamF te vs i ρ1)] with
      | .ok (.ls xs) _ => .ok (.ls xs) ρ1
      | .ok (.d y) _ => .ok (.d y) ρ1
      | _ => .fail) ρ1 σ G1 H1 Q) := stepD l h fun x ρ1 v G1 H1 a d g1 => ⟨x, ρ1, G1, a, d, g1⟩
  refine Calls.spliced_cons (thn (he.run pins s σ H _ I key) fun u1 s1 ⟨v1, H1, I1, r1, x, ρ1, G1, a1, d1, g1⟩ => ?_)
  show wpAny _ _ (spliced ((false, eval (.Lambda params body scope lpos) X.env) :: backTo pos (starEach [] X.env))) _ _ s1
  refine Calls.spliced_cons (lam_make3 I1 TB hcode (a1.lk.tabs _ hT) hdef hfree fun f c' pm' ctv H2 s2 I2 made T2 hf hfn hfr hco' => ?_)
  have a2 := mk_tr a1.lk made T2 hu
  have g2 := Go.shift g1 a2
  refine Calls.spliced_nil ⟨I2.kIn, ?_⟩
  -- the callee's ghost
  have sub0 : Sub G1 (upd G1 c' (LamX.CodeO c' (X.env.qual ++ "<lambda>"))) := fun b o e => by
    by_cases hb : b = c'
    · subst hb
      have := a2.lk.sub _ _ e
      rw [hco'] at this
      rw [upd_same]
      exact this
    · rw [upd_ne hb]
      exact e
  have lk0 : Lk (lamW W f (upd G1 c' (LamX.CodeO c' (X.env.qual ++ "<lambda>"))) (lamF te vs i ρ1)) (upd G1 c' (LamX.CodeO c' (X.env.qual ++ "<lambda>"))) H2 [.d x, .fn (lamF te vs i ρ1)] [some v1, some (.ref f)] := by
    refine ⟨fun b o e => ?_, fun b ps e => ?_, rfl, fun j w ov e1 e2 => ?_, fun j j' w w' p' _ e1 _ o1 _ _ _ => ?_, a2.lk.tabs⟩
    · by_cases hb : b = c'
      · subst hb
        rw [upd_same] at e
        rw [hco']
        exact e
      · rw [upd_ne hb] at e
        exact a2.lk.sub b o e
    · by_cases hb : b = c'
      · subst hb
        rw [upd_same] at e
        exact LamX.codeO_ne ps (Option.some.inj e)
      · rw [upd_ne hb] at e
        exact a2.lk.gt b ps e
    · match j, e1, e2 with
      | 0, e1, e2 =>
        cases e1
        cases e2
        exact ⟨v1, rfl, d1.mono sub0⟩
      | 1, e1, e2 =>
        cases e1
        cases e2
        exact ⟨.ref f, rfl, rfl, fun _ _ z => z, rfl⟩
      | j + 2, e1, _ => cases e1
    · match j, e1 with
      | 0, e1 => cases e1; cases o1
      | 1, e1 => cases e1; cases o1
      | j + 2, e1 => cases e1
  have go : Go (lamW W f (upd G1 c' (LamX.CodeO c' (X.env.qual ++ "<lambda>"))) (lamF te vs i ρ1)) E (bodyM 2 Ng.length B [.d x, .fn (lamF te vs i ρ1)]) [.d x, .fn (lamF te vs i ρ1)] [some v1, some (.ref f)] (upd G1 c' (LamX.CodeO c' (X.env.qual ++ "<lambda>"))) H2 Q := by
    cases eb : bodyM 2 Ng.length B [.d x, .fn (lamF te vs i ρ1)] with
    | fail => rw [eb] at g2; exact g2.elim
    | exn cc => rw [eb] at g2; exact g2.elim
    | ok w ρ'' =>
      rw [eb] at g2
      intro v G3 H3 t rk
      have noO : ∀ b, ¬ OwnS [SV.d x, SV.fn (lamF te vs i ρ1)] [some v1, some (.ref f)] b := fun b ⟨j, w, e1, o1, _⟩ => by
        match j, e1 with
        | 0, e1 => cases e1; cases o1
        | 1, e1 => cases e1; cases o1
        | j + 2, e1 => cases e1
      have hc3 : H3 c' = some (LamX.CodeO c' (X.env.qual ++ "<lambda>")) := t.lk.sub _ _ (t.fr.gsub _ _ upd_same)
      have hg3 : G3 c' = some (LamX.CodeO c' (X.env.qual ++ "<lambda>")) := t.fr.gsub _ _ upd_same
      have r3 : ∀ b o, G3 b = some o → (∀ φ, o ≠ .ext φ) → (fun b => if b = c' then G1 b else G3 b) b = some o := fun b o e n => by
        by_cases hb : b = c'
        · subst hb
          rw [hg3] at e
          cases e
          exact (n _ rfl).elim
        · show (if b = c' then G1 b else G3 b) = some o
          rw [if_neg hb]
          exact e
      have sub3 : ∀ b o, (if b = c' then G1 b else G3 b) = some o → b = c' ∧ G1 b = some o ∨ b ≠ c' ∧ G3 b = some o := fun b o e => by
        by_cases hb : b = c'
        · rw [if_pos hb] at e; exact .inl ⟨hb, e⟩
        · rw [if_neg hb] at e; exact .inr ⟨hb, e⟩
      have t3 : Tr W ρ1 σ G1 H2 ρ1 σ (fun b => if b = c' then G1 b else G3 b) H3 := by
        refine Tr.frame a2.lk ⟨fun b o e _ nt => t.fr.keep b o e (noO b) nt, t.fr.tbl, fun b o e => ?_, fun b o e => ?_⟩ (fun b o e => ?_) (fun b ps e => ?_) t.lk.tabs
        · show (if b = c' then G1 b else G3 b) = some o
          by_cases hb : b = c'
          · rw [if_pos hb]; exact e
          · rw [if_neg hb]; exact t.fr.gsub b o (sub0 b o e)
        · rcases sub3 b o e with ⟨_, z⟩ | ⟨hb, z⟩
          · exact .inl z
          · rcases t.fr.gnew b o z with y | y | y | y
            · rw [upd_ne hb] at y; exact .inl y
            · exact .inr (.inl y)
            · exact (noO b y).elim
            · exact .inr (.inr (.inr y))
        · rcases sub3 b o e with ⟨_, z⟩ | ⟨hb, z⟩
          · exact t.lk.sub b o (t.fr.gsub b o (sub0 b o z))
          · exact t.lk.sub b o z
        · rcases sub3 b _ e with ⟨_, z⟩ | ⟨hb, z⟩
          · exact a2.lk.gt b ps z
          · exact t.lk.gt b ps z
      cases w with
      | d y =>
        refine g2 v _ H3 t3 ⟨?_, fun z => (by cases z), fun _ z => (by cases z)⟩
        obtain ⟨v', e', dv⟩ := rk.1
        exact ⟨v', e', Dq.rest r3 dv⟩
      | ls ys =>
        obtain ⟨⟨p', vs', e', h1, h2, dv⟩, ho, _⟩ := rk
        cases e'
        obtain ⟨no, nw⟩ := ho rfl p' rfl
        have np : p' ≠ c' := fun z => by
          rw [z, hg3] at h2
          cases h2
        have nH : H2 p' = none := by
          rcases nw with z | z
          · exact z
          · exact (noO p' z).elim
        refine g2 (.ref p') _ H3 t3 ⟨⟨p', vs', rfl, h1, ?_, DqAll.rest r3 dv⟩, fun _ q eq => ?_, fun _ z => (by cases z)⟩
        · show (if p' = c' then G1 p' else G3 p') = none
          rw [if_neg np]
          exact h2
        · cases eq
          exact ⟨notOwn a2.lk nH, .inl nH⟩
      | un => exact g2.elim
      | br ys => exact g2.elim
      | dc t ys => exact g2.elim
      | fd t ys => exact g2.elim
      | fn F => exact g2.elim
  have rc : codeAny (model X.prog X.w) X.A (.call (.ref ga) ⟨[u1, .ref f], []⟩) (CR (L2.CX X.prog X.w) X.stack X.prog X.w H2 s2 Q E) s2 := by
    refine LamX.run_ofS (CX := L2.CX X.prog X.w) (N := Ng) (ps := [p0, a]) (us := [u1, .ref f]) (vs := [v1, .ref f]) (k := k + 1) lk hcg Sg cx.room I2.env0 (hbg s2 [u1, .ref f] I2.kIn rfl) (.cons r1 (.cons rfl .nil)) rfl fun hr' => ?_
    have tk : Takes (cxOf (L2.CX X.prog X.w) X.prog X.w X.K X.mg X.base Ng gqual sg ga cdg X.A X.stack s2 H2 E) (fun cls d _ H => E cls d H) := takes_of rfl rfl rfl rfl
    have hlen : 2 ≤ Ng.length := by
      have := congrArg List.length Sg.pre
      rw [List.length_take] at this
      simp at this
      omega
    refine ⟨_, hB (lamW W f (upd G1 c' (LamX.CodeO c' (X.env.qual ++ "<lambda>"))) (lamF te vs i ρ1)) X.A X.stack s2 H2 rfl ⟨⟨cx.K, rfl, Sg.nd, hr', passes_call tk (fun _ _ _ _ h => h)⟩, passes_of rfl, tk⟩ ?_, body_red hlen rfl ⟨rfl, _, _, lk0, go⟩⟩
    exact q_act I2 a2.lk sub0 cx.nd okb hvs hco hgen hf hfn hfr upd_same hi hiv hpl (hbind _ _ _ _ _) hr' cx.K (fun A outer s H kx => hbody A outer s H f c' kx) hNa hva hd hcd
  refine wpAny_call (codeAny_mono rc fun r s3 hq => ?_)
  cases r with
  | error e => exact cx.pas pins σ H2 s2 e s3 I2 hq
  | ok fl =>
    cases fl with
    | ret u => exact I2.after hq
    | next => exact False.elim hq
    | brk => exact False.elim hq
    | cont => exact False.elim hq
end
end Nb

set_option Elab.async false
set_option linter.all false
set_option maxRecDepth 100000
set_option maxHeartbeats 4000000
namespace Nb
open PySem PySem.Spec L2 PyProof.Rows
/-! ### short words for the printed text -/
def visB (sc : Scope) (x : Str) : Bool := match sc.names.lookup x with
  | some .local => true
  | some .cell => true
  | some .free => true
  | _ => false
theorem vis_by {sc : Scope} {x : Str} (h : visB sc x = true) : Vis sc x := by
  unfold visB at h
  split at h
  · exact .inl (by assumption)
  · exact .inr (.inl (by assumption))
  · exact .inr (.inr (by assumption))
  · cases h
def locB (sc : Scope) (x : Str) : Bool := match sc.names.lookup x with
  | some .local => true
  | some .cell => true
  | _ => false
theorem loc_by {sc : Scope} {x : Str} (h : locB sc x = true) : Loc sc x := by
  unfold locB at h
  split at h
  · exact .inl (by assumption)
  · exact .inr (by assumption)
  · cases h
section
variable {X : Cx} {W : Wd} {E : XK} {k : Nat}
theorem c_in (c : Kx X W E k) : Cp X W E .In (inM false) := ⟨_, (op_inD c.hu).or ((op_inT c.hu).or op_in_str), fun x y ρ σ G H Q v u l d1 d2 => law_in c.K x y ρ σ G H Q v u l d1 (.inl d2)⟩
theorem c_nin (c : Kx X W E k) : Cp X W E .NotIn (inM true) := ⟨_, (op_notInD c.hu).or ((op_notInT c.hu).or op_notin_str), fun x y ρ σ G H Q v u l d1 d2 => law_notIn c.K x y ρ σ G H Q v u l d1 (.inl d2)⟩
end
section
variable {P : Program} {w : World} {K : PySem.W.Frag} {mg : Str → Option Value} {base : Heap}
/-- THE RULE for a def, its code object told -/
theorem fn_okD {W : Wd} {x qual : Str} {params : Arguments} {body : List Stmt} {scope : Scope} {f : Addr} {fd : FuncData} {N ps : List Str} {k : Nat} {B : M Fl} (F : FunD K x qual params body scope [] [] f fd) (S : FnScope N ps scope) (hK : W.K = K)
    (h : ∀ (A : Around) (outer : List Env) (s : Shared) (H : Hp) (E : XK), Ky (cxOf (L2.CX P w) P w K mg base N qual scope f fd.code A outer s H E) W E k → PSs (cxOf (L2.CX P w) P w K mg base N qual scope f fd.code A outer s H E) body (tS W E B)) :
    FnOk P w K mg base (L2.CX P w) (k + 1) f fd ps (spM W ps.length (bodyM ps.length N.length B)) := by
  obtain ⟨oc, od, dV, kV, doc, pm, an, cdv, ct, osl, rfl, lk, hcd, _, _⟩ := F.ex
  refine fn_of lk hcd S (fun vs H Q E h => h.1) fun A outer s H vs Q E hr hs => ?_
  have hN : ps.length ≤ N.length := by have := congrArg List.length S.pre; rw [List.length_take] at this; omega
  have tk : Takes (cxOf (L2.CX P w) P w K mg base N qual scope f cdv A outer s H E) (fun cls d _ H => E cls d H) := takes_of rfl rfl rfl rfl
  exact ⟨_, h A outer s H E ⟨⟨hK.symm, rfl, S.nd, hr, passes_call tk (fun _ _ _ _ h => h)⟩, passes_of rfl, tk⟩, body_red hN rfl hs⟩
end
end Nb

set_option Elab.async false
set_option linter.all false
set_option maxRecDepth 100000
set_option maxHeartbeats 4000000
namespace Nb
open PySem PySem.Spec L2 PyProof.Rows
/-! ### dicts of the module with int keys -/
/-- a value of K: an int, or a tuple of ints that is K's -/
def gvB (K : PySem.W.Frag) (u : Value) : PyData → Bool
  | .int i => (match u with
    | .int j _ => decide (i = j)
    | _ => false)
  | .dict [(.none, .tuple ds)] => (match u with
    | .ref T => (match K.lookup T with
      | some ⟨.type c, _, .seq its _, _⟩ => decide (c = "tuple") && (decide (its.size ≤ sizeLine) && (decide (its.size = ds.length) && (its.toList.zip ds).all fun p => match p.1, p.2 with
        | .int i _, .int j => decide (i = j)
        | _, _ => false))
      | _ => false)
    | _ => false)
  | _ => false
theorem gv_ints {K : PySem.W.Frag} : ∀ {us : List Value} {ds : List PyData}, us.length = ds.length → ((us.zip ds).all fun p => match p.1, p.2 with
        | .int i _, .int j => decide (i = j)
        | _, _ => false) = true → ∃ vs, Vals vs us ∧ ∀ G, DqAll K G vs ds
  | [], [], _, _ => ⟨[], .nil, fun _ => .nil⟩
  | [], _ :: _, e, _ => by cases e
  | _ :: _, [], e, _ => by cases e
  | u :: us, d :: ds, e, h => by
    rw [List.zip_cons_cons, List.all_cons, Bool.and_eq_true] at h
    obtain ⟨vs, r, q⟩ := gv_ints (K := K) (us := us) (ds := ds) (by simpa using e) h.2
    have h1 := h.1
    cases u <;> first | (cases h1; done) | skip
    rename_i i t
    cases d <;> first | (cases h1; done) | skip
    rename_i j
    have ij : i = j := of_decide_eq_true h1
    subst ij
    exact ⟨.int i :: vs, .cons ⟨t, rfl⟩ r, fun G => .cons (.int i) (q G)⟩
theorem gv_ok {K : PySem.W.Frag} {u : Value} {d : PyData} (h : gvB K u d = true) : ∃ v, RelV v u ∧ ∀ G, Dq K G v d := by
  unfold gvB at h
  split at h
  · split at h
    · rename_i i _ j t
      have := of_decide_eq_true h
      subst this
      exact ⟨.int i, ⟨t, rfl⟩, fun G => .int i⟩
    · cases h
  · rename_i ds
    split at h
    · rename_i T
      split at h
      · rename_i c od its n sl hk
        simp only [Bool.and_eq_true] at h
        obtain ⟨h1, h2, h3, h4⟩ := h
        obtain ⟨vs, r, q⟩ := gv_ints (K := K) (us := its.toList) (ds := ds) (by simpa using of_decide_eq_true h3) h4
        exact ⟨.ref T, rfl, fun G => .ktp (.inr ⟨_, its, n, hk, congrArg Value.type (of_decide_eq_true h1), rfl, of_decide_eq_true h2, r⟩) (q G)⟩
      · cases h
    · cases h
  · cases h
def gdL (K : PySem.W.Frag) : List DictEntry → List (Int × PyData) → Bool
  | [], [] => true
  | e :: es, k :: ks => (match e.key with
    | .int i _ => decide (i = k.1) && decide (e.hash = hashInt k.1)
    | _ => false) && (gvB K e.val k.2 && gdL K es ks)
  | _, _ => false
def gdB (K : PySem.W.Frag) (a : Addr) (ks : List (Int × PyData)) : Bool := match K.lookup a with
  | some ⟨.type c, none, .dict es _, sl⟩ => decide (c = "dict") && (sl.isEmpty && (!(a == sysModules) && gdL K es.toList ks))
  | _ => false
def kdAt (ks : List (Int × PyData)) (k : Int) : Option PyData := (ks.find? fun p => p.1 = k).map (·.2)
structure GDic (K : PySem.W.Frag) (a : Addr) (ks : List (Int × PyData)) : Prop where
  ex : ∃ (es : Array DictEntry) (n : Nat), K.lookup a = some ⟨.type "dict", none, .dict es n, #[]⟩ ∧ (∀ e ∈ es, ∃ k, Value.isInt k e.key = true ∧ e.hash = hashInt k) ∧
    ∀ k, match kdAt ks k with
      | some d => ∃ u v, findBy Value.isInt es k = some u ∧ RelV v u ∧ ∀ G, Dq K G v d
      | none => findBy Value.isInt es k = none
  low : (a == sysModules) = false
theorem gdL_ok {K : PySem.W.Frag} : ∀ {es : List DictEntry} {ks : List (Int × PyData)}, gdL K es ks = true → (∀ e ∈ es, ∃ k, Value.isInt k e.key = true ∧ e.hash = hashInt k) ∧
    ∀ k, match kdAt ks k with
      | some d => ∃ u v, (es.find? fun e => Value.isInt k e.key).map (·.val) = some u ∧ RelV v u ∧ ∀ G, Dq K G v d
      | none => (es.find? fun e => Value.isInt k e.key).map (·.val) = none
  | [], [], _ => ⟨(fun e he => by cases he), fun k => rfl⟩
  | [], _ :: _, h => by cases h
  | _ :: _, [], h => by cases h
  | e :: es, p :: ks, h => by
    unfold gdL at h
    simp only [Bool.and_eq_true] at h
    obtain ⟨h1, h2, h3⟩ := h
    obtain ⟨r1, r2⟩ := gdL_ok h3
    obtain ⟨v, rv, dv⟩ := gv_ok h2
    split at h1
    · rename_i i t hkey
      simp only [Bool.and_eq_true] at h1
      have hi := of_decide_eq_true h1.1
      have hh := of_decide_eq_true h1.2
      subst hi
      have is : ∀ k, Value.isInt k e.key = decide (p.1 = k) := fun k => by
        rw [hkey]
        by_cases z : p.1 = k
        · subst z; simp [Value.isInt]
        · have z' : k ≠ p.1 := fun q => z q.symm
          simp [Value.isInt, z, z']
      refine ⟨fun e' he => ?_, fun k => ?_⟩
      · rcases List.mem_cons.mp he with rfl | he
        · exact ⟨p.1, by rw [is]; simp, hh⟩
        · exact r1 e' he
      · unfold kdAt
        rw [List.find?_cons, List.find?_cons, is k]
        by_cases z : p.1 = k
        · simp only [z, decide_true]
          exact ⟨e.val, v, rfl, rv, dv⟩
        · simp only [z, decide_false]
          exact r2 k
    · cases h1
theorem gd_ok {K : PySem.W.Frag} {a : Addr} {ks : List (Int × PyData)} (h : gdB K a ks = true) : GDic K a ks := by
  unfold gdB at h
  split at h
  · rename_i c es n sl hk
    simp only [Bool.and_eq_true, Bool.not_eq_true'] at h
    obtain ⟨h1, h2, h3, h4⟩ := h
    have hc : c = "dict" := of_decide_eq_true h1
    have hs : sl = #[] := Array.isEmpty_iff.mp h2
    subst hc hs
    obtain ⟨r1, r2⟩ := gdL_ok h4
    refine ⟨⟨es, n, hk, fun e he => r1 e (by simpa using he), fun k => ?_⟩, h3⟩
    have := r2 k
    unfold findBy
    rw [← Array.find?_toList] <;> exact this
  · cases h
section
variable {X : Cx} {W : Wd} {E : XK} {k : Nat}
theorem gd_map {a : Addr} {ks : List (Int × PyData)} (D : GDic X.K a ks) {h : Heap} (hK : X.K.In h) : ∃ f, h.MapOf (intKind X.prog X.w) a f ∧ ∀ k, match kdAt ks k with
      | some d => ∃ u v, f k = some u ∧ RelV v u ∧ ∀ G, Dq X.K G v d
      | none => f k = none := by
  obtain ⟨es, n, hl, h1, h2⟩ := D.ex
  exact ⟨findBy Value.isInt es, ⟨_, es, n, hK _ _ hl, ⟨rfl, rfl, rfl⟩, rfl, h1, fun _ => rfl⟩, h2⟩
def gdInM (n : Bool) (ks : List (Int × PyData)) (f : M PyData) : M SV := M.bind f fun x => match x with
  | .int i => ret (.d (.bool (inB n (kdAt ks i).isSome)))
  | _ => failM
def gdIxM (ks : List (Int × PyData)) (f : M PyData) : M SV := M.bind f fun x => match x with
  | .int i => match kdAt ks i with
    | some d => ret (.d d)
    | none => failM
  | _ => failM
theorem gd_some {ks : List (Int × PyData)} {K : PySem.W.Frag} {f : Int → Option Value} (h : ∀ k, match kdAt ks k with
      | some d => ∃ u v, f k = some u ∧ RelV v u ∧ ∀ G, Dq K G v d
      | none => f k = none) (k : Int) : (f k).isSome = (kdAt ks k).isSome := by
  have := h k
  cases e : kdAt ks k with
  | none => rw [e] at this; rw [this] <;> rfl
  | some d =>
    rw [e] at this
    obtain ⟨u, v, e2, _⟩ := this
    rw [e2] <;> rfl
theorem op_inG {a : Addr} {ks : List (Int × PyData)} (D : GDic X.K a ks) : OpR X (compareOp .In) (fun x y H Q => ∃ i, x = .int i ∧ y = .ref a ∧ Q (.bl (kdAt ks i).isSome) H) := by
  intro pins s σ H x y v u Q I rx ry ⟨i, ex, ey, q⟩
  subst ex ey
  obtain ⟨t, rfl⟩ := rx
  cases ry
  obtain ⟨f, hm, hf⟩ := gd_map D I.kIn
  refine wpAny_in_of (knd := intKind X.prog X.w) (k := i) (by show Value.isInt i (.int i t) = true; simp [Value.isInt]) D.low hm ?_
  rw [gd_some hf i]
  exact ⟨.bl _, H, I.tok _, rfl, q⟩
theorem op_notInG {a : Addr} {ks : List (Int × PyData)} (D : GDic X.K a ks) : OpR X (compareOp .NotIn) (fun x y H Q => ∃ i, x = .int i ∧ y = .ref a ∧ Q (.bl (!(kdAt ks i).isSome)) H) := by
  intro pins s σ H x y v u Q I rx ry ⟨i, ex, ey, q⟩
  subst ex ey
  obtain ⟨t, rfl⟩ := rx
  cases ry
  obtain ⟨f, hm, hf⟩ := gd_map D I.kIn
  refine wpAny_notIn_of (knd := intKind X.prog X.w) (k := i) (by show Value.isInt i (.int i t) = true; simp [Value.isInt]) D.low hm ?_
  rw [gd_some hf i]
  exact ⟨.bl _, H, I.tok _, rfl, q⟩
theorem ix_G {a : Addr} {ks : List (Int × PyData)} (D : GDic X.K a ks) : IxR X (fun x y H Q => ∃ i d, x = .ref a ∧ y = .int i ∧ kdAt ks i = some d ∧ ∀ v, (∀ G, Dq X.K G v d) → Q v H) := by
  intro value slice pins s σ H x y v u Q I rx ry h hs
  obtain ⟨i, d, ex, ey, e, q⟩ := h
  subst ex ey
  cases rx
  obtain ⟨t, rfl⟩ := ry
  obtain ⟨f, hm, hf⟩ := gd_map D I.kIn
  have := hf i
  rw [e] at this
  obtain ⟨u0, v0, e2, rv, dv⟩ := this
  exact tail_any hm.typeIs slot_dict_getitem.lookup (wpAny_getItem_of (knd := intKind X.prog X.w) (k := i) (by show Value.isInt i (.int i t) = true; simp [Value.isInt]) hm e2 ⟨v0, H, I.tok _, rv, q v0 dv⟩) hs
theorem q_inG {a : Addr} {ks : List (Int × PyData)} {x : Str} {e : Expr} {f : M PyData} {px pos : Pos} (hf : PE X e (tD W E f)) (D : GDic X.K a ks) (hg : Gl X x) (hm : X.mg x = some (.ref a)) (hd : (x == ("__debug__" : Str)) = false := by decide) : PE X (.Compare e [.In] [.Name x px] pos) (tV W E (gdInM false ks f)) := by
  refine Nb.PE.imp (pe_cmpR (op_inG D) hf (pe_glob (v := .ref a) hg hm rfl hd) rfl) fun σ H Q ⟨G, ρ, l, h⟩ => ?_
  refine stepD l h fun x ρ1 v G1 H1 t dx h1 => ?_
  cases x <;> first | exact h1.elim | skip
  cases dx
  exact ⟨_, rfl, rfl, Go.d t.lk h1 (.bl _)⟩
theorem q_ninG {a : Addr} {ks : List (Int × PyData)} {x : Str} {e : Expr} {f : M PyData} {px pos : Pos} (hf : PE X e (tD W E f)) (D : GDic X.K a ks) (hg : Gl X x) (hm : X.mg x = some (.ref a)) (hd : (x == ("__debug__" : Str)) = false := by decide) : PE X (.Compare e [.NotIn] [.Name x px] pos) (tV W E (gdInM true ks f)) := by
  refine Nb.PE.imp (pe_cmpR (op_notInG D) hf (pe_glob (v := .ref a) hg hm rfl hd) rfl) fun σ H Q ⟨G, ρ, l, h⟩ => ?_
  refine stepD l h fun x ρ1 v G1 H1 t dx h1 => ?_
  cases x <;> first | exact h1.elim | skip
  cases dx
  exact ⟨_, rfl, rfl, Go.d t.lk h1 (.bl _)⟩
theorem t_inG {a : Addr} {ks : List (Int × PyData)} {x : Str} {e : Expr} {f : M PyData} {px pos : Pos} (hf : PE X e (tD W E f)) (D : GDic X.K a ks) (hg : Gl X x) (hm : X.mg x = some (.ref a)) (hd : (x == ("__debug__" : Str)) = false := by decide) : PT X (.Compare e [.In] [.Name x px] pos) (tT W E (tstM (gdInM false ks f))) := by
  refine tst_of (pt_cmpR (op_inG D) hf (pe_glob (v := .ref a) hg hm rfl hd) rfl) fun σ H Q ⟨G, ρ, l, h⟩ => ?_
  refine stepD l h fun x ρ1 v G1 H1 t dx h1 => ?_
  cases x <;> first | exact h1.elim | skip
  cases dx
  exact ⟨_, rfl, rfl, Go.d t.lk h1 (.bl _)⟩
theorem t_ninG {a : Addr} {ks : List (Int × PyData)} {x : Str} {e : Expr} {f : M PyData} {px pos : Pos} (hf : PE X e (tD W E f)) (D : GDic X.K a ks) (hg : Gl X x) (hm : X.mg x = some (.ref a)) (hd : (x == ("__debug__" : Str)) = false := by decide) : PT X (.Compare e [.NotIn] [.Name x px] pos) (tT W E (tstM (gdInM true ks f))) := by
  refine tst_of (pt_cmpR (op_notInG D) hf (pe_glob (v := .ref a) hg hm rfl hd) rfl) fun σ H Q ⟨G, ρ, l, h⟩ => ?_
  refine stepD l h fun x ρ1 v G1 H1 t dx h1 => ?_
  cases x <;> first | exact h1.elim | skip
  cases dx
  exact ⟨_, rfl, rfl, Go.d t.lk h1 (.bl _)⟩
theorem q_ixG (c : Kx X W E k) {a : Addr} {ks : List (Int × PyData)} {x : Str} {e : Expr} {f : M PyData} {px pos : Pos} (hf : PE X e (tD W E f)) (D : GDic X.K a ks) (hg : Gl X x) (hm : X.mg x = some (.ref a)) (hs : PlainIx e := by intro _ _; rfl) (hd : (x == ("__debug__" : Str)) = false := by decide) : PE X (.Subscript (.Name x px) e pos) (tV W E (gdIxM ks f)) := by
  refine Nb.PE.imp (pe_ix (ix_G D) (pe_glob (v := .ref a) hg hm rfl hd) hf hs) fun σ H Q ⟨G, ρ, l, h⟩ => ?_
  refine stepD l h fun x ρ1 v G1 H1 t dx h1 => ?_
  cases x <;> first | exact h1.elim | skip
  cases dx
  rename_i i
  dsimp only at h1
  cases e : kdAt ks i with
  | none => rw [e] at h1; exact h1.elim
  | some d =>
    rw [e] at h1
    exact ⟨i, d, rfl, rfl, e, fun v dv => Go.d t.lk h1 (by rw [← c.K]; exact dv _)⟩
end
end Nb

set_option Elab.async false
set_option linter.all false
set_option maxRecDepth 100000
set_option maxHeartbeats 4000000
namespace Nb
open PySem PySem.Spec L2 PyProof.Rows
section
variable {X : Cx} {W : Wd} {E : XK} {k : Nat}
theorem gl_by {x : Str} (h : X.env.kindOf x = some .globalImplicit) : Gl X x := h
/-! ### is True, is not True -/
def isBM (n : Bool) : Op2
  | .bool a, .bool b => ret (.d (.bool (inB n (decide (a = b)))))
  | _, _ => failM
theorem law_isB : Law2 W E (fun x y H Q => ∃ a b, x = .bl a ∧ y = .bl b ∧ Q (.bl (decide (a = b))) H) (isBM false) := by
  intro x y ρ σ G H Q v u l dx dy h1
  cases x <;> first | exact h1.elim | skip
  cases y <;> first | exact h1.elim | skip
  cases dx; cases dy
  exact ⟨_, _, rfl, rfl, Go.d l h1 (.bl _)⟩
theorem law_isnB : Law2 W E (fun x y H Q => ∃ a b, x = .bl a ∧ y = .bl b ∧ Q (.bl (!decide (a = b))) H) (isBM true) := by
  intro x y ρ σ G H Q v u l dx dy h1
  cases x <;> first | exact h1.elim | skip
  cases y <;> first | exact h1.elim | skip
  cases dx; cases dy
  exact ⟨_, _, rfl, rfl, Go.d l h1 (.bl _)⟩
theorem c_isB : Cp X W E .Is (isBM false) := ⟨_, op_is_bl, law_isB⟩
theorem c_isnB : Cp X W E .IsNot (isBM true) := ⟨_, op_isnot_bl, law_isnB⟩
/-! ### a, b = e1, e2 by the pair itself -/
theorem s_parT (i j : Nat) {x y : Str} {a b : Expr} {f g : M SV} {px py pt pos : Pos} {kt k2 pt2} (c : Kx X W E k) (hi : X.N[i]? = some x) (hj : X.N[j]? = some y)
    (hx : Loc X.env.scope x) (hy : Loc X.env.scope y) (ha : PE X a (tV W E f)) (hb : PE X b (tV W E g)) (hse : starEach [a, b] X.env = (false, eval a X.env) :: starEach [b] X.env := by rfl) (hse2 : starEach [b] X.env = (false, eval b X.env) :: starEach [] X.env := by rfl)
    (hw : swappedStores [.Tuple [.Name x px, .Name y py] kt pt] (.Tuple [a, b] k2 pt2) X.env = pure none)
    (hs : swapsWithSole [.Tuple [.Name x px, .Name y py] kt pt] (.Tuple [a, b] k2 pt2) pos.line X.env = pure false := by rfl)
    (hfx : X.fn x = true ∨ X.env.scope.names.lookup x = some .local := by first | exact .inl rfl | exact .inr rfl | assumption) (hfy : X.fn y = true ∨ X.env.scope.names.lookup y = some .local := by first | exact .inl rfl | exact .inr rfl | assumption) :
    PS X (.Assign [.Tuple [.Name x px, .Name y py] kt pt] (.Tuple [a, b] k2 pt2) pos) (tS W E (parM i j f g)) := by
  refine Nb.PS.imp (ps_asg (pe_tup (pa_cons ha (pa_cons hb pa_nil hse2) hse)) (pg_tup c.calm (pgs_cons (pg_name (i := i) c.nd hi hx hfx) (pgs_cons (pg_name (i := j) c.nd hj hy hfy) pgs_nil))) hs hw rfl) fun D σ H ⟨G, ρ, l, gg⟩ => ⟨G, ρ, l, ?_⟩
  refine stepVS gg fun w ρ1 v G1 H1 a1 r1 g1 => ⟨G1, ρ1, a1.lk, ?_⟩
  refine stepVS' a1 g1 fun u ρ2 z G2 H2 a2 r2 g2 => ⟨(by show 2 ≤ sizeLine; decide), fun p np => ⟨p, [v, z], rfl, .inl (.inl upd_same), rfl, v, [z], rfl, z, [], rfl, rfl, ?_⟩⟩
  have nh : Tr W ρ2 σ G2 H2 ρ2 σ G2 (upd H2 p (.tup [v, z])) := Tr.newH a2.lk np
  have b2 := a2.trans nh
  have a12 := a1.trans b2
  have r2' := r2.later a2.lk nh
  obtain ⟨hi2, tr, g3⟩ := GoS.put a12 (r1.later a1.lk b2) g2
  have r3 := ROk.apart (i := i) a1.lk a1 b2 r1 r2' hi2
  unfold M.bind at g3
  cases e : setS j u (ρ2.set i w) with
  | fail => rw [e] at g3; exact g3.elim
  | exn c => exact (setS_no e).elim
  | ok u' ρ3 =>
    rw [e] at g3
    obtain ⟨rfl, hj2, nb⟩ := setS_ok e
    exact g3 _ _ _ (tr.put r3 hj2 nb)
/-! ### a def by its name -/
structure Cl (P : Program) (w : World) (K : PySem.W.Frag) (mg : Str → Option Value) (base : Heap) (W : Wd) (x : Str) (kc n : Nat) (F : Mir) : Prop where
  ex : ∃ (f : Addr) (fd : FuncData) (ps : List Str), FnOk P w K mg base (L2.CX P w) kc f fd ps (spM W n F) ∧ mg x = some (.ref f) ∧ PySem.W.keepIn K (.ref f) = true ∧ Binds K fd ps []
theorem q_callC {n kc : Nat} {F : Mir} {x : Str} {p pos : Pos} {e : Expr} {es : List Expr} {g : M (List PyData)} (c : Kx X W E k) (C : Cl X.prog X.w X.K X.mg X.base W x kc n F) (hk : kc ≤ k) (hg : Gl X x)
    (ha : PA X (e :: es) (tL W E g)) (hdb : (x == ("__debug__" : Str)) = false := by decide) (he : starEach (e :: es) X.env = (false, eval e X.env) :: starEach es X.env := by rfl) (hpl : (backTo pos (starEach es X.env)).any (·.1) = false := by rfl) :
    PE X (.Call (.Name x p) (e :: es) [] pos) (tV W E (callM n F g)) := by
  obtain ⟨f, fd, ps, Fo, hm, hkp, hb⟩ := C.ex
  exact q_call c Fo hk hg hm hkp hb ha hdb he hpl
end
theorem fn_cl {P : Program} {w : World} {K : PySem.W.Frag} {mg : Str → Option Value} {base : Heap} {W : Wd} {x y qual : Str} {params : Arguments} {body : List Stmt} {scope : Scope} {f : Addr} {fd : FuncData} {N ps : List Str} {k : Nat} {B : M Fl} (F : FunD K x qual params body scope [] [] f fd) (gm : mg y = some (.ref f)) (S : FnScope N ps scope) (hK : W.K = K) (hb : Binds K fd ps [])
    (h : ∀ (A : Around) (outer : List Env) (s : Shared) (H : Hp) (E : XK), Ky (cxOf (L2.CX P w) P w K mg base N qual scope f fd.code A outer s H E) W E k → PSs (cxOf (L2.CX P w) P w K mg base N qual scope f fd.code A outer s H E) body (tS W E B)) :
    Cl P w K mg base W y (k + 1) ps.length (bodyM ps.length N.length B) :=
  ⟨f, fd, ps, fn_okD F S hK h, gm, F.kp, hb⟩
/-- a def's table -/
structure TabF (base : Heap) (mg : Str → Option Value) (W : Wd) (fd : FuncData) (kd : TK) : Prop where
  ex : ∃ c P : Addr, fd.code = .ref c ∧ GxR.TabB base mg c P ∧ (P, kd) ∈ W.T ∧ ∀ kd', (P, kd') ∈ W.T → kd' = kd
section
variable {X : Cx} {W : Wd} {E : XK} {k : Nat}
theorem q_callRC {n kc : Nat} {F : Mir} {x y : Str} {i : Nat} {p py pos : Pos} {es : List Expr} {g : M (List PyData)} (c : Kx X W E k) (C : Cl X.prog X.w X.K X.mg X.base W x kc n F) (hk : kc ≤ k) (hg : Gl X x)
    (hN : X.N[i]? = some y) (hv : Vis X.env.scope y) (ha : PA X es (tL W E g)) (hdb : (x == ("__debug__" : Str)) = false := by decide) (hd : (y == ("__debug__" : Str)) = false := by decide) (hcd : (y == ("__classdict__" : Str)) = false := by decide) (he : starEach (.Name y py :: es) X.env = (false, eval (.Name y py) X.env) :: starEach es X.env := by rfl) (hpl : (backTo pos (starEach es X.env)).any (·.1) = false := by rfl) :
    PE X (.Call (.Name x p) (.Name y py :: es) [] pos) (tV W E (callR n F i g)) := by
  obtain ⟨f, fd, ps, Fo, hm, hkp, hb⟩ := C.ex
  exact q_callR c i hN hv Fo hk hg hm hkp hb ha hd hcd hdb he hpl
theorem q_allF {is vs : List Nat} {elt tg iter : Expr} {scope : Scope} {own : List (Str × Nat)} {p pos gpos : Pos} {it : M (List PyData)} {g : AG} {te : M PyData} {fd : FuncData} (cx : Kx X W E (k + 1)) (T : TabF X.base X.mg W fd .gen) (hcode : X.env.code = fd.code) (hg : Gl X "all") (hm : X.mg "all" = none)
    (hi : PI X tg iter (tI W E it)) (ok : gnC X.N X.env.scope scope own = true) (hvs : own.map (·.2) = vs) (his : (is.all fun i => vs.contains i) = true)
    (hb : ∀ (s : Shared) (H : Hp) (C : Addr) (code : Value) (fp : List Addr), Kx (gctx X s H (gEnv X scope C code) fp) W E0 k → L2.PG (gctx X s H (gEnv X scope C code) fp) tg (tG W is g) ∧ PE (gctx X s H (gEnv X scope C code) fp) elt (tD W E0 te))
    (hs : ∀ v, genFold iter X.env v = pure v := by intro _; rfl) (he : starEach [.GeneratorExp elt [⟨tg, iter, [], 0⟩] scope gpos] X.env = (false, eval (.GeneratorExp elt [⟨tg, iter, [], 0⟩] scope gpos) X.env) :: starEach [] X.env := by rfl) :
    PE X (.Call (.Name "all" p) [.GeneratorExp elt [⟨tg, iter, [], 0⟩] scope gpos] [] pos) (tD W E (allM vs it g te)) := by
  obtain ⟨c, P, e, TB, hT, hu⟩ := T.ex
  exact q_all cx hg hm TB (hcode.trans e) hT (fun nm z => nomatch hu _ z) hi ok hvs his hb hs he
theorem q_all2F {is is1 vs vs1 : List Nat} {elt tg iter tg1 iter1 : Expr} {scope : Scope} {own : List (Str × Nat)} {p pos gpos : Pos} {it it1 : M (List PyData)} {g g1 : AG} {te : M PyData} {fd : FuncData} (cx : Kx X W E (k + 1)) (T : TabF X.base X.mg W fd .gen) (hcode : X.env.code = fd.code) (hg : Gl X "all") (hm : X.mg "all" = none)
    (hi : PI X tg iter (tI W E it)) (ok : gnC X.N X.env.scope scope own = true) (hvs : own.map (fun x : Str × Nat => x.2) = vs) (his : (is.all fun i => vs.contains i) = true) (his1 : (is1.all fun i => vs1.contains i) = true) (hv : ∀ i ∈ vs1, i ∈ vs)
    (hb : ∀ (s : Shared) (H : Hp) (C : Addr) (code : Value) (fp : List Addr), Kx (gctx X s H (gEnv X scope C code) fp) W E0 k → L2.PG (gctx X s H (gEnv X scope C code) fp) tg (tG W is g) ∧ PI (gctx X s H (gEnv X scope C code) fp) tg1 iter1 (tI W E0 it1) ∧ L2.PG (gctx X s H (gEnv X scope C code) fp) tg1 (tG W is1 g1) ∧ PE (gctx X s H (gEnv X scope C code) fp) elt (tD W E0 te))
    (hs : ∀ v, genFold iter X.env v = pure v := by intro _; rfl) (hs1 : ∀ env x, foldedSetIterable iter1 env x = pure x := by intro _ _; rfl) (he : starEach [.GeneratorExp elt [⟨tg, iter, [], 0⟩, ⟨tg1, iter1, [], 0⟩] scope gpos] X.env = (false, eval (.GeneratorExp elt [⟨tg, iter, [], 0⟩, ⟨tg1, iter1, [], 0⟩] scope gpos) X.env) :: starEach [] X.env := by rfl) :
    PE X (.Call (.Name "all" p) [.GeneratorExp elt [⟨tg, iter, [], 0⟩, ⟨tg1, iter1, [], 0⟩] scope gpos] [] pos) (tD W E (all2M vs vs1 it g it1 g1 te)) := by
  obtain ⟨c, P, e, TB, hT, hu⟩ := T.ex
  exact q_all2 cx hg hm TB (hcode.trans e) hT (fun nm z => nomatch hu _ z) hi ok hvs his his1 hv hb hs hs1 he
theorem q_callLamF {gx gn gqual p0 a pn : Str} {ga : Addr} {pg params : Arguments} {bg : List Stmt} {sg scope : Scope} {gfd fd : FuncData} {Ng : List Str} {e body : Expr} {p lpos pos : Pos} {own : List (Str × Nat)} {vs : List Nat} {i : Nat} {fe te : M PyData} {B : M Fl}
    (cx : Kx X W E (k + 2)) (T : TabF X.base X.mg W fd (.lam (fun _ _ => X.env.qual ++ "<lambda>"))) (hcode : X.env.code = fd.code) (hg : Gl X gx) (hm : X.mg gx = some (.ref ga)) (GF : FunD X.K gn gqual pg bg sg [] [] ga gfd)
    (Sg : FnScope Ng [p0, a] sg) (hbg : L2.Binds X.K gfd [p0, a] []) (hNa : Ng[1]? = some a) (hva : Vis sg a) (hdef : defaultsOf params X.env = ([], []))
    (ok : blkC X.N X.env.scope scope own = true) (hvs : own.map (fun x : Str × Nat => x.2) = vs) (hco : scope.isCoroutine = false) (hgen : scope.isGenerator = false) (hi : X.N[i]? = some pn) (hiv : i ∈ vs) (hpl : scope.names.lookup pn = some .local ∨ scope.names.lookup pn = some .cell)
    (hbind : ∀ (q : Str) (cl : List (Str × Addr)) (pm cv ctv u : Value), bindArgs (PySem.W.kla_fn "<lambda>" q params body scope cl pm cv ctv) ⟨[u], []⟩ = pure [(pn, u)])
    (he : PE X e (tD W E fe))
    (hbody : ∀ (A : Around) (outer : List Env) (s : Shared) (H : Hp) (f c' : Addr), Kx (lmCx X A outer s H scope f c') W E0 k → PE (lmCx X A outer s H scope f c') body (tD W E0 te))
    (hB : ∀ (W' : Wd) (cdg : Value) (A : Around) (outer : List Env) (s : Shared) (H : Hp), W'.K = W.K → Ky (cxOf (L2.CX X.prog X.w) X.prog X.w X.K X.mg X.base Ng gqual sg ga cdg A outer s H E) W' E (k + 1) → Act (cxOf (L2.CX X.prog X.w) X.prog X.w X.K X.mg X.base Ng gqual sg ga cdg A outer s H E) W' E 1 a →
      PSs (cxOf (L2.CX X.prog X.w) X.prog X.w X.K X.mg X.base Ng gqual sg ga cdg A outer s H E) bg (tS W' E B))
    (hdb : (gx == ("__debug__" : Str)) = false := by decide) (hd : (a == ("__debug__" : Str)) = false := by decide) (hcd : (a == ("__classdict__" : Str)) = false := by decide)
    (hse : starEach [e, .Lambda params body scope lpos] X.env = (false, eval e X.env) :: starEach [.Lambda params body scope lpos] X.env := by rfl) :
    PE X (.Call (.Name gx p) [e, .Lambda params body scope lpos] [] pos) (tV W E (callLamM Ng.length B te vs i fe)) := by
  obtain ⟨c, P, ec, TB, hT, hu⟩ := T.ex
  obtain ⟨oc, od, dV, kV, doc, pm, an, cdg, ct, osl, rfl, lk, hcg, _, _⟩ := GF.ex
  exact q_callLam cx hg hm GF.kp lk hcg Sg hbg hNa hva TB (hcode.trans ec) hT hu hdef ok hvs hco hgen hi hiv hpl hbind he hbody (fun W' A outer s H => hB W' cdg A outer s H) hdb hd hcd hse
theorem q_globI {x : Str} {i : Int} {pos : Pos} (h : ∃ t, X.mg x = some (.int i t)) (hg : Gl X x) (hdb : (x == ("__debug__" : Str)) = false := by decide) : PE X (.Name x pos) (tD W E (ret (.int i))) := by
  obtain ⟨t, h⟩ := h
  exact q_glob (v := .int i) hg h ⟨t, rfl⟩ (fun G => .int i) hdb
/-- len of what comes, a dict too -/
theorem q_lenE (c : Kx X W E k) {e : Expr} {f : M SV} {p pos : Pos} (hg : Gl X "len") (hm : X.mg "len" = none) (hf : PE X e (tV W E f)) (hs : starEach [e] X.env = (false, eval e X.env) :: starEach [] X.env := by rfl) : PE X (.Call (.Name "len" p) [e] [] pos) (tV W E (M.bind f lenS)) := by
  refine Nb.PE.imp (pe_callB (CallR.or call_len (CallR.or call_lenD call_len_dT)) hg hm PySem.boot_len (pa_cons hf pa_nil hs) (by decide) (by decide) hs) fun σ H Q ⟨G, ρ, l, h⟩ => ⟨G, ρ, l, ?_⟩
  refine stepV l h fun w ρ1 v G1 H1 a r h1 => ?_
  have dic : ∀ t ks p, DicAt t H1 p ks → Q (.int (ks.length : Nat)) H1 → ∀ R : Prop, ((∃ a kvs, [V.ref p] = [V.ref a] ∧ H1 a = some (.dK kvs) ∧ Q (.int kvs.length) H1) → R) → (rLenT [V.ref p] H1 Q → R) → R := fun t ks p hd q R r1 r2 => by
    rcases dic_len hd with ⟨kvs, e, el⟩ | ⟨kvs, e, el⟩
    · exact r1 ⟨p, kvs, rfl, e, by rw [el]; exact q⟩
    · exact r2 ⟨p, kvs, rfl, e, by rw [el]; exact q⟩
  have s := r.1
  cases w with
  | d y => obtain ⟨u, eu, dy⟩ := s; cases eu; exact .inl (law_len c.K y ρ1 σ G1 H1 Q _ a.lk (.inl dy) h1)
  | ls ys => obtain ⟨p, vs, eu, e1, e2, dy⟩ := s; cases eu; exact .inl (law_len c.K (.list ys) ρ1 σ G1 H1 Q _ a.lk (.inr ⟨p, vs, ys, rfl, rfl, e1, dy⟩) h1)
  | br ys => obtain ⟨p, vs, eu, e1, e2, dy⟩ := s; cases eu; exact .inl (law_len c.K (.list ys) ρ1 σ G1 H1 Q _ a.lk (.inr ⟨p, vs, ys, rfl, rfl, e1, dy⟩) h1)
  | dc t ks => obtain ⟨p, eu, e1, e2⟩ := s; cases eu; exact dic t ks p e1 (Go.d a.lk h1 (.int _)) _ (fun z => .inr (.inl z)) fun z => .inr (.inr z)
  | fd t ks => obtain ⟨p, eu, e1⟩ := s; cases eu; exact dic t ks p (e1.at fun o e => a.lk.sub p o e) (Go.d a.lk h1 (.int _)) _ (fun z => .inr (.inl z)) fun z => .inr (.inr z)
  | un => exact h1.elim
  | fn F => exact h1.elim
end
end Nb

set_option Elab.async false
set_option linter.all false
set_option maxRecDepth 100000
set_option maxHeartbeats 4000000
namespace Nb
open PySem PySem.Spec L2 PyProof.Rows
def scrD (ns : List Int) : PyData := .dict (ns.map fun n => (PyData.int n, PyData.none))
def W0 (K : PySem.W.Frag) (T : Tabs) : Wd := ⟨K, T, fun _ _ _ => False, fun _ h => h, fun _ _ _ _ => False⟩
/-- the law's promise from the mirror's end -/
theorem law_sp {K : PySem.W.Frag} {W : Wd} {F : Mir} {H : Hp} {a : Addr} {ns : List Int} {E : XK} (hK : W.K = K) (hT : ∀ p ∈ W.T, H p.1 = some (.tbl #[])) (hS : SqL K H a (ns.map V.int))
    (hF : ∃ ρ', F [.d (scrD ns)] = .ok (.d (.bool true)) ρ') : spM W 1 F [.ref a] H (fun v _ => v = .bl true) E := by
  subst hK
  obtain ⟨ρ', e⟩ := hF
  refine ⟨rfl, fun b => match H b with | some (.tbl _) => none | o => o, [.d (scrD ns)], ⟨fun b o h => ?_, fun b ps h => ?_, rfl, fun i w ov e1 e2 => ?_, fun i j wi wj p hij e1 e2 o1 o2 s1 s2 => ?_, fun p hp => ?_⟩, ?_⟩
  · cases q : H b with
    | none => rw [q] at h; exact h
    | some u => rw [q] at h; cases u <;> first | exact h | cases h
  · cases q : H b with
    | none => rw [q] at h; cases h
    | some u => rw [q] at h; cases u <;> cases h
  · cases i with
    | zero =>
      cases e1; cases e2
      refine ⟨_, rfl, .scr ?_ rfl⟩
      rcases hS with (h | ⟨o, h⟩) | h
      · exact .inl (.inl (by simp only [h]))
      · exact .inl (.inr ⟨o, by simp only [h]⟩)
      · exact .inr h
    | succ i => cases e1
  · cases i with
    | zero => cases e1; cases o1
    | succ i => cases e1
  · have h := hT p hp
    cases hk : p.2 with
    | gen => exact ⟨#[], h, True.intro⟩
    | lam nm => exact NdefX.TabN.nil h
  · rw [e]
    intro v G' H' _ rk
    obtain ⟨⟨v', ev, d⟩, _, _⟩ := rk
    cases ev
    cases d
    rfl
theorem tabF_of {base : Heap} {mg : Str → Option Value} {W : Wd} {K : PySem.W.Frag} {x n q : Str} {params : Arguments} {body : List Stmt} {scope : Scope} {fd : FuncData} {kd : TK} (F : FunD K n q params body scope [] [] (He.ga K x) fd)
    (hm : ((He.cT K (x, none)).2, kd) ∈ W.T) (nd : (W.T.map (·.1)).Nodup) (TB : GxR.TabB base mg (He.cT K (x, none)).1 (He.cT K (x, none)).2) : TabF base mg W fd kd := by
  obtain ⟨oc, od, dV, kV, doc, pm, an, cdv, ct, osl, e, lk, hcd, _, _⟩ := F.ex
  obtain ⟨c, ec⟩ := He.codeIn_ref hcd
  have e1 : fd.code = .ref c := by rw [e]; exact ec
  have e2 : He.codeOf K (x, none) = c := He.codeOf_eq (p := (x, none)) lk e1
  refine ⟨_, _, e1.trans (congrArg Value.ref e2.symm), TB, hm, fun kd' h' => ?_⟩
  have key : ∀ (T : Tabs) (P : Addr) (k1 k2 : TK), (T.map (·.1)).Nodup → (P, k1) ∈ T → (P, k2) ∈ T → k1 = k2 := by
    intro T
    induction T with
    | nil => intro _ _ _ _ h; cases h
    | cons t r ih =>
      intro P k1 k2 nd h1 h2
      rw [List.map_cons, List.nodup_cons] at nd
      rcases List.mem_cons.mp h1 with z1 | z1
      · rcases List.mem_cons.mp h2 with z2 | z2
        · rw [← z1] at z2; exact (Prod.mk.inj z2).2.symm
        · exact absurd (List.mem_map.mpr ⟨_, z2, by rw [← z1]⟩) nd.1
      · rcases List.mem_cons.mp h2 with z2 | z2
        · exact absurd (List.mem_map.mpr ⟨_, z1, by rw [← z2]⟩) nd.1
        · exact ih P k1 k2 nd.2 z1 z2
  exact key W.T _ _ _ nd h' hm
def ndB : List Addr → Bool
  | [] => true
  | a :: r => (r.all fun b => !(a == b)) && ndB r
theorem ndB_ok : ∀ {l : List Addr}, ndB l = true → l.Nodup
  | [], _ => List.nodup_nil
  | a :: r, h => by
    obtain ⟨h1, h2⟩ := Bool.and_eq_true_iff.mp (show ((r.all fun b => !(a == b)) && ndB r) = true from h)
    refine List.nodup_cons.mpr ⟨fun hm => ?_, ndB_ok h2⟩
    have z := List.all_eq_true.mp h1 a hm
    simp at z
theorem tabB_lg {base : Heap} {mg : Str → Option Value} {c P : Addr} (h : LamX.TabB base mg c P) : GxR.TabB base mg c P := ⟨h.1, h.2, h.3⟩
end Nb

set_option Elab.async false
set_option linter.all false
set_option maxRecDepth 100000
set_option maxHeartbeats 4000000
namespace Nb
open PySem PySem.Spec L2 PyProof.Rows
def W1 (K : PySem.W.Frag) (T : Tabs) : Wd := ⟨K, T, fun _ _ _ => False, fun _ h => h, fun c cls dx _ => dx = none ∧ cls = .ref (He.ga K c.cls)⟩
section
variable {X : Cx} {W : Wd} {E : XK} {k : Nat}
theorem s_neverB {ss : List Stmt} : PSs X ss (tS W E failM) := ⟨fun pins s σ H Q I ⟨G, ρ, l, g⟩ => (show False from g).elim⟩
/-! ### raise X(), X an own class without __init__ -/
structure ExC (K : PySem.W.Frag) (mg : Str → Option Value) (x : Str) : Prop where
  g : mg x = some (.ref (He.ga K x))
  ok : (He.Fa.exc x).ok K = true
  ex : (He.Fa.exm x x true).ok K = true
theorem pmk_own0 {C : Addr} {bmB : List Value} {B newId initId : String} {x : Str} {p pos : Pos} (F : ExcBaseFacts B newId initId bmB) (q : PySem.W.excIn X.K C bmB newId = true) (gC : X.mg x = some (.ref C)) (kC : PySem.W.keepIn X.K (.ref C) = true) (r : Raises X (.ref C)) (hg : Gl X x)
    (hdb : (x == ("__debug__" : Str)) = false := by decide) : PMk X (.Call (.Name x p) [] [] pos) (fun _ H Q => Q (.ref C) none H) := by
  intro pins s σ H Q I h
  refine wpAny_Call_Name_kw (ld_glob I hg gC ?_ hdb)
  refine PySem.W.callWith_K0 I.kIn kC ?_
  show wpAny _ _ (call (.ref C) []) _ _ _
  obtain ⟨bm, N, nm, qn, bs, hdct, sn, sub, ab, col, dd, k0, k1, k2, k3, k5, mN, hC, hN, hni, T⟩ := exc_obj I.kIn q
  refine wpAny_call_exc_subT F T hC hN hni (fun h' e hm => ?_) (Nat.zero_le _)
  exact mk_of I hm r h (I.hok.gone hm.new)
def excM (x : Str) : M Fl := fun _ => .exn ⟨x, []⟩
theorem s_raise0 {x : Str} {p pos pos' : Pos} (cy : Ky X W E k) (C : ExC X.K X.mg x) (hEx : ∀ H, W.Ex ⟨x, []⟩ (.ref (He.ga X.K x)) none H) (hg : Gl X x) (hdb : (x == ("__debug__" : Str)) = false := by decide) :
    PS X (.Raise (some (.Call (.Name x p) [] [] pos)) none pos') (tS W E (excM x)) := by
  obtain ⟨c1, c2, c3, c4⟩ := He.exc_ok C.ok
  refine Nb.PS.imp (ps_raise cy.calm cy.tk (pmk_own0 PySem.F.excBase_ValueError c1 C.g c2 (raises_own c3 c4) hg hdb)) fun D σ H ⟨G, ρ, l, g⟩ => ?_
  exact g _ _ H (hEx H) (fun b o e _ _ => e) (fun b ps e => ⟨ps, e⟩) l.tabs
/-! ### try: f(..) except X as n: suite -/
theorem Kx.tr (c : Kx X W E k) {pn : List (Addr × Obj)} {xe : Value → Shared → Prop} : Kx (X.tr pn xe) W E0 k :=
  ⟨c.K, c.calm, c.nd, c.room, fun _ _ _ _ _ _ _ h => by
    obtain ⟨_, _, _, _, _, _, _, _, _, _, _, _, z⟩ := h
    exact False.elim z⟩
theorem Tr.drop {ρ ρ1 : List SV} {σ σ1 : L2.St} {G H G1 H1 : Hp} {i : Nat} {ov : Option V} (a : Tr W ρ σ G H ρ1 σ1 G1 H1) (hi : i < ρ1.length) (nb : ∀ xs, ρ1[i]? ≠ some (.br xs)) :
    Tr W ρ σ G H (ρ1.set i .un) (σ1.set i ov) G1 H1 := by
  have hi2 : i < σ1.length := by rw [← a.lk.len]; exact hi
  have slots : ∀ (j : Nat) (u : SV), (ρ1.set i .un)[j]? = some u → (j = i ∧ u = .un) ∨ (j ≠ i ∧ ρ1[j]? = some u) := fun j u ej => by
    by_cases hj : j = i
    · subst hj
      rw [List.getElem?_set_self hi] at ej
      cases ej
      exact .inl ⟨rfl, rfl⟩
    · rw [List.getElem?_set_ne (Ne.symm hj)] at ej
      exact .inr ⟨hj, ej⟩
  have sl : ∀ (j : Nat), j ≠ i → (σ1.set i ov)[j]? = σ1[j]? := fun j hj => List.getElem?_set_ne (Ne.symm hj)
  have own : ∀ b, OwnS (ρ1.set i .un) (σ1.set i ov) b → OwnS ρ1 σ1 b := fun b ⟨j, u, ej, hu, sj⟩ => by
    rcases slots j u ej with ⟨rfl, rfl⟩ | ⟨hj, ej⟩
    · cases hu
    · rw [sl j hj] at sj
      exact ⟨j, u, ej, hu, sj⟩
  refine ⟨⟨a.lk.sub, a.lk.gt, by rw [List.length_set, List.length_set]; exact a.lk.len, fun j u ov' ej eo => ?_, fun j l wj wl q hjl ej el hj hl sj sll => ?_, a.lk.tabs⟩, a.fr, fun b hb => a.onew b (own b hb), fun j xs ej => ?_⟩
  · rcases slots j u ej with ⟨rfl, rfl⟩ | ⟨hj, ej⟩
    · trivial
    · rw [sl j hj] at eo; exact a.lk.slot j u ov' ej eo
  · rcases slots j wj ej with ⟨_, rfl⟩ | ⟨hj', ej⟩
    · cases hj
    · rcases slots l wl el with ⟨_, rfl⟩ | ⟨hl', el⟩
      · cases hl
      · rw [sl j hj'] at sj
        rw [sl l hl'] at sll
        exact a.lk.sep j l wj wl q hjl ej el hj hl sj sll
  · obtain ⟨xs', e1, e2⟩ := a.brs j xs ej
    have hj : j ≠ i := fun z => nb xs' (z ▸ e1)
    exact ⟨xs', by rw [List.getElem?_set_ne (Ne.symm hj)]; exact e1, by rw [sl j hj]; exact e2⟩
/-- the suite, slot i being the error's; behind it the slot is empty -/
def suiteM (i : Nat) (su : M Fl) : M Fl := M.bind (setS i .un) fun _ => M.bind su fun fl => M.bind (setS i .un) fun _ => ret fl
/-- f(..) as the body, X's errors alone caught -/
def tryE (i : Nat) (cx : Str) (n : Nat) (F : Mir) (g : M (List PyData)) (su : M Fl) : M Fl := fun ρ0 => match g ρ0 with
  | .ok xs ρ => if xs.length = n then match F (xs.map SV.d) with
    | .ok _ _ => .ok .nx ρ
    | .exn c => if c.cls = cx then suiteM i su ρ else .fail
    | .fail => .fail else .fail
  | _ => .fail
theorem suite_go {i : Nat} {su : M Fl} {ρ0 ρ : List SV} {σ0 σ : L2.St} {G0 H0 G H : Hp} {D : Ends} {v : V} (a : Tr W ρ0 σ0 G0 H0 ρ σ G H) (g : GoS W E (suiteM i su ρ) ρ0 σ0 G0 H0 D) :
    tS W E su { nx := fun σ' H' => D.nx (σ'.set i none) H', rt := D.rt, bk := fun σ' H' => D.bk (σ'.set i none) H', ct := fun σ' H' => D.ct (σ'.set i none) H' } (σ.set i (some v)) H := by
  unfold suiteM M.bind at g
  cases e : setS i .un ρ with
  | fail => rw [e] at g; exact g.elim
  | exn c => exact (setS_no e).elim
  | ok u ρ1 =>
    rw [e] at g
    obtain ⟨rfl, hi, nb⟩ := setS_ok e
    have b : Tr W ρ0 σ0 G0 H0 (ρ.set i .un) (σ.set i (some v)) G H := a.drop hi nb
    refine ⟨G, ρ.set i .un, b.lk, ?_⟩
    simp only [Res.bind] at g
    cases e2 : su (ρ.set i .un) with
    | fail => rw [e2] at g; exact g
    | exn c => rw [e2] at g; exact Wish.shift g b
    | ok fl ρ2 =>
      rw [e2] at g
      simp only at g
      cases e3 : setS i .un ρ2 with
      | fail => simp only [e3] at g; exact g.elim
      | exn c => exact (setS_no e3).elim
      | ok u2 ρ3 =>
        simp only [e3] at g
        obtain ⟨rfl, hi2, nb2⟩ := setS_ok e3
        cases fl with
        | nx => exact fun σ' G' H' t => g _ _ _ ((b.trans t).drop hi2 nb2)
        | bk => exact fun σ' G' H' t => g _ _ _ ((b.trans t).drop hi2 nb2)
        | ct => exact fun σ' G' H' t => g _ _ _ ((b.trans t).drop hi2 nb2)
        | rt w =>
          intro v' σ' G' H' t r
          have t2 := b.trans t
          refine g v' σ' G' H' (by
            have := t2.drop (ov := σ'[i]'(by rw [← t2.lk.len]; exact hi2)) hi2 nb2
            rw [show σ'.set i (σ'[i]'(by rw [← t2.lk.len]; exact hi2)) = σ' from List.set_getElem_self _] at this
            exact this) ⟨r.1, fun ho p ev => ?_, r.2.2⟩
          obtain ⟨n1, n2⟩ := r.2.1 ho p ev
          refine ⟨fun ⟨j, w', ej, hw', sj⟩ => n1 ?_, ?_⟩
          · by_cases hj : j = i
            · subst hj
              rw [List.getElem?_set_self hi2] at ej
              cases ej
              cases hw'
            · rw [List.getElem?_set_ne (Ne.symm hj)] at ej
              exact ⟨j, w', ej, hw', sj⟩
          · rcases n2 with z | z
            · exact b.fr.lost z
            · exact b.onew p z
theorem s_tryE (i : Nat) {n kc : Nat} {F : Mir} {f cx nm : Str} {p np pos pos2 pos3 pos' : Pos} {e : Expr} {es : List Expr} {g : M (List PyData)} {b₀ : Stmt} {suite : List Stmt} {su : M Fl} (cy : Ky X W E k) (C : Cl X.prog X.w X.K X.mg X.base W f kc n F) (hk : kc ≤ k) (hg : Gl X f) (XC : ExC X.K X.mg cx) (hcx : Gl X cx)
    (hEx : ∀ c cls dx H, W.Ex c cls dx H → dx = none ∧ cls = .ref (He.ga X.K c.cls))
    (hN : X.N[i]? = some nm) (hl : X.env.kindOf nm = some .local)
    (ha : ∀ (pn : List (Addr × Obj)) (xe : Value → Shared → Prop), Kx (X.tr pn xe) W E0 k → PA (X.tr pn xe) (e :: es) (tL W E0 g))
    (hsu : ∀ (a : Addr) (oe : Obj) (pn : List (Addr × Obj)), PSs (X.suite a ((a, oe) :: pn)) (b₀ :: suite) (tS W E su))
    (hs : X.stack = X.env :: X.outer := by rfl) (hf : X.env.frame = some X.env.locals := by rfl) (hdb : (f == ("__debug__" : Str)) = false := by decide) (hdx : (cx == ("__debug__" : Str)) = false := by decide) (he : starEach (e :: es) X.env = (false, eval e X.env) :: starEach es X.env := by rfl) (hpl : (backTo pos2 (starEach es X.env)).any (·.1) = false := by rfl) :
    PS X (.Try [.Expr (.Call (.Name f p) (e :: es) [] pos2) pos3] [.ExceptHandler (some (.Name cx np)) (some nm) (b₀ :: suite) pos'] [] [] pos) (tS W E (tryE i cx n F g su)) := by
  obtain ⟨fa, fd, ps, Fo, hm, hkp, hb⟩ := C.ex
  refine Nb.PS.imp (ps_try_as (i := i) (c := .ref (He.ga X.K cx)) (tb := fun Wx => tDrop (tCallS (spM W n F) (WE Wx) (tL W E0 g))) (ts := fun _ _ _ => tS W E su) (Wout := fun _ _ _ _ => False) hs hf cy.nd hN hl ⟨hcx, hdx, .inl XC.g⟩ takes0
    (fun Wx pn xe tk _ => pss_one (ps_expr (pe_callS (X := X.tr pn xe) (Fo.mono hk) cy.room hg hm hkp hb (fun σ => passAt tk σ) (ha pn xe cy.toKx.tr) hdb he hpl) rfl)) (fun a oe cls d pn _ _ => hsu a oe pn)) fun D σ H ⟨G, ρ, l, h⟩ => ?_
  -- the arguments
  show tL W E0 g σ H fun vs H1 => spM W n F vs H1 (fun _ H2 => D.nx σ H2) (WE (wAs X.K (.ref (He.ga X.K cx)) i (fun _ _ _ => tS W E su) (fun _ _ _ _ => False) D) σ)
  refine ⟨G, ρ, l, ?_⟩
  unfold tryE at h
  cases eg : g ρ with
  | fail => rw [eg] at h; exact h
  | exn c => rw [eg] at h; exact h.elim
  | ok xs ρ1 =>
    rw [eg] at h
    simp only at h
    intro vs G1 H1 a d
    by_cases hx : xs.length = n
    · rw [if_pos hx] at h
      refine ⟨by rw [DqAll.length d]; exact hx, G1, xs.map SV.d, lk_ds a.lk d, ?_⟩
      cases ef : F (xs.map SV.d) with
      | fail => rw [ef] at h; exact h
      | ok w ρ'' =>
        rw [ef] at h
        intro v G2 H2 b rk
        exact h σ G2 H2 (a.trans (Tr.noOwn (ρ' := ρ1) a.lk b))
      | exn cc =>
        rw [ef] at h
        simp only at h
        by_cases hc : cc.cls = cx
        · rw [if_pos hc] at h
          intro cls dx H' hx k u t
          obtain ⟨e1, e2⟩ := hEx cc cls dx H' hx
          subst e1 e2
          show wAs X.K (.ref (He.ga X.K cx)) i (fun _ _ _ => tS W E su) (fun _ _ _ _ => False) D _ _ σ H'
          refine ⟨true, by rw [hc]; exact He.exm_ok XC.ex, fun _ ae na => ?_, fun z => by cases z⟩
          -- what was ours stands: nothing of the callee's
          have fr : Tr W ρ1 σ G1 H1 ρ1 σ G1 H' := by
            have no : ∀ b, ¬ OwnS (xs.map SV.d) (vs.map some) b := fun b ⟨j, w, e1, e2, _⟩ => by
              rw [List.getElem?_map] at e1
              cases q : xs[j]? with
              | none => rw [q] at e1; cases e1
              | some x => rw [q] at e1; cases e1; cases e2
            refine Tr.frame a.lk ⟨fun b o e _ nt => k b o e (no b) nt, u, fun _ _ e => e, fun b o e => .inl e⟩ (fun b o e => ?_) a.lk.gt t
            exact k b o (a.lk.sub b o e) (no b) fun ps z => a.lk.gt b ps (by rw [e, z])
          exact suite_go (a.trans fr) h
        · rw [if_neg hc] at h
          exact h.elim
    · rw [if_neg hx] at h
      exact h.elim
end
end Nb

set_option Elab.async false
set_option linter.all false
set_option maxRecDepth 100000
set_option maxHeartbeats 4000000
namespace Nb
open PySem PySem.Spec L2 PyProof.Rows
section
variable {X : Cx} {W : Wd} {E : XK} {k : Nat}
/-! ### list(name), a dict too -/
theorem isk_dq {K : PySem.W.Frag} {H G : Hp} : ∀ {kk : List (List Key)} {bs : List Addr}, IsKeys H (kk.map fun k => (k, V.bl true)) bs → (∀ b ∈ bs, G b = H b) → DqAll K G (bs.map V.ref) (kk.map fun k => .tuple (k.map keyD))
  | [], _, h, _ => by
    have h : Paired _ [] _ := h
    cases h
    exact .nil
  | k :: kk, _, h, hg => by
    have h : Paired _ ((k, V.bl true) :: kk.map fun k => (k, V.bl true)) _ := h
    cases h with
    | cons h1 h2 => exact .cons (.tup ((hg _ List.mem_cons_self).trans h1) (dq_keysV k)) (isk_dq h2 fun b hb => hg b (List.mem_cons_of_mem _ hb))
theorem isk_tup {H : Hp} : ∀ {kk : List (List Key)} {bs : List Addr}, IsKeys H (kk.map fun k => (k, V.bl true)) bs → ∀ b ∈ bs, ∃ xs, H b = some (.tup xs)
  | [], _, h, b, hb => by
    have h : Paired _ [] _ := h
    cases h
    cases hb
  | k :: kk, _, h, b, hb => by
    have h : Paired _ ((k, V.bl true) :: kk.map fun k => (k, V.bl true)) _ := h
    cases h with
    | cons h1 h2 =>
      rcases List.mem_cons.mp hb with e | e
      · exact ⟨_, e ▸ h1⟩
      · exact isk_tup h2 b e
def listS : SV → M SV
  | .d y => listM y
  | .ls ys => listM (.list ys)
  | .br ys => listM (.list ys)
  | .dc _ ks => ret (.ls ks)
  | .fd _ ks => ret (.ls ks)
  | _ => failM
theorem q_listN (c : Kx X W E k) (i : Nat) {y : Str} {p py pos : Pos} (hg : Gl X "list") (hm : X.mg "list" = none) (hN : X.N[i]? = some y) (hv : Vis X.env.scope y) (hd : (y == ("__debug__" : Str)) = false := by decide) (hcd : (y == ("__classdict__" : Str)) = false := by decide) : PE X (.Call (.Name "list" p) [.Name y py] [] pos) (tV W E (slotM i listS)) := by
  refine Nb.PE.imp (pe_callTy (CallR.or call_list_of (CallR.or (call_list_dK c.calm) (call_list_dT c.calm))) hg hm (by decide +kernel) (pa_cons (pe_var hN hv hd hcd) pa_nil rfl) (by decide) (by decide) rfl) fun σ H Q ⟨G, ρ, l, h⟩ => ?_
  obtain ⟨w, ov, ew, es, s, h⟩ := slot_go l h
  have dic : ∀ t ks p, DicAt t H p ks → Go W E (.ok (.ls ks) ρ) ρ σ G H Q → (∃ a ys, [V.ref p] = [V.ref a] ∧ (SqL X.K H a ys ∨ SqT X.K H a ys) ∧ ∀ l, H l = none → Q (.ref l) (upd H l (.lst ys))) ∨ (rListD [V.ref p] H Q ∨ ∃ d kvs, [V.ref p] = [V.ref d] ∧ Rd H d (.dT kvs) ∧ ∀ p bs, H p = none → IsKeys H kvs bs → Q (.ref p) (upd H p (.lst (bs.map V.ref)))) := fun t ks p hd g => by
    unfold DicAt at hd
    cases t with
    | true =>
      obtain ⟨kk, h1, rfl⟩ := hd
      refine .inr (.inr ⟨p, _, rfl, .of h1, fun q bs nq ik => ?_⟩)
      obtain ⟨G', tr, hg⟩ := Tr.join l (fun b => b ∈ bs) fun b hb => isk_tup ik b hb
      exact Go.lst tr.lk (Go.shift g tr) nq (isk_dq ik fun b hb => hg b hb)
    | false =>
      obtain ⟨kk, h1, rfl⟩ := hd
      refine .inr (.inl ⟨p, _, rfl, h1, fun q nq => ?_⟩)
      have e : ((kk.map fun k => (k, V.bl true)).map fun kv => kV kv.1) = kk.map kV := by rw [List.map_map]; rfl
      rw [e]
      exact Go.lst l g nq (dq_keysV kk)
  cases w with
  | d y => obtain ⟨u, rfl, dy⟩ := s; exact ⟨u, es, .inl (law_list c.K y ρ σ G H Q u l (.inl dy) h)⟩
  | ls ys => obtain ⟨p, vs, rfl, h1, h2, dy⟩ := s; exact ⟨.ref p, es, .inl (law_list c.K (.list ys) ρ σ G H Q _ l (.inr ⟨p, vs, ys, rfl, rfl, h1, dy⟩) h)⟩
  | br ys => obtain ⟨p, vs, rfl, h1, h2, dy⟩ := s; exact ⟨.ref p, es, .inl (law_list c.K (.list ys) ρ σ G H Q _ l (.inr ⟨p, vs, ys, rfl, rfl, h1, dy⟩) h)⟩
  | dc t ks => obtain ⟨p, rfl, h1, h2⟩ := s; exact ⟨.ref p, es, dic t ks p h1 h⟩
  | fd t ks => obtain ⟨p, rfl, h1⟩ := s; exact ⟨.ref p, es, dic t ks p (h1.at fun o e => l.sub p o e) h⟩
  | un => exact h.elim
  | fn F => exact h.elim
/-! ### f() -/
theorem q_call0C {kc : Nat} {F : Mir} {x : Str} {p pos : Pos} (c : Kx X W E k) (C : Cl X.prog X.w X.K X.mg X.base W x kc 0 F) (hk : kc ≤ k) (hg : Gl X x) (hdb : (x == ("__debug__" : Str)) = false := by decide) :
    PE X (.Call (.Name x p) [] [] pos) (tV W E (callM 0 F (ret []))) := by
  obtain ⟨f, fd, ps, Fo, hm, hkp, hb⟩ := C.ex
  refine Nb.PE.imp (pe_call0 (Fo.mono hk) c.room hg hm hkp hb .nil c.pas hdb) fun σ H Q ⟨G, ρ, l, h⟩ => ?_
  show spM W 0 F ([] ++ []) H Q E
  have h1 : Go W E (match F [] with
    | .ok w _ => .ok w ρ
    | .exn c => .exn c
    | .fail => .fail) ρ σ G H Q := h
  refine ⟨rfl, G, [], lk_ds (ds := []) l .nil, ?_⟩
  cases ef : F [] with
  | fail => rw [ef] at h1; exact h1
  | exn cc =>
    rw [ef] at h1
    intro cls dx H' hx k u t
    exact h1 cls dx H' hx (fun b o e n nt => k b o e (fun ⟨i, w, e1, e2, _⟩ => by cases e1) nt) u t
  | ok w ρ'' =>
    rw [ef] at h1
    intro v G2 H2 b rk
    refine h1 v G2 H2 (Tr.noOwn (ds := []) (vs := []) (ρ' := ρ) l b) ⟨rk.1, fun ho p ev => ?_, rk.2.2⟩
    have np : H p = Option.none := by
      rcases (rk.2.1 ho p ev).2 with z | ⟨i, w', e1, e2, _⟩
      · exact z
      · cases e1
    exact ⟨notOwn l np, .inl np⟩
end
end Nb

set_option Elab.async false
set_option linter.all false
set_option maxRecDepth 100000
set_option maxHeartbeats 8000000
namespace Nb
open PySem PySem.Spec L2 PyProof.Rows
/-! mirrors, printed by gen.py -/
def ks_FACTORS : List (Int × PyData) := [(2, .int 1), (3, .int 2), (5, .int 2), (7, .int 3)]
def ks_BITS : List (Int × PyData) := [(4, .dict [(.none, .tuple [.int 0, .int 2, .int 3, .int 1])]), (8, .dict [(.none, .tuple [.int 0, .int 2, .int 4, .int 6, .int 3, .int 1, .int 7, .int 5])])]
def B_is_number : M Fl := (retM (andV (toD (M.bind (getD 0) (isiM "int"))) (andV (notV (toD (M.bind (getD 0) (isiM "bool")))) (chnV (ordM fun i j => decide (i ≤ j)) (ordM fun i j => decide (i ≤ j)) (getD 1) (getD 0) (getD 2)))))
def F_is_number : Mir := bodyM 3 3 B_is_number
def B_is_turn : M Fl := (seqM (ifM (orT (notT (truM (toD (M.bind (getD 1) (isiM "tuple"))))) (orT (tstM (binM (eqM true) (toD (lenN 1)) (getD 0))) (notT (truM (allM [2] (seqI (getD 1)) (gN 2) (toD (callM 3 F_is_number (consM (getD 2) (consM (ret (.int 0)) (consM (toD (binM subM (getD 0) (ret (.int 1)))) (ret []))))))))))) (retM (toV (ret (.bool false)))) (ret .nx)) (retM (binM (eqM false) (toD (slotM 1 srtS)) (toD (M.bind (getD 0) lrgM)))))
def F_is_turn : Mir := bodyM 2 3 B_is_turn
def B_wrong_part : M Fl := (seqM (ifM (orT (notT (truM (toD (M.bind (getD 0) (isiM "tuple"))))) (tstM (binM (eqM true) (toD (lenN 0)) (ret (.int 2))))) (retM (toV (ret (.str "whole")))) (ret .nx)) (seqM (asgM (gTupM 2 (gsCons (gN 2) (gsCons (gN 1) gsNil))) (getD 0)) (seqM (ifM (notT (truM (toD (callM 3 F_is_number (consM (getD 2) (consM (ret (.int 1)) (consM (ret (.int 8)) (ret [])))))))) (retM (toV (ret (.str "halls")))) (ret .nx)) (seqM (ifM (orT (notT (truM (toD (M.bind (getD 1) (isiM "tuple"))))) (notT (tstM (chnV (ordM fun i j => decide (i ≤ j)) (ordM fun i j => decide (i ≤ j)) (ret (.int 1)) (toD (lenN 1)) (ret (.int 6)))))) (retM (toV (ret (.str "turns")))) (ret .nx)) (retM (iteV (truM (allM [3] (seqI (getD 1)) (gN 3) (toD (callM 2 F_is_turn (consM (getD 2) (consM (getD 3) (ret []))))))) (toV (ret (.none))) (toV (ret (.str "turns")))))))))
def F_wrong_part : Mir := bodyM 1 4 B_wrong_part
def B_is_house : M Fl := (retM (binM (isNM false) (toD (callM 1 F_wrong_part (consM (getD 0) (ret [])))) (ret (.none))))
def F_is_house : Mir := bodyM 1 1 B_is_house
def B_need_house : M Fl := (seqM (setM 1 (callM 1 F_wrong_part (consM (getD 0) (ret [])))) (ifM (tstM (binM (isNM true) (getD 1) (ret (.none)))) failM (ret .nx)))
def F_need_house : Mir := bodyM 1 2 B_need_house
def B_still : M Fl := (retM (M.bind (getD 0) trgM))
def F_still : Mir := bodyM 1 1 B_still
def B_then : M Fl := (retM (M.bind (toD (lcM [2] (seqI (getD 0)) (gN 2) yesM (toD (binP idxM 1 (getD 2))))) tupcM))
def F_then : Mir := bodyM 2 3 B_then
def L_is_small_1 : M Fl := (seqM (setM 7 (callM 2 F_then (consM (getD 5) (consM (getD 6) (ret []))))) (ifM (tstM (inN true (getD 7) 3)) (seqM (stoM 3 (getD 7) (ret (.bool true))) (dropM (appM 4 (getD 7)))) (ret .nx)))
def C_is_small_0 : M Bool := (andT (truM (peek 4)) (tstM (binM (ordM fun i j => decide (i ≤ j)) (toD (lenN 3)) (getD 1))))
def L_is_small_0 : M Fl := (seqM (setM 5 (popM 4)) (forS (seqI (toD (binP idxM 0 (ret (.int 1))))) (gN 6) L_is_small_1))
def B_is_small : M Fl := (seqM (setM 2 (callM 1 F_still (consM (toD (binP idxM 0 (ret (.int 0)))) (ret [])))) (seqM (parM 3 4 (disp1M (getD 2) (ret (.bool true))) (lstM (consM (getD 2) (ret [])))) (seqM (whileM C_is_small_0 L_is_small_0 20000000) (retM (binM (ordM fun i j => decide (i ≤ j)) (toD (lenN 3)) (getD 1))))))
def F_is_small : Mir := bodyM 2 8 B_is_small
def L_lots_of_2 : M Fl := (ifM (tstM (inN true (getD 7) 4)) (seqM (stoM 4 (getD 7) (ret (.bool true))) (dropM (appM 5 (getD 7)))) (ret .nx))
def C_lots_of_1 : M Bool := (truM (peek 5))
def L_lots_of_1 : M Fl := (seqM (setM 6 (popM 5)) (forS (seqI (callF 1 (consM (getD 6) (ret [])))) (gN 7) L_lots_of_2))
def C_lots_of_0 : M Bool := (truM (peek 2))
def L_lots_of_0 : M Fl := (seqM (parM 4 5 (disp1M (toD (binP idxM 2 (ret (.int 0)))) (ret (.bool true))) (lstM (consM (toD (binP idxM 2 (ret (.int 0)))) (ret [])))) (seqM (whileM C_lots_of_1 L_lots_of_1 20000000) (seqM (dropM (appM 3 (toD (M.bind (toD (slotM 4 srtS)) tupcM)))) (setM 2 (lcM [6] (seqI (getD 2)) (gN 6) (tstM (inN true (getD 6) 4)) (getD 6))))))
def B_lots_of : M Fl := (seqM (parM 2 3 (slotM 0 listS) (lstM (ret []))) (seqM (whileM C_lots_of_0 L_lots_of_0 20000000) (retM (slotM 3 srtS))))
def F_lots_of : Mir := bodyM 2 8 B_lots_of
def B_parts_of : M Fl := (retM (callLamM 8 B_lots_of (toD (lcM [2] (seqI (toD (binP idxM 0 (ret (.int 1))))) (gN 2) yesM (toD (binP idxM 2 (getD 1))))) [1] 1 (toD (M.bind (toD (binP idxM 0 (ret (.int 0)))) lrgM))))
def F_parts_of : Mir := bodyM 1 3 B_parts_of
def B_is_transitive : M Fl := (seqM (dropM (callM 1 F_need_house (consM (getD 0) (ret [])))) (retM (binM (eqM false) (toD (M.bind (callM 1 F_parts_of (consM (getD 0) (ret []))) lenS)) (ret (.int 1)))))
def F_is_transitive : Mir := bodyM 1 1 B_is_transitive
def B_pair_lots_of : M Fl := (seqM (setM 1 (lc2M [2, 3] [3] (rgI1 (toD (binP idxM 0 (ret (.int 0))))) (gN 2) yesM (rgI1 (toD (binP idxM 0 (ret (.int 0))))) (gN 3) yesM (tupM (consM (getD 2) (consM (getD 3) (ret [])))))) (retM (callLamM 8 B_lots_of (toD (lcM [5] (seqI (toD (binP idxM 0 (ret (.int 1))))) (gN 5) yesM (tupM (consM (toD (binP idxM 5 (toD (binP idxM 4 (ret (.int 0)))))) (consM (toD (binP idxM 5 (toD (binP idxM 4 (ret (.int 1)))))) (ret [])))))) [4] 4 (getD 1))))
def F_pair_lots_of : Mir := bodyM 1 6 B_pair_lots_of
def B_need_whole : M Fl := (seqM (dropM (callM 1 F_need_house (consM (getD 0) (ret [])))) (ifM (orT (tstM (binM (ordM fun i j => decide (i < j)) (toD (binP idxM 0 (ret (.int 0)))) (ret (.int 2)))) (tstM (binM (ordM fun i j => decide (j < i)) (toD (M.bind (callM 1 F_parts_of (consM (getD 0) (ret []))) lenS)) (ret (.int 1))))) failM (ret .nx)))
def F_need_whole : Mir := bodyM 1 1 B_need_whole
def B_is_sharp : M Fl := (seqM (dropM (callM 1 F_need_whole (consM (getD 0) (ret [])))) (retM (andV (toD (binM (eqM false) (toD (M.bind (callM 1 F_pair_lots_of (consM (getD 0) (ret []))) lenS)) (ret (.int 2)))) (callM 2 F_is_small (consM (getD 0) (consM (toD (binM mulM (toD (binP idxM 0 (ret (.int 0)))) (toD (binM subM (toD (binP idxM 0 (ret (.int 0)))) (ret (.int 1)))))) (ret [])))))))
def F_is_sharp : Mir := bodyM 1 1 B_is_sharp
def B_need_halls : M Fl := (ifM (notT (truM (toD (callM 3 F_is_number (consM (getD 0) (consM (ret (.int 2)) (consM (ret (.int 8)) (ret [])))))))) (excM "BadNumber") (ret .nx))
def F_need_halls : Mir := bodyM 1 1 B_need_halls
def B_sharp_house : M Fl := (seqM (dropM (callM 1 F_need_halls (consM (getD 0) (ret [])))) (seqM (ifM (tstM (gdInM false ks_FACTORS (getD 0))) (seqM (setM 1 (M.bind (toD (lcM [2] (rgI1 (getD 0)) (gN 2) yesM (toD (binM modM (toD (binM addM (getD 2) (ret (.int 1)))) (getD 0))))) tupcM)) (retM (toV (tupM (consM (getD 0) (consM (tupM (consM (getD 1) (consM (toD (M.bind (toD (lcM [2] (rgI1 (getD 0)) (gN 2) yesM (toD (binM modM (toD (binM mulM (getD 2) (toD (gdIxM ks_FACTORS (getD 0))))) (getD 0))))) tupcM)) (ret [])))) (ret []))))))) (ret .nx)) (seqM (ifM (tstM (gdInM false ks_BITS (getD 0))) (retM (toV (tupM (consM (getD 0) (consM (tupM (consM (toD (M.bind (toD (lcM [2] (rgI1 (getD 0)) (gN 2) yesM (toD (binM subM (toD (binM addM (getD 2) (ret (.int 1)))) (toD (binM mulM (ret (.int 2)) (toD (binM modM (getD 2) (ret (.int 2)))))))))) tupcM)) (consM (toD (gdIxM ks_BITS (getD 0))) (ret [])))) (ret [])))))) (ret .nx)) (retM (toV (ret (.none)))))))
def F_sharp_house : Mir := bodyM 1 3 B_sharp_house
def B_shows_sharp : M Fl := (seqM (dropM (callM 1 F_need_halls (consM (getD 0) (ret [])))) (seqM (ifM (tstM (binM (isNM false) (getD 1) (ret (.none)))) (retM (andV (toD (gdInM true ks_FACTORS (getD 0))) (gdInM true ks_BITS (getD 0)))) (ret .nx)) (seqM (ifM (orT (notT (truM (toD (callM 1 F_is_house (consM (getD 1) (ret [])))))) (orT (tstM (binM (eqM true) (toD (binP idxM 1 (ret (.int 0)))) (getD 0))) (notT (truM (toD (callM 1 F_is_transitive (consM (getD 1) (ret [])))))))) (retM (toV (ret (.bool false)))) (ret .nx)) (retM (callM 1 F_is_sharp (consM (getD 1) (ret [])))))))
def F_shows_sharp : Mir := bodyM 2 2 B_shows_sharp
def B__law_taken : M Fl := (seqM (ifM (tstM (binM (ordM fun i j => decide (j < i)) (toD (binP idxM 0 (ret (.int 3)))) (ret (.int 0)))) (seqM (setM 2 (binM modM (toD (M.bind (toD (binP idxM 0 (ret (.int 3)))) intcM)) (getD 1))) (seqM (stoM 0 (ret (.int 3)) (toD (binM fdivM (toD (binP idxM 0 (ret (.int 3)))) (getD 1)))) (retM (getV 2)))) (ret .nx)) (seqM (stoM 0 (ret (.int 1)) (toD (binM addM (toD (binP idxM 0 (ret (.int 1)))) (ret (.int 1))))) (seqM (ifM (tstM (binM (ordM fun i j => decide (j < i)) (toD (binP idxM 0 (ret (.int 1)))) (toD (M.bind (toD (binP idxM 0 (ret (.int 0)))) lenM)))) (seqM (stoM 0 (ret (.int 2)) (toD (binM modM (toD (M.bind (toD (binM addM (toD (binM mulM (toD (binP idxM 0 (ret (.int 2)))) (ret (.int 48271)))) (ret (.int 11)))) intcM)) (ret (.int 2147483647))))) (retM (binM modM (toD (M.bind (toD (binM fdivM (toD (binP idxM 0 (ret (.int 2)))) (ret (.int 7)))) intcM)) (getD 1)))) (ret .nx)) (seqM (setM 3 (binM idxM (toD (binP idxM 0 (ret (.int 0)))) (toD (binM subM (toD (binP idxM 0 (ret (.int 1)))) (ret (.int 1)))))) (seqM (stoM 0 (ret (.int 2)) (toD (binM modM (toD (M.bind (toD (binM addM (toD (binM addM (toD (binM mulM (toD (binP idxM 0 (ret (.int 2)))) (ret (.int 48271)))) (getD 3))) (ret (.int 11)))) intcM)) (ret (.int 2147483647))))) (seqM (ifM (tstM (binM (ordM fun i j => decide (j ≤ i)) (getD 3) (toD (binM powM (ret (.int 10)) (ret (.int 18)))))) (stoM 0 (ret (.int 3)) (toD (binM fdivM (getD 3) (getD 1)))) (ret .nx)) (retM (binM modM (toD (M.bind (getD 3) intcM)) (getD 1)))))))))
def F__law_taken : Mir := bodyM 2 4 B__law_taken
def B__law_pick : M Fl := (retM (binP idxM 1 (toD (callR 2 F__law_taken 0 (consM (toD (lenN 1)) (ret []))))))
def F__law_pick : Mir := bodyM 2 2 B__law_pick
def B__law_alike (R : Mir) : M Fl := (seqM (ifM (truM (toD (M.bind (getD 1) isiTLM))) (seqM (ifM (orT (notT (truM (toD (M.bind (getD 0) isiTLM)))) (tstM (binM (eqM true) (toD (M.bind (getD 0) (isiM "list"))) (toD (M.bind (getD 1) (isiM "list")))))) (retM (toV (ret (.bool false)))) (ret .nx)) (seqM (ifM (tstM (binM (eqM true) (toD (lenN 0)) (toD (lenN 1)))) (retM (toV (ret (.bool false)))) (ret .nx)) (retM (binM (eqM false) (toD (lcM [2] (rgI1 (toD (lenN 1))) (gN 2) (notT (truM (toD (callM 2 R (consM (toD (binP idxM 0 (getD 2))) (consM (toD (binP idxM 1 (getD 2))) (ret []))))))) (getD 2))) (toD (lstM (ret []))))))) (ret .nx)) (seqM (ifM (orT (tstM (binM (isNM false) (getD 1) (ret (.none)))) (truM (toD (M.bind (getD 1) (isiM "str"))))) (retM (andV (toD (binP (eqM false) 0 (getD 1))) (binM (eqM false) (toD (M.bind (getD 0) (isiM "str"))) (toD (M.bind (getD 1) (isiM "str")))))) (ret .nx)) (retM (andV (toD (M.bind (getD 0) (isiM "int"))) (andV (toD (binM (eqM false) (toD (M.bind (getD 0) (isiM "bool"))) (toD (M.bind (getD 1) (isiM "bool"))))) (binP (eqM false) 0 (getD 1)))))))
def F__law_alike : Nat → Mir
  | 0 => bodyM 2 3 failM
  | n + 1 => bodyM 2 3 (B__law_alike (F__law_alike n))
def C__law_turn_0 : M Bool := (tstM (binP (eqM true) 3 (toD (lstM (ret [])))))
def L__law_turn_0 : M Fl := (setM 2 (binM addM (getD 2) (tupM (consM (toD (popAtM 3 (toD (callR 2 F__law_taken 0 (consM (toD (lenN 3)) (ret [])))))) (ret [])))))
def B__law_turn : M Fl := (seqM (parM 2 3 (toV (tupM (ret []))) (M.bind (getD 1) lrgM)) (seqM (whileM C__law_turn_0 L__law_turn_0 20000000) (retM (getV 2))))
def F__law_turn : Mir := bodyM 2 4 B__law_turn
def B__law_circle : M Fl := (retM (M.bind (toD (lcM [2] (rgI1 (getD 0)) (gN 2) yesM (toD (binM modM (toD (binM addM (getD 2) (getD 1))) (getD 0))))) tupcM))
def F__law_circle : Mir := bodyM 2 3 B__law_circle
def L__law_members_1 : M Fl := (seqM (setM 6 (M.bind (toD (lcM [7] (seqI (getD 4)) (gN 7) yesM (toD (binP idxM 5 (getD 7))))) tupcM)) (ifM (tstM (inN true (getD 6) 2)) (seqM (stoM 2 (getD 6) (ret (.bool true))) (dropM (appM 3 (getD 6)))) (ret .nx)))
def C__law_members_0 : M Bool := (tstM (binP (eqM true) 3 (toD (lstM (ret [])))))
def L__law_members_0 : M Fl := (seqM (setM 4 (popM 3)) (forS (seqI (getD 0)) (gN 5) L__law_members_1))
def B__law_members : M Fl := (seqM (parM 2 3 (disp1M (toD (M.bind (getD 1) trgM)) (ret (.bool true))) (lstM (consM (toD (M.bind (getD 1) trgM)) (ret [])))) (seqM (whileM C__law_members_0 L__law_members_0 20000000) (retM (slotM 2 listS))))
def F__law_members : Mir := bodyM 2 8 B__law_members
def B__law_known_groups : M Fl := (seqM (setM 0 (lstM (consM (tupM (consM (ret (.int 2)) (consM (tupM (consM (tupM (consM (ret (.int 1)) (consM (ret (.int 0)) (ret [])))) (ret []))) (ret [])))) (consM (tupM (consM (ret (.int 3)) (consM (tupM (consM (tupM (consM (ret (.int 1)) (consM (ret (.int 2)) (consM (ret (.int 0)) (ret []))))) (ret []))) (ret [])))) (consM (tupM (consM (ret (.int 3)) (consM (tupM (consM (tupM (consM (ret (.int 1)) (consM (ret (.int 2)) (consM (ret (.int 0)) (ret []))))) (consM (tupM (consM (ret (.int 0)) (consM (ret (.int 2)) (consM (ret (.int 1)) (ret []))))) (ret [])))) (ret [])))) (ret [])))))) (seqM (setM 0 (binM addM (getD 0) (toD (lstM (consM (tupM (consM (ret (.int 4)) (consM (tupM (consM (toD (callM 2 F__law_circle (consM (ret (.int 4)) (consM (ret (.int 1)) (ret []))))) (ret []))) (ret [])))) (consM (tupM (consM (ret (.int 4)) (consM (tupM (consM (tupM (consM (ret (.int 1)) (consM (ret (.int 0)) (consM (ret (.int 3)) (consM (ret (.int 2)) (ret [])))))) (consM (tupM (consM (ret (.int 2)) (consM (ret (.int 3)) (consM (ret (.int 0)) (consM (ret (.int 1)) (ret [])))))) (ret [])))) (ret [])))) (ret []))))))) (seqM (setM 0 (binM addM (getD 0) (toD (lstM (consM (tupM (consM (ret (.int 4)) (consM (tupM (consM (tupM (consM (ret (.int 1)) (consM (ret (.int 2)) (consM (ret (.int 0)) (consM (ret (.int 3)) (ret [])))))) (consM (tupM (consM (ret (.int 1)) (consM (ret (.int 0)) (consM (ret (.int 3)) (consM (ret (.int 2)) (ret [])))))) (ret [])))) (ret [])))) (consM (tupM (consM (ret (.int 4)) (consM (tupM (consM (toD (callM 2 F__law_circle (consM (ret (.int 4)) (consM (ret (.int 1)) (ret []))))) (consM (tupM (consM (ret (.int 0)) (consM (ret (.int 3)) (consM (ret (.int 2)) (consM (ret (.int 1)) (ret [])))))) (ret [])))) (ret [])))) (ret []))))))) (seqM (setM 0 (binM addM (getD 0) (toD (lstM (consM (tupM (consM (ret (.int 4)) (consM (tupM (consM (tupM (consM (ret (.int 1)) (consM (ret (.int 2)) (consM (ret (.int 3)) (consM (ret (.int 0)) (ret [])))))) (consM (tupM (consM (ret (.int 1)) (consM (ret (.int 0)) (consM (ret (.int 2)) (consM (ret (.int 3)) (ret [])))))) (ret [])))) (ret [])))) (ret [])))))) (seqM (setM 0 (binM addM (getD 0) (toD (lstM (consM (tupM (consM (ret (.int 5)) (consM (tupM (consM (toD (callM 2 F__law_circle (consM (ret (.int 5)) (consM (ret (.int 1)) (ret []))))) (ret []))) (ret [])))) (consM (tupM (consM (ret (.int 5)) (consM (tupM (consM (toD (callM 2 F__law_circle (consM (ret (.int 5)) (consM (ret (.int 1)) (ret []))))) (consM (tupM (consM (ret (.int 0)) (consM (ret (.int 4)) (consM (ret (.int 3)) (consM (ret (.int 2)) (consM (ret (.int 1)) (ret []))))))) (ret [])))) (ret [])))) (ret []))))))) (seqM (setM 0 (binM addM (getD 0) (toD (lstM (consM (tupM (consM (ret (.int 5)) (consM (tupM (consM (toD (callM 2 F__law_circle (consM (ret (.int 5)) (consM (ret (.int 1)) (ret []))))) (consM (tupM (consM (ret (.int 0)) (consM (ret (.int 2)) (consM (ret (.int 4)) (consM (ret (.int 1)) (consM (ret (.int 3)) (ret []))))))) (ret [])))) (ret [])))) (ret [])))))) (seqM (setM 0 (binM addM (getD 0) (toD (lstM (consM (tupM (consM (ret (.int 5)) (consM (tupM (consM (tupM (consM (ret (.int 1)) (consM (ret (.int 2)) (consM (ret (.int 0)) (consM (ret (.int 3)) (consM (ret (.int 4)) (ret []))))))) (consM (tupM (consM (ret (.int 0)) (consM (ret (.int 1)) (consM (ret (.int 3)) (consM (ret (.int 4)) (consM (ret (.int 2)) (ret []))))))) (ret [])))) (ret [])))) (consM (tupM (consM (ret (.int 6)) (consM (tupM (consM (toD (callM 2 F__law_circle (consM (ret (.int 6)) (consM (ret (.int 1)) (ret []))))) (ret []))) (ret [])))) (ret []))))))) (seqM (setM 0 (binM addM (getD 0) (toD (lstM (consM (tupM (consM (ret (.int 6)) (consM (tupM (consM (toD (callM 2 F__law_circle (consM (ret (.int 6)) (consM (ret (.int 1)) (ret []))))) (consM (tupM (consM (ret (.int 0)) (consM (ret (.int 5)) (consM (ret (.int 4)) (consM (ret (.int 3)) (consM (ret (.int 2)) (consM (ret (.int 1)) (ret [])))))))) (ret [])))) (ret [])))) (ret [])))))) (seqM (setM 0 (binM addM (getD 0) (toD (lstM (consM (tupM (consM (ret (.int 6)) (consM (tupM (consM (tupM (consM (ret (.int 1)) (consM (ret (.int 2)) (consM (ret (.int 0)) (consM (ret (.int 4)) (consM (ret (.int 5)) (consM (ret (.int 3)) (ret [])))))))) (consM (tupM (consM (ret (.int 3)) (consM (ret (.int 5)) (consM (ret (.int 4)) (consM (ret (.int 0)) (consM (ret (.int 2)) (consM (ret (.int 1)) (ret [])))))))) (ret [])))) (ret [])))) (consM (tupM (consM (ret (.int 6)) (consM (tupM (consM (tupM (consM (ret (.int 1)) (consM (ret (.int 2)) (consM (ret (.int 3)) (consM (ret (.int 4)) (consM (ret (.int 0)) (consM (ret (.int 5)) (ret [])))))))) (consM (tupM (consM (ret (.int 5)) (consM (ret (.int 4)) (consM (ret (.int 2)) (consM (ret (.int 3)) (consM (ret (.int 1)) (consM (ret (.int 0)) (ret [])))))))) (ret [])))) (ret [])))) (ret []))))))) (seqM (setM 0 (binM addM (getD 0) (toD (lstM (consM (tupM (consM (ret (.int 7)) (consM (tupM (consM (toD (callM 2 F__law_circle (consM (ret (.int 7)) (consM (ret (.int 1)) (ret []))))) (consM (tupM (consM (ret (.int 0)) (consM (ret (.int 2)) (consM (ret (.int 4)) (consM (ret (.int 6)) (consM (ret (.int 1)) (consM (ret (.int 3)) (consM (ret (.int 5)) (ret []))))))))) (ret [])))) (ret [])))) (ret [])))))) (seqM (setM 0 (binM addM (getD 0) (toD (lstM (consM (tupM (consM (ret (.int 7)) (consM (tupM (consM (toD (callM 2 F__law_circle (consM (ret (.int 7)) (consM (ret (.int 1)) (ret []))))) (consM (tupM (consM (ret (.int 0)) (consM (ret (.int 3)) (consM (ret (.int 6)) (consM (ret (.int 2)) (consM (ret (.int 5)) (consM (ret (.int 1)) (consM (ret (.int 4)) (ret []))))))))) (ret [])))) (ret [])))) (consM (tupM (consM (ret (.int 7)) (consM (tupM (consM (toD (callM 2 F__law_circle (consM (ret (.int 7)) (consM (ret (.int 1)) (ret []))))) (ret []))) (ret [])))) (ret []))))))) (seqM (setM 0 (binM addM (getD 0) (toD (lstM (consM (tupM (consM (ret (.int 8)) (consM (tupM (consM (toD (callM 2 F__law_circle (consM (ret (.int 8)) (consM (ret (.int 1)) (ret []))))) (ret []))) (ret [])))) (consM (tupM (consM (ret (.int 8)) (consM (tupM (consM (tupM (consM (ret (.int 1)) (consM (ret (.int 0)) (consM (ret (.int 3)) (consM (ret (.int 2)) (consM (ret (.int 5)) (consM (ret (.int 4)) (consM (ret (.int 7)) (consM (ret (.int 6)) (ret [])))))))))) (consM (tupM (consM (ret (.int 0)) (consM (ret (.int 2)) (consM (ret (.int 4)) (consM (ret (.int 6)) (consM (ret (.int 3)) (consM (ret (.int 1)) (consM (ret (.int 7)) (consM (ret (.int 5)) (ret [])))))))))) (ret [])))) (ret [])))) (ret []))))))) (seqM (setM 0 (binM addM (getD 0) (toD (lstM (consM (tupM (consM (ret (.int 8)) (consM (tupM (consM (tupM (consM (ret (.int 1)) (consM (ret (.int 2)) (consM (ret (.int 3)) (consM (ret (.int 0)) (consM (ret (.int 5)) (consM (ret (.int 6)) (consM (ret (.int 7)) (consM (ret (.int 4)) (ret [])))))))))) (consM (tupM (consM (ret (.int 4)) (consM (ret (.int 7)) (consM (ret (.int 6)) (consM (ret (.int 5)) (consM (ret (.int 2)) (consM (ret (.int 1)) (consM (ret (.int 0)) (consM (ret (.int 3)) (ret [])))))))))) (ret [])))) (ret [])))) (ret [])))))) (retM (binM addM (getD 0) (toD (lstM (consM (tupM (consM (ret (.int 8)) (consM (tupM (consM (toD (callM 2 F__law_circle (consM (ret (.int 8)) (consM (ret (.int 1)) (ret []))))) (consM (tupM (consM (ret (.int 0)) (consM (ret (.int 7)) (consM (ret (.int 6)) (consM (ret (.int 5)) (consM (ret (.int 4)) (consM (ret (.int 3)) (consM (ret (.int 2)) (consM (ret (.int 1)) (ret [])))))))))) (ret [])))) (ret [])))) (ret [])))))))))))))))))))
def F__law_known_groups : Mir := bodyM 0 1 B__law_known_groups
def L__law_mixed_1 : M Fl := (stoM 5 (toD (binP idxM 2 (getD 6))) (toD (binP idxM 2 (toD (binP idxM 4 (getD 6))))))
def L__law_mixed_0 : M Fl := (seqM (setM 5 (binM mulM (toD (lstM (consM (ret (.int 0)) (ret [])))) (toD (binP idxM 1 (ret (.int 0)))))) (seqM (forS (rgI1 (toD (binP idxM 1 (ret (.int 0))))) (gN 6) L__law_mixed_1) (dropM (appM 3 (toD (M.bind (peek 5) tupcM))))))
def B__law_mixed : M Fl := (seqM (parM 2 3 (callR 2 F__law_turn 0 (consM (toD (binP idxM 1 (ret (.int 0)))) (ret []))) (lstM (ret []))) (seqM (forS (seqI (toD (binP idxM 1 (ret (.int 1))))) (gN 4) L__law_mixed_0) (retM (toV (tupM (consM (toD (binP idxM 1 (ret (.int 0)))) (consM (toD (M.bind (peek 3) tupcM)) (ret []))))))))
def F__law_mixed : Mir := bodyM 2 7 B__law_mixed
def B__law_whole : M Fl := (retM (callR 2 F__law_mixed 0 (consM (toD (callR 2 F__law_pick 0 (consM (toD (callM 0 F__law_known_groups (ret []))) (ret [])))) (ret []))))
def F__law_whole : Mir := bodyM 1 1 B__law_whole
def L__law_pairs_0 : M Fl := (setM 1 (binM addM (getD 1) (toD (lcM [4] (rgI1 (toD (binP idxM 0 (ret (.int 0))))) (gN 4) yesM (tupM (consM (getD 3) (consM (getD 4) (ret []))))))))
def L__law_pairs_3 : M Fl := (seqM (setM 4 (toV (tupM (consM (toD (binP idxM 8 (toD (binP idxM 7 (ret (.int 0)))))) (consM (toD (binP idxM 8 (toD (binP idxM 7 (ret (.int 1)))))) (ret [])))))) (ifM (tstM (inN true (getD 4) 5)) (seqM (dropM (appM 5 (getD 4))) (dropM (appM 6 (getD 4)))) (ret .nx)))
def C__law_pairs_2 : M Bool := (tstM (binP (eqM true) 6 (toD (lstM (ret [])))))
def L__law_pairs_2 : M Fl := (seqM (setM 7 (popM 6)) (forS (seqI (toD (binP idxM 0 (ret (.int 1))))) (gN 8) L__law_pairs_3))
def C__law_pairs_1 : M Bool := (tstM (binP (eqM true) 1 (toD (lstM (ret [])))))
def L__law_pairs_1 : M Fl := (seqM (parM 5 6 (lstM (consM (toD (binP idxM 1 (ret (.int 0)))) (ret []))) (lstM (consM (toD (binP idxM 1 (ret (.int 0)))) (ret [])))) (seqM (whileM C__law_pairs_2 L__law_pairs_2 20000000) (seqM (dropM (appM 2 (getD 5))) (setM 1 (lcM [7] (seqI (getD 1)) (gN 7) (tstM (inN true (getD 7) 5)) (getD 7))))))
def B__law_pairs : M Fl := (seqM (parM 1 2 (lstM (ret [])) (lstM (ret []))) (seqM (forS (rgI1 (toD (binP idxM 0 (ret (.int 0))))) (gN 3) L__law_pairs_0) (seqM (whileM C__law_pairs_1 L__law_pairs_1 20000000) (retM (getV 2)))))
def F__law_pairs : Mir := bodyM 1 9 B__law_pairs
def B__law_is_sharp : M Fl := (seqM (parM 1 2 (binP idxM 0 (ret (.int 0))) (callM 2 F__law_members (consM (toD (binP idxM 0 (ret (.int 1)))) (consM (toD (binP idxM 0 (ret (.int 0)))) (ret []))))) (retM (andV (toD (binM (ordM fun i j => decide (j < i)) (getD 1) (ret (.int 1)))) (andV (toD (binM (eqM false) (toD (M.bind (callM 1 F__law_pairs (consM (getD 0) (ret []))) lenS)) (ret (.int 2)))) (binM (eqM false) (toD (lenN 2)) (toD (binM mulM (getD 1) (toD (binM subM (getD 1) (ret (.int 1)))))))))))
def F__law_is_sharp : Mir := bodyM 1 3 B__law_is_sharp
def S_law_0 : M Fl := (setM 1 (lstM (consM (getD 0) (consM (ret (.int 0)) (consM (ret (.int 5707)) (consM (ret (.int 0)) (ret [])))))))
def S_law_1 : M Fl := (setM 2 (binM addM (ret (.int 2)) (toD (callR 2 F__law_taken 1 (consM (ret (.int 7)) (ret []))))))
def S_law_2 : M Fl := (setM 3 (callM 1 F_sharp_house (consM (getD 2) (ret []))))
def S_law_3 : M Fl := (ifM (orT (tstM (binM (eqM true) (toD (binM (isNM false) (getD 3) (ret (.none)))) (toD (binP (eqM false) 2 (ret (.int 6)))))) (tstM (binM (isBM true) (toD (callM 2 F_shows_sharp (consM (getD 2) (consM (getD 3) (ret []))))) (ret (.bool true))))) (retM (toV (ret (.bool false)))) (ret .nx))
def S_law_4 : M Fl := (ifM (tstM (binM (eqM true) (toD (callM 2 F_shows_sharp (consM (getD 2) (consM (ret (.none)) (ret []))))) (toD (binP (eqM false) 2 (ret (.int 6)))))) (retM (toV (ret (.bool false)))) (ret .nx))
def S_law_5 : M Fl := (ifM (tstM (binM (isNM true) (getD 3) (ret (.none)))) (seqM (ifM (orT (tstM (binM (eqM true) (toD (binP idxM 3 (ret (.int 0)))) (getD 2))) (orT (tstM (binM (ordM fun i j => decide (j < i)) (toD (M.bind (toD (binP idxM 3 (ret (.int 1)))) lenM)) (ret (.int 6)))) (notT (truM (toD (callM 1 F__law_is_sharp (consM (getD 3) (ret [])))))))) (retM (toV (ret (.bool false)))) (ret .nx)) (ifM (tstM (binM (isBM true) (toD (callM 2 F_shows_sharp (consM (getD 2) (consM (toD (callR 2 F__law_mixed 1 (consM (getD 3) (ret [])))) (ret []))))) (ret (.bool true)))) (retM (toV (ret (.bool false)))) (ret .nx))) (ret .nx))
def L_law_0 : M Fl := (seqM (setM 5 (callR 1 F__law_whole 1 (ret []))) (ifM (notT (truM (toD (callM 2 (F__law_alike 6) (consM (toD (callM 2 F_shows_sharp (consM (toD (binP idxM 5 (ret (.int 0)))) (consM (getD 5) (ret []))))) (consM (toD (callM 1 F__law_is_sharp (consM (getD 5) (ret [])))) (ret []))))))) (retM (toV (ret (.bool false)))) (ret .nx)))
def S_law_6 : M Fl := (forS (rgI1 (ret (.int 4))) (gN 4) L_law_0)
def S_law_7 : M Fl := (setM 2 (binM addM (ret (.int 2)) (toD (callR 2 F__law_taken 1 (consM (ret (.int 3)) (ret []))))))
def S_law_8 : M Fl := (setM 5 (toV (tupM (consM (getD 2) (consM (tupM (consM (toD (callR 2 F__law_turn 1 (consM (getD 2) (ret [])))) (consM (toD (callR 2 F__law_turn 1 (consM (getD 2) (ret [])))) (ret [])))) (ret []))))))
def S_law_9 : M Fl := (ifM (notT (truM (toD (callM 2 (F__law_alike 6) (consM (toD (callM 2 F_shows_sharp (consM (getD 2) (consM (getD 5) (ret []))))) (consM (toD (callM 1 F__law_is_sharp (consM (getD 5) (ret [])))) (ret []))))))) (retM (toV (ret (.bool false)))) (ret .nx))
def S_law_10 : M Fl := (setM 6 (toV (tupM (consM (ret (.int 8)) (consM (tupM (consM (toD (callM 2 F__law_circle (consM (ret (.int 8)) (consM (ret (.int 1)) (ret []))))) (consM (tupM (consM (ret (.int 1)) (consM (ret (.int 0)) (consM (ret (.int 2)) (consM (ret (.int 3)) (consM (ret (.int 4)) (consM (ret (.int 5)) (consM (ret (.int 6)) (consM (ret (.int 7)) (ret [])))))))))) (ret [])))) (ret []))))))
def S_law_11 : M Fl := (setM 7 (lstM (consM (tupM (ret [])) (consM (ret (.int 5)) (consM (ret (.str "house")) (consM (tupM (consM (ret (.int 3)) (ret []))) (consM (tupM (consM (ret (.int 1)) (consM (tupM (consM (tupM (consM (ret (.int 0)) (ret []))) (ret []))) (ret [])))) (consM (toD (lstM (consM (ret (.int 2)) (consM (tupM (consM (tupM (consM (ret (.int 1)) (consM (ret (.int 0)) (ret [])))) (ret []))) (ret []))))) (ret [])))))))))
def S_law_12 : M Fl := (setM 7 (binM addM (getD 7) (toD (lstM (consM (tupM (consM (ret (.int 2)) (consM (toD (lstM (consM (tupM (consM (ret (.int 1)) (consM (ret (.int 0)) (ret [])))) (ret [])))) (ret [])))) (consM (tupM (consM (ret (.int 2)) (consM (tupM (consM (tupM (consM (ret (.int 0)) (consM (ret (.int 1)) (ret [])))) (ret []))) (ret [])))) (consM (getD 6) (consM (tupM (consM (ret (.int 3)) (consM (tupM (consM (tupM (consM (ret (.int 1)) (consM (ret (.int 2)) (consM (ret (.int 0)) (ret []))))) (ret []))) (ret [])))) (ret [])))))))))
def S_law_13 : M Fl := (ifM (tstM (binM (eqM true) (toD (lcM [9] (seqI (getD 7)) (gN 9) (tstM (binM (isBM true) (toD (callM 2 F_shows_sharp (consM (toD (iteV (tstM (binP (eqM true) 9 (getD 6))) (toV (ret (.int 3))) (toV (ret (.int 8))))) (consM (getD 9) (ret []))))) (ret (.bool false)))) (getD 9))) (toD (lstM (ret []))))) (retM (toV (ret (.bool false)))) (ret .nx))
def S_law_14 : M Fl := (tryE 8 "BadNumber" 1 F_sharp_house (consM (toD (callR 2 F__law_pick 1 (consM (toD (lstM (consM (ret (.none)) (consM (ret (.int 1)) (consM (ret (.int 9)) (consM (ret (.bool true)) (consM (ret (.str "3")) (consM (ret (.int 0)) (ret []))))))))) (ret [])))) (ret [])) (retM (toV (ret (.bool true)))))
def S_law_15 : M Fl := (retM (toV (ret (.bool false))))
def B_law : M Fl := (seqM S_law_0 (seqM S_law_1 (seqM S_law_2 (seqM S_law_3 (seqM S_law_4 (seqM S_law_5 (seqM S_law_6 (seqM S_law_7 (seqM S_law_8 (seqM S_law_9 (seqM S_law_10 (seqM S_law_11 (seqM S_law_12 (seqM S_law_13 (seqM S_law_14 S_law_15)))))))))))))))
def F_law : Mir := bodyM 1 10 B_law
end Nb

set_option Elab.async false
set_option linter.all false
set_option maxRecDepth 100000
set_option maxHeartbeats 8000000
namespace Nb
open PySem PySem.Spec L2 PyProof.Rows
/-! the text, printed by gen.py -/
def topS (i : Nat) : Stmt := PySem.Challenge.pw_nobodystays_k07_whole_sharps.main.body.getD i (.Pass ⟨0, 0, 0, 0⟩)
abbrev st_is_number : Stmt := topS 8
theorem sc_is_number : FnScope ["value", "low", "high"] ["value", "low", "high"] (defScope st_is_number) := ⟨rfl, rfl, rfl, by decide +kernel, rfl, by decide +kernel, by decide +kernel⟩
theorem b1_is_number {K : PySem.W.Frag} {f : Addr} {fd : FuncData} (F : FunD K "is_number" "is_number" (defArgs st_is_number) (defBody st_is_number) (defScope st_is_number) [] [] f fd) : L2.Binds K fd ["value", "low", "high"] [] := F.bindsN fun _ _ _ _ _ _ us hl => match us, hl with | [_, _, _], _ => rfl
abbrev st_is_turn : Stmt := topS 9
theorem sc_is_turn : FnScope ["halls", "value", "hall"] ["halls", "value"] (defScope st_is_turn) := ⟨rfl, rfl, rfl, by decide +kernel, rfl, by decide +kernel, by decide +kernel⟩
theorem b1_is_turn {K : PySem.W.Frag} {f : Addr} {fd : FuncData} (F : FunD K "is_turn" "is_turn" (defArgs st_is_turn) (defBody st_is_turn) (defScope st_is_turn) [] [] f fd) : L2.Binds K fd ["halls", "value"] [] := F.bindsN fun _ _ _ _ _ _ us hl => match us, hl with | [_, _], _ => rfl
abbrev st_wrong_part : Stmt := topS 10
theorem sc_wrong_part : FnScope ["value", "turns", "halls", "one"] ["value"] (defScope st_wrong_part) := ⟨rfl, rfl, rfl, by decide +kernel, rfl, by decide +kernel, by decide +kernel⟩
theorem b1_wrong_part {K : PySem.W.Frag} {f : Addr} {fd : FuncData} (F : FunD K "wrong_part" "wrong_part" (defArgs st_wrong_part) (defBody st_wrong_part) (defScope st_wrong_part) [] [] f fd) : L2.Binds K fd ["value"] [] := F.bindsN fun _ _ _ _ _ _ us hl => match us, hl with | [_], _ => rfl
abbrev st_is_house : Stmt := topS 11
theorem sc_is_house : FnScope ["value"] ["value"] (defScope st_is_house) := ⟨rfl, rfl, rfl, by decide +kernel, rfl, by decide +kernel, by decide +kernel⟩
theorem b1_is_house {K : PySem.W.Frag} {f : Addr} {fd : FuncData} (F : FunD K "is_house" "is_house" (defArgs st_is_house) (defBody st_is_house) (defScope st_is_house) [] [] f fd) : L2.Binds K fd ["value"] [] := F.bindsN fun _ _ _ _ _ _ us hl => match us, hl with | [_], _ => rfl
abbrev st_need_house : Stmt := topS 12
theorem sc_need_house : FnScope ["value", "word"] ["value"] (defScope st_need_house) := ⟨rfl, rfl, rfl, by decide +kernel, rfl, by decide +kernel, by decide +kernel⟩
theorem b1_need_house {K : PySem.W.Frag} {f : Addr} {fd : FuncData} (F : FunD K "need_house" "need_house" (defArgs st_need_house) (defBody st_need_house) (defScope st_need_house) [] [] f fd) : L2.Binds K fd ["value"] [] := F.bindsN fun _ _ _ _ _ _ us hl => match us, hl with | [_], _ => rfl
abbrev st_still : Stmt := topS 13
theorem sc_still : FnScope ["halls"] ["halls"] (defScope st_still) := ⟨rfl, rfl, rfl, by decide +kernel, rfl, by decide +kernel, by decide +kernel⟩
theorem b1_still {K : PySem.W.Frag} {f : Addr} {fd : FuncData} (F : FunD K "still" "still" (defArgs st_still) (defBody st_still) (defScope st_still) [] [] f fd) : L2.Binds K fd ["halls"] [] := F.bindsN fun _ _ _ _ _ _ us hl => match us, hl with | [_], _ => rfl
abbrev st_then : Stmt := topS 14
theorem sc_then : FnScope ["one", "other", "hall"] ["one", "other"] (defScope st_then) := ⟨rfl, rfl, rfl, by decide +kernel, rfl, by decide +kernel, by decide +kernel⟩
theorem b1_then {K : PySem.W.Frag} {f : Addr} {fd : FuncData} (F : FunD K "then" "then" (defArgs st_then) (defBody st_then) (defScope st_then) [] [] f fd) : L2.Binds K fd ["one", "other"] [] := F.bindsN fun _ _ _ _ _ _ us hl => match us, hl with | [_, _], _ => rfl
abbrev st_is_small : Stmt := topS 15
theorem sc_is_small : FnScope ["house", "most", "first", "found", "here", "one", "turn", "later"] ["house", "most"] (defScope st_is_small) := ⟨rfl, rfl, rfl, by decide +kernel, rfl, by decide +kernel, by decide +kernel⟩
theorem b1_is_small {K : PySem.W.Frag} {f : Addr} {fd : FuncData} (F : FunD K "is_small" "is_small" (defArgs st_is_small) (defBody st_is_small) (defScope st_is_small) [] [] f fd) : L2.Binds K fd ["house", "most"] [] := F.bindsN fun _ _ _ _ _ _ us hl => match us, hl with | [_, _], _ => rfl
abbrev st_lots_of : Stmt := topS 16
theorem sc_lots_of : FnScope ["things", "leads", "left", "found", "lot", "here", "one", "other"] ["things", "leads"] (defScope st_lots_of) := ⟨rfl, rfl, rfl, by decide +kernel, rfl, by decide +kernel, by decide +kernel⟩
theorem b1_lots_of {K : PySem.W.Frag} {f : Addr} {fd : FuncData} (F : FunD K "lots_of" "lots_of" (defArgs st_lots_of) (defBody st_lots_of) (defScope st_lots_of) [] [] f fd) : L2.Binds K fd ["things", "leads"] [] := F.bindsN fun _ _ _ _ _ _ us hl => match us, hl with | [_, _], _ => rfl
abbrev st_parts_of : Stmt := topS 17
theorem sc_parts_of : FnScope ["house", "hall", "turn"] ["house"] (defScope st_parts_of) := ⟨rfl, rfl, rfl, by decide +kernel, rfl, by decide +kernel, by decide +kernel⟩
theorem b1_parts_of {K : PySem.W.Frag} {f : Addr} {fd : FuncData} (F : FunD K "parts_of" "parts_of" (defArgs st_parts_of) (defBody st_parts_of) (defScope st_parts_of) [] [] f fd) : L2.Binds K fd ["house"] [] := F.bindsN fun _ _ _ _ _ _ us hl => match us, hl with | [_], _ => rfl
abbrev st_is_transitive : Stmt := topS 18
theorem sc_is_transitive : FnScope ["house"] ["house"] (defScope st_is_transitive) := ⟨rfl, rfl, rfl, by decide +kernel, rfl, by decide +kernel, by decide +kernel⟩
theorem b1_is_transitive {K : PySem.W.Frag} {f : Addr} {fd : FuncData} (F : FunD K "is_transitive" "is_transitive" (defArgs st_is_transitive) (defBody st_is_transitive) (defScope st_is_transitive) [] [] f fd) : L2.Binds K fd ["house"] [] := F.bindsN fun _ _ _ _ _ _ us hl => match us, hl with | [_], _ => rfl
abbrev st_pair_lots_of : Stmt := topS 19
theorem sc_pair_lots_of : FnScope ["house", "pairs", "one", "other", "pair", "turn"] ["house"] (defScope st_pair_lots_of) := ⟨rfl, rfl, rfl, by decide +kernel, rfl, by decide +kernel, by decide +kernel⟩
theorem b1_pair_lots_of {K : PySem.W.Frag} {f : Addr} {fd : FuncData} (F : FunD K "pair_lots_of" "pair_lots_of" (defArgs st_pair_lots_of) (defBody st_pair_lots_of) (defScope st_pair_lots_of) [] [] f fd) : L2.Binds K fd ["house"] [] := F.bindsN fun _ _ _ _ _ _ us hl => match us, hl with | [_], _ => rfl
abbrev st_need_whole : Stmt := topS 21
theorem sc_need_whole : FnScope ["house"] ["house"] (defScope st_need_whole) := ⟨rfl, rfl, rfl, by decide +kernel, rfl, by decide +kernel, by decide +kernel⟩
theorem b1_need_whole {K : PySem.W.Frag} {f : Addr} {fd : FuncData} (F : FunD K "need_whole" "need_whole" (defArgs st_need_whole) (defBody st_need_whole) (defScope st_need_whole) [] [] f fd) : L2.Binds K fd ["house"] [] := F.bindsN fun _ _ _ _ _ _ us hl => match us, hl with | [_], _ => rfl
abbrev st_is_sharp : Stmt := topS 22
theorem sc_is_sharp : FnScope ["house"] ["house"] (defScope st_is_sharp) := ⟨rfl, rfl, rfl, by decide +kernel, rfl, by decide +kernel, by decide +kernel⟩
theorem b1_is_sharp {K : PySem.W.Frag} {f : Addr} {fd : FuncData} (F : FunD K "is_sharp" "is_sharp" (defArgs st_is_sharp) (defBody st_is_sharp) (defScope st_is_sharp) [] [] f fd) : L2.Binds K fd ["house"] [] := F.bindsN fun _ _ _ _ _ _ us hl => match us, hl with | [_], _ => rfl
abbrev st_need_halls : Stmt := topS 26
theorem sc_need_halls : FnScope ["value"] ["value"] (defScope st_need_halls) := ⟨rfl, rfl, rfl, by decide +kernel, rfl, by decide +kernel, by decide +kernel⟩
theorem b1_need_halls {K : PySem.W.Frag} {f : Addr} {fd : FuncData} (F : FunD K "need_halls" "need_halls" (defArgs st_need_halls) (defBody st_need_halls) (defScope st_need_halls) [] [] f fd) : L2.Binds K fd ["value"] [] := F.bindsN fun _ _ _ _ _ _ us hl => match us, hl with | [_], _ => rfl
abbrev st_sharp_house : Stmt := topS 27
theorem sc_sharp_house : FnScope ["halls", "round_one", "hall"] ["halls"] (defScope st_sharp_house) := ⟨rfl, rfl, rfl, by decide +kernel, rfl, by decide +kernel, by decide +kernel⟩
theorem b1_sharp_house {K : PySem.W.Frag} {f : Addr} {fd : FuncData} (F : FunD K "sharp_house" "sharp_house" (defArgs st_sharp_house) (defBody st_sharp_house) (defScope st_sharp_house) [] [] f fd) : L2.Binds K fd ["halls"] [] := F.bindsN fun _ _ _ _ _ _ us hl => match us, hl with | [_], _ => rfl
abbrev st_shows_sharp : Stmt := topS 28
theorem sc_shows_sharp : FnScope ["halls", "value"] ["halls", "value"] (defScope st_shows_sharp) := ⟨rfl, rfl, rfl, by decide +kernel, rfl, by decide +kernel, by decide +kernel⟩
theorem b1_shows_sharp {K : PySem.W.Frag} {f : Addr} {fd : FuncData} (F : FunD K "shows_sharp" "shows_sharp" (defArgs st_shows_sharp) (defBody st_shows_sharp) (defScope st_shows_sharp) [] [] f fd) : L2.Binds K fd ["halls", "value"] [] := F.bindsN fun _ _ _ _ _ _ us hl => match us, hl with | [_, _], _ => rfl
abbrev st__law_taken : Stmt := topS 30
theorem sc__law_taken : FnScope ["_law_row", "_law_many", "_law_found", "_law_cell"] ["_law_row", "_law_many"] (defScope st__law_taken) := ⟨rfl, rfl, rfl, by decide +kernel, rfl, by decide +kernel, by decide +kernel⟩
theorem b1__law_taken {K : PySem.W.Frag} {f : Addr} {fd : FuncData} (F : FunD K "_law_taken" "_law_taken" (defArgs st__law_taken) (defBody st__law_taken) (defScope st__law_taken) [] [] f fd) : L2.Binds K fd ["_law_row", "_law_many"] [] := F.bindsN fun _ _ _ _ _ _ us hl => match us, hl with | [_, _], _ => rfl
abbrev st__law_pick : Stmt := topS 31
theorem sc__law_pick : FnScope ["_law_row", "_law_things"] ["_law_row", "_law_things"] (defScope st__law_pick) := ⟨rfl, rfl, rfl, by decide +kernel, rfl, by decide +kernel, by decide +kernel⟩
theorem b1__law_pick {K : PySem.W.Frag} {f : Addr} {fd : FuncData} (F : FunD K "_law_pick" "_law_pick" (defArgs st__law_pick) (defBody st__law_pick) (defScope st__law_pick) [] [] f fd) : L2.Binds K fd ["_law_row", "_law_things"] [] := F.bindsN fun _ _ _ _ _ _ us hl => match us, hl with | [_, _], _ => rfl
abbrev st__law_alike : Stmt := topS 32
theorem sc__law_alike : FnScope ["_law_found", "_law_due", "_law_k"] ["_law_found", "_law_due"] (defScope st__law_alike) := ⟨rfl, rfl, rfl, by decide +kernel, rfl, by decide +kernel, by decide +kernel⟩
theorem b1__law_alike {K : PySem.W.Frag} {f : Addr} {fd : FuncData} (F : FunD K "_law_alike" "_law_alike" (defArgs st__law_alike) (defBody st__law_alike) (defScope st__law_alike) [] [] f fd) : L2.Binds K fd ["_law_found", "_law_due"] [] := F.bindsN fun _ _ _ _ _ _ us hl => match us, hl with | [_, _], _ => rfl
abbrev st__law_turn : Stmt := topS 33
theorem sc__law_turn : FnScope ["_law_row", "_law_halls", "_law_found", "_law_left"] ["_law_row", "_law_halls"] (defScope st__law_turn) := ⟨rfl, rfl, rfl, by decide +kernel, rfl, by decide +kernel, by decide +kernel⟩
theorem b1__law_turn {K : PySem.W.Frag} {f : Addr} {fd : FuncData} (F : FunD K "_law_turn" "_law_turn" (defArgs st__law_turn) (defBody st__law_turn) (defScope st__law_turn) [] [] f fd) : L2.Binds K fd ["_law_row", "_law_halls"] [] := F.bindsN fun _ _ _ _ _ _ us hl => match us, hl with | [_, _], _ => rfl
abbrev st__law_circle : Stmt := topS 34
theorem sc__law_circle : FnScope ["_law_halls", "_law_step", "_law_hall"] ["_law_halls", "_law_step"] (defScope st__law_circle) := ⟨rfl, rfl, rfl, by decide +kernel, rfl, by decide +kernel, by decide +kernel⟩
theorem b1__law_circle {K : PySem.W.Frag} {f : Addr} {fd : FuncData} (F : FunD K "_law_circle" "_law_circle" (defArgs st__law_circle) (defBody st__law_circle) (defScope st__law_circle) [] [] f fd) : L2.Binds K fd ["_law_halls", "_law_step"] [] := F.bindsN fun _ _ _ _ _ _ us hl => match us, hl with | [_, _], _ => rfl
abbrev st__law_members : Stmt := topS 35
theorem sc__law_members : FnScope ["_law_maps", "_law_halls", "_law_found", "_law_last", "_law_one", "_law_turn_here", "_law_later", "_law_hall"] ["_law_maps", "_law_halls"] (defScope st__law_members) := ⟨rfl, rfl, rfl, by decide +kernel, rfl, by decide +kernel, by decide +kernel⟩
theorem b1__law_members {K : PySem.W.Frag} {f : Addr} {fd : FuncData} (F : FunD K "_law_members" "_law_members" (defArgs st__law_members) (defBody st__law_members) (defScope st__law_members) [] [] f fd) : L2.Binds K fd ["_law_maps", "_law_halls"] [] := F.bindsN fun _ _ _ _ _ _ us hl => match us, hl with | [_, _], _ => rfl
abbrev st__law_known_groups : Stmt := topS 36
theorem sc__law_known_groups : FnScope ["_law_rows"] [] (defScope st__law_known_groups) := ⟨rfl, rfl, rfl, by decide +kernel, rfl, by decide +kernel, by decide +kernel⟩
theorem b1__law_known_groups {K : PySem.W.Frag} {f : Addr} {fd : FuncData} (F : FunD K "_law_known_groups" "_law_known_groups" (defArgs st__law_known_groups) (defBody st__law_known_groups) (defScope st__law_known_groups) [] [] f fd) : L2.Binds K fd [] [] := F.bindsN fun _ _ _ _ _ _ us hl => match us, hl with | [], _ => rfl
abbrev st__law_mixed : Stmt := topS 37
theorem sc__law_mixed : FnScope ["_law_row", "_law_house", "_law_names", "_law_moved", "_law_one", "_law_found", "_law_hall"] ["_law_row", "_law_house"] (defScope st__law_mixed) := ⟨rfl, rfl, rfl, by decide +kernel, rfl, by decide +kernel, by decide +kernel⟩
theorem b1__law_mixed {K : PySem.W.Frag} {f : Addr} {fd : FuncData} (F : FunD K "_law_mixed" "_law_mixed" (defArgs st__law_mixed) (defBody st__law_mixed) (defScope st__law_mixed) [] [] f fd) : L2.Binds K fd ["_law_row", "_law_house"] [] := F.bindsN fun _ _ _ _ _ _ us hl => match us, hl with | [_, _], _ => rfl
abbrev st__law_whole : Stmt := topS 38
theorem sc__law_whole : FnScope ["_law_row"] ["_law_row"] (defScope st__law_whole) := ⟨rfl, rfl, rfl, by decide +kernel, rfl, by decide +kernel, by decide +kernel⟩
theorem b1__law_whole {K : PySem.W.Frag} {f : Addr} {fd : FuncData} (F : FunD K "_law_whole" "_law_whole" (defArgs st__law_whole) (defBody st__law_whole) (defScope st__law_whole) [] [] f fd) : L2.Binds K fd ["_law_row"] [] := F.bindsN fun _ _ _ _ _ _ us hl => match us, hl with | [_], _ => rfl
abbrev st__law_pairs : Stmt := topS 39
theorem sc__law_pairs : FnScope ["_law_house", "_law_left", "_law_found", "_law_one", "_law_other", "_law_lot", "_law_last", "_law_pair", "_law_turn_here"] ["_law_house"] (defScope st__law_pairs) := ⟨rfl, rfl, rfl, by decide +kernel, rfl, by decide +kernel, by decide +kernel⟩
theorem b1__law_pairs {K : PySem.W.Frag} {f : Addr} {fd : FuncData} (F : FunD K "_law_pairs" "_law_pairs" (defArgs st__law_pairs) (defBody st__law_pairs) (defScope st__law_pairs) [] [] f fd) : L2.Binds K fd ["_law_house"] [] := F.bindsN fun _ _ _ _ _ _ us hl => match us, hl with | [_], _ => rfl
abbrev st__law_is_sharp : Stmt := topS 40
theorem sc__law_is_sharp : FnScope ["_law_house", "_law_halls", "_law_whole_here"] ["_law_house"] (defScope st__law_is_sharp) := ⟨rfl, rfl, rfl, by decide +kernel, rfl, by decide +kernel, by decide +kernel⟩
theorem b1__law_is_sharp {K : PySem.W.Frag} {f : Addr} {fd : FuncData} (F : FunD K "_law_is_sharp" "_law_is_sharp" (defArgs st__law_is_sharp) (defBody st__law_is_sharp) (defScope st__law_is_sharp) [] [] f fd) : L2.Binds K fd ["_law_house"] [] := F.bindsN fun _ _ _ _ _ _ us hl => match us, hl with | [_], _ => rfl
abbrev st_law : Stmt := topS 41
theorem sc_law : FnScope ["_law_script", "_law_row", "_law_halls", "_law_told", "_law_turn_here", "_law_house", "_law_great", "_law_odd", "e", "_law_value"] ["_law_script"] (defScope st_law) := ⟨rfl, rfl, rfl, by decide +kernel, rfl, by decide +kernel, by decide +kernel⟩
theorem b1_law {K : PySem.W.Frag} {f : Addr} {fd : FuncData} (F : FunD K "law" "law" (defArgs st_law) (defBody st_law) (defScope st_law) [] [] f fd) : L2.Binds K fd ["_law_script"] [] := F.bindsN fun _ _ _ _ _ _ us hl => match us, hl with | [_], _ => rfl
structure Txt (P : Program) (w : World) (K : PySem.W.Frag) (mg : Str → Option Value) (base : Heap) (W : Wd) : Prop where
  hK : W.K = K
  ex1 : ∀ (x : Str) (H : Hp), W.Ex ⟨x, []⟩ (.ref (He.ga K x)) none H
  ex2 : ∀ (c : Exn) (cls : Value) (dx : Option Addr) (H : Hp), W.Ex c cls dx H → dx = none ∧ cls = .ref (He.ga K c.cls)
  x_BadNumber : ExC K mg "BadNumber"
  z_all : mg "all" = none
  z_bool : mg "bool" = none
  z_int : mg "int" = none
  z_isinstance : mg "isinstance" = none
  z_len : mg "len" = none
  z_list : mg "list" = none
  z_range : mg "range" = none
  z_sorted : mg "sorted" = none
  z_str : mg "str" = none
  z_tuple : mg "tuple" = none
  f_is_number : ∃ fd, FunD K "is_number" "is_number" (defArgs st_is_number) (defBody st_is_number) (defScope st_is_number) [] [] (He.ga K "is_number") fd
  g_is_number : mg "is_number" = some (.ref (He.ga K "is_number"))
  f_is_turn : ∃ fd, FunD K "is_turn" "is_turn" (defArgs st_is_turn) (defBody st_is_turn) (defScope st_is_turn) [] [] (He.ga K "is_turn") fd
  g_is_turn : mg "is_turn" = some (.ref (He.ga K "is_turn"))
  f_wrong_part : ∃ fd, FunD K "wrong_part" "wrong_part" (defArgs st_wrong_part) (defBody st_wrong_part) (defScope st_wrong_part) [] [] (He.ga K "wrong_part") fd
  g_wrong_part : mg "wrong_part" = some (.ref (He.ga K "wrong_part"))
  f_is_house : ∃ fd, FunD K "is_house" "is_house" (defArgs st_is_house) (defBody st_is_house) (defScope st_is_house) [] [] (He.ga K "is_house") fd
  g_is_house : mg "is_house" = some (.ref (He.ga K "is_house"))
  f_need_house : ∃ fd, FunD K "need_house" "need_house" (defArgs st_need_house) (defBody st_need_house) (defScope st_need_house) [] [] (He.ga K "need_house") fd
  g_need_house : mg "need_house" = some (.ref (He.ga K "need_house"))
  f_still : ∃ fd, FunD K "still" "still" (defArgs st_still) (defBody st_still) (defScope st_still) [] [] (He.ga K "still") fd
  g_still : mg "still" = some (.ref (He.ga K "still"))
  f_then : ∃ fd, FunD K "then" "then" (defArgs st_then) (defBody st_then) (defScope st_then) [] [] (He.ga K "then") fd
  g_then : mg "then" = some (.ref (He.ga K "then"))
  f_is_small : ∃ fd, FunD K "is_small" "is_small" (defArgs st_is_small) (defBody st_is_small) (defScope st_is_small) [] [] (He.ga K "is_small") fd
  g_is_small : mg "is_small" = some (.ref (He.ga K "is_small"))
  f_lots_of : ∃ fd, FunD K "lots_of" "lots_of" (defArgs st_lots_of) (defBody st_lots_of) (defScope st_lots_of) [] [] (He.ga K "lots_of") fd
  g_lots_of : mg "lots_of" = some (.ref (He.ga K "lots_of"))
  f_parts_of : ∃ fd, FunD K "parts_of" "parts_of" (defArgs st_parts_of) (defBody st_parts_of) (defScope st_parts_of) [] [] (He.ga K "parts_of") fd
  g_parts_of : mg "parts_of" = some (.ref (He.ga K "parts_of"))
  f_is_transitive : ∃ fd, FunD K "is_transitive" "is_transitive" (defArgs st_is_transitive) (defBody st_is_transitive) (defScope st_is_transitive) [] [] (He.ga K "is_transitive") fd
  g_is_transitive : mg "is_transitive" = some (.ref (He.ga K "is_transitive"))
  f_pair_lots_of : ∃ fd, FunD K "pair_lots_of" "pair_lots_of" (defArgs st_pair_lots_of) (defBody st_pair_lots_of) (defScope st_pair_lots_of) [] [] (He.ga K "pair_lots_of") fd
  g_pair_lots_of : mg "pair_lots_of" = some (.ref (He.ga K "pair_lots_of"))
  f_need_whole : ∃ fd, FunD K "need_whole" "need_whole" (defArgs st_need_whole) (defBody st_need_whole) (defScope st_need_whole) [] [] (He.ga K "need_whole") fd
  g_need_whole : mg "need_whole" = some (.ref (He.ga K "need_whole"))
  f_is_sharp : ∃ fd, FunD K "is_sharp" "is_sharp" (defArgs st_is_sharp) (defBody st_is_sharp) (defScope st_is_sharp) [] [] (He.ga K "is_sharp") fd
  g_is_sharp : mg "is_sharp" = some (.ref (He.ga K "is_sharp"))
  f_need_halls : ∃ fd, FunD K "need_halls" "need_halls" (defArgs st_need_halls) (defBody st_need_halls) (defScope st_need_halls) [] [] (He.ga K "need_halls") fd
  g_need_halls : mg "need_halls" = some (.ref (He.ga K "need_halls"))
  f_sharp_house : ∃ fd, FunD K "sharp_house" "sharp_house" (defArgs st_sharp_house) (defBody st_sharp_house) (defScope st_sharp_house) [] [] (He.ga K "sharp_house") fd
  g_sharp_house : mg "sharp_house" = some (.ref (He.ga K "sharp_house"))
  f_shows_sharp : ∃ fd, FunD K "shows_sharp" "shows_sharp" (defArgs st_shows_sharp) (defBody st_shows_sharp) (defScope st_shows_sharp) [] [] (He.ga K "shows_sharp") fd
  g_shows_sharp : mg "shows_sharp" = some (.ref (He.ga K "shows_sharp"))
  f__law_taken : ∃ fd, FunD K "_law_taken" "_law_taken" (defArgs st__law_taken) (defBody st__law_taken) (defScope st__law_taken) [] [] (He.ga K "_law_taken") fd
  g__law_taken : mg "_law_taken" = some (.ref (He.ga K "_law_taken"))
  f__law_pick : ∃ fd, FunD K "_law_pick" "_law_pick" (defArgs st__law_pick) (defBody st__law_pick) (defScope st__law_pick) [] [] (He.ga K "_law_pick") fd
  g__law_pick : mg "_law_pick" = some (.ref (He.ga K "_law_pick"))
  f__law_alike : ∃ fd, FunD K "_law_alike" "_law_alike" (defArgs st__law_alike) (defBody st__law_alike) (defScope st__law_alike) [] [] (He.ga K "_law_alike") fd
  g__law_alike : mg "_law_alike" = some (.ref (He.ga K "_law_alike"))
  f__law_turn : ∃ fd, FunD K "_law_turn" "_law_turn" (defArgs st__law_turn) (defBody st__law_turn) (defScope st__law_turn) [] [] (He.ga K "_law_turn") fd
  g__law_turn : mg "_law_turn" = some (.ref (He.ga K "_law_turn"))
  f__law_circle : ∃ fd, FunD K "_law_circle" "_law_circle" (defArgs st__law_circle) (defBody st__law_circle) (defScope st__law_circle) [] [] (He.ga K "_law_circle") fd
  g__law_circle : mg "_law_circle" = some (.ref (He.ga K "_law_circle"))
  f__law_members : ∃ fd, FunD K "_law_members" "_law_members" (defArgs st__law_members) (defBody st__law_members) (defScope st__law_members) [] [] (He.ga K "_law_members") fd
  g__law_members : mg "_law_members" = some (.ref (He.ga K "_law_members"))
  f__law_known_groups : ∃ fd, FunD K "_law_known_groups" "_law_known_groups" (defArgs st__law_known_groups) (defBody st__law_known_groups) (defScope st__law_known_groups) [] [] (He.ga K "_law_known_groups") fd
  g__law_known_groups : mg "_law_known_groups" = some (.ref (He.ga K "_law_known_groups"))
  f__law_mixed : ∃ fd, FunD K "_law_mixed" "_law_mixed" (defArgs st__law_mixed) (defBody st__law_mixed) (defScope st__law_mixed) [] [] (He.ga K "_law_mixed") fd
  g__law_mixed : mg "_law_mixed" = some (.ref (He.ga K "_law_mixed"))
  f__law_whole : ∃ fd, FunD K "_law_whole" "_law_whole" (defArgs st__law_whole) (defBody st__law_whole) (defScope st__law_whole) [] [] (He.ga K "_law_whole") fd
  g__law_whole : mg "_law_whole" = some (.ref (He.ga K "_law_whole"))
  f__law_pairs : ∃ fd, FunD K "_law_pairs" "_law_pairs" (defArgs st__law_pairs) (defBody st__law_pairs) (defScope st__law_pairs) [] [] (He.ga K "_law_pairs") fd
  g__law_pairs : mg "_law_pairs" = some (.ref (He.ga K "_law_pairs"))
  f__law_is_sharp : ∃ fd, FunD K "_law_is_sharp" "_law_is_sharp" (defArgs st__law_is_sharp) (defBody st__law_is_sharp) (defScope st__law_is_sharp) [] [] (He.ga K "_law_is_sharp") fd
  g__law_is_sharp : mg "_law_is_sharp" = some (.ref (He.ga K "_law_is_sharp"))
  f_law : ∃ fd, FunD K "law" "law" (defArgs st_law) (defBody st_law) (defScope st_law) [] [] (He.ga K "law") fd
  g_law : mg "law" = some (.ref (He.ga K "law"))
  i_MOST_HALLS : ∃ t, mg "MOST_HALLS" = some (.int 8 t)
  i_MOST_TURNS : ∃ t, mg "MOST_TURNS" = some (.int 6 t)
  g_BITS : mg "BITS" = some (.ref (He.ga K "BITS"))
  d_BITS : GDic K (He.ga K "BITS") ks_BITS
  g_FACTORS : mg "FACTORS" = some (.ref (He.ga K "FACTORS"))
  d_FACTORS : GDic K (He.ga K "FACTORS") ks_FACTORS
  t_is_turn : ∀ {fd}, FunD K "is_turn" "is_turn" (defArgs st_is_turn) (defBody st_is_turn) (defScope st_is_turn) [] [] (He.ga K "is_turn") fd → TabF base mg W fd .gen
  t_wrong_part : ∀ {fd}, FunD K "wrong_part" "wrong_part" (defArgs st_wrong_part) (defBody st_wrong_part) (defScope st_wrong_part) [] [] (He.ga K "wrong_part") fd → TabF base mg W fd .gen
  t_parts_of : ∀ {fd}, FunD K "parts_of" "parts_of" (defArgs st_parts_of) (defBody st_parts_of) (defScope st_parts_of) [] [] (He.ga K "parts_of") fd → TabF base mg W fd (.lam (fun _ _ => "parts_of.<locals>.<lambda>"))
  t_pair_lots_of : ∀ {fd}, FunD K "pair_lots_of" "pair_lots_of" (defArgs st_pair_lots_of) (defBody st_pair_lots_of) (defScope st_pair_lots_of) [] [] (He.ga K "pair_lots_of") fd → TabF base mg W fd (.lam (fun _ _ => "pair_lots_of.<locals>.<lambda>"))
end Nb

set_option Elab.async false
set_option linter.all false
set_option maxRecDepth 100000
set_option maxHeartbeats 8000000
namespace Nb
open PySem PySem.Spec L2 PyProof.Rows
section
variable {P : Program} {w : World} {K : PySem.W.Frag} {mg : Str → Option Value} {base : Heap} {W : Wd}
theorem d_is_number (T : Txt P w K mg base W) : Cl P w K mg base W "is_number" 1 3 F_is_number := by
  obtain ⟨fd, F⟩ := T.f_is_number
  refine fn_cl F T.g_is_number sc_is_number T.hK (b1_is_number F) fun A outer s H E cy => ?_
  have c := cy.toKx
  exact (s_one (s_ret (q_and (q_d (q_isi "int" (gl_by (by kernel_rfl)) T.z_isinstance (gl_by (by kernel_rfl)) T.z_int (by decide +kernel) (q_name 0 rfl (vis_by (by kernel_rfl))) c.K)) (q_and (q_not (q_d (q_isi "bool" (gl_by (by kernel_rfl)) T.z_isinstance (gl_by (by kernel_rfl)) T.z_bool (by decide +kernel) (q_name 0 rfl (vis_by (by kernel_rfl))) c.K))) (q_one (q_chn c_le c_le (q_name 1 rfl (vis_by (by kernel_rfl))) (q_name 0 rfl (vis_by (by kernel_rfl))) (q_name 2 rfl (vis_by (by kernel_rfl)))))))))
theorem d_is_turn (T : Txt P w K mg base W) : Cl P w K mg base W "is_turn" 3 2 F_is_turn := by
  obtain ⟨fd, F⟩ := T.f_is_turn
  refine fn_cl F T.g_is_turn sc_is_turn T.hK (b1_is_turn F) fun A outer s H E cy => ?_
  have c := cy.toKx
  exact (s_cons (s_if (t_bool (w_or (t_not (t_val c (q_d (q_isi "tuple" (gl_by (by kernel_rfl)) T.z_isinstance (gl_by (by kernel_rfl)) T.z_tuple (by decide +kernel) (q_name 1 rfl (vis_by (by kernel_rfl))) c.K)))) (w_or (t_cmp (c_ne c) (q_d (q_lenN c 1 (gl_by (by kernel_rfl)) T.z_len rfl (vis_by (by kernel_rfl)))) (q_name 0 rfl (vis_by (by kernel_rfl)))) (w_or1 (t_not (t_val c (q_allF (own := [("hall", 2)]) c (T.t_is_turn F) rfl (gl_by (by kernel_rfl)) T.z_all (i_seq c (q_name 1 rfl (vis_by (by kernel_rfl)))) (by kernel_rfl) rfl rfl (fun s H C code fp c => ⟨(g_name 2 c rfl (loc_by (by kernel_rfl))), (q_d (q_callC c (d_is_number T) (by decide) (gl_by (by kernel_rfl)) (q_cons (q_name 2 rfl (vis_by (by kernel_rfl))) (q_cons q_int (q_cons (q_d (q_sub (q_name 0 rfl (vis_by (by kernel_rfl))) q_int)) q_nil)))))⟩)))))))) (s_one (s_ret (q_v q_bl))) s_nil) (s_one (s_ret (q_cmp (c_eq c) (q_d (q_srtN c 1 (gl_by (by kernel_rfl)) T.z_sorted rfl (vis_by (by kernel_rfl)))) (q_d (q_lrg c (gl_by (by kernel_rfl)) T.z_list (gl_by (by kernel_rfl)) T.z_range (q_name 0 rfl (vis_by (by kernel_rfl)))))))))
theorem d_wrong_part (T : Txt P w K mg base W) : Cl P w K mg base W "wrong_part" 5 1 F_wrong_part := by
  obtain ⟨fd, F⟩ := T.f_wrong_part
  refine fn_cl F T.g_wrong_part sc_wrong_part T.hK (b1_wrong_part F) fun A outer s H E cy => ?_
  have c := cy.toKx
  exact (s_cons (s_if (t_bool (w_or (t_not (t_val c (q_d (q_isi "tuple" (gl_by (by kernel_rfl)) T.z_isinstance (gl_by (by kernel_rfl)) T.z_tuple (by decide +kernel) (q_name 0 rfl (vis_by (by kernel_rfl))) c.K)))) (w_or1 (t_cmp (c_ne c) (q_d (q_lenN c 0 (gl_by (by kernel_rfl)) T.z_len rfl (vis_by (by kernel_rfl)))) q_int)))) (s_one (s_ret (q_v q_str))) s_nil) (s_cons (s_asg (q_name 0 rfl (vis_by (by kernel_rfl))) (g_tup c (gs_cons (g_name 2 c rfl (loc_by (by kernel_rfl))) (gs_cons (g_name 1 c rfl (loc_by (by kernel_rfl))) gs_nil)))) (s_cons (s_if (t_not (t_val c (q_d (q_callC c (d_is_number T) (by decide) (gl_by (by kernel_rfl)) (q_cons (q_name 2 rfl (vis_by (by kernel_rfl))) (q_cons q_int (q_cons (q_globI T.i_MOST_HALLS (gl_by (by kernel_rfl))) q_nil))))))) (s_one (s_ret (q_v q_str))) s_nil) (s_cons (s_if (t_bool (w_or (t_not (t_val c (q_d (q_isi "tuple" (gl_by (by kernel_rfl)) T.z_isinstance (gl_by (by kernel_rfl)) T.z_tuple (by decide +kernel) (q_name 1 rfl (vis_by (by kernel_rfl))) c.K)))) (w_or1 (t_not (t_chn c_le c_le q_int (q_d (q_lenN c 1 (gl_by (by kernel_rfl)) T.z_len rfl (vis_by (by kernel_rfl)))) (q_globI T.i_MOST_TURNS (gl_by (by kernel_rfl)))))))) (s_one (s_ret (q_v q_str))) s_nil) (s_one (s_ret (q_if (t_val c (q_allF (own := [("one", 3)]) c (T.t_wrong_part F) rfl (gl_by (by kernel_rfl)) T.z_all (i_seq c (q_name 1 rfl (vis_by (by kernel_rfl)))) (by kernel_rfl) rfl rfl (fun s H C code fp c => ⟨(g_name 3 c rfl (loc_by (by kernel_rfl))), (q_d (q_callC c (d_is_turn T) (by decide) (gl_by (by kernel_rfl)) (q_cons (q_name 2 rfl (vis_by (by kernel_rfl))) (q_cons (q_name 3 rfl (vis_by (by kernel_rfl))) q_nil))))⟩))) (q_v q_non) (q_v q_str))))))))
theorem d_is_house (T : Txt P w K mg base W) : Cl P w K mg base W "is_house" 6 1 F_is_house := by
  obtain ⟨fd, F⟩ := T.f_is_house
  refine fn_cl F T.g_is_house sc_is_house T.hK (b1_is_house F) fun A outer s H E cy => ?_
  have c := cy.toKx
  exact (s_one (s_ret (q_cmp c_is (q_d (q_callC c (d_wrong_part T) (by decide) (gl_by (by kernel_rfl)) (q_cons (q_name 0 rfl (vis_by (by kernel_rfl))) q_nil))) q_non)))
theorem d_need_house (T : Txt P w K mg base W) : Cl P w K mg base W "need_house" 6 1 F_need_house := by
  obtain ⟨fd, F⟩ := T.f_need_house
  refine fn_cl F T.g_need_house sc_need_house T.hK (b1_need_house F) fun A outer s H E cy => ?_
  have c := cy.toKx
  exact (s_cons (s_set 1 c rfl (loc_by (by kernel_rfl)) (q_callC c (d_wrong_part T) (by decide) (gl_by (by kernel_rfl)) (q_cons (q_name 0 rfl (vis_by (by kernel_rfl))) q_nil))) (s_one (s_if (t_cmp c_isn (q_name 1 rfl (vis_by (by kernel_rfl))) q_non) (s_one s_never) s_nil)))
theorem d_still (T : Txt P w K mg base W) : Cl P w K mg base W "still" 1 1 F_still := by
  obtain ⟨fd, F⟩ := T.f_still
  refine fn_cl F T.g_still sc_still T.hK (b1_still F) fun A outer s H E cy => ?_
  have c := cy.toKx
  exact (s_one (s_ret (q_trg c (gl_by (by kernel_rfl)) T.z_tuple (gl_by (by kernel_rfl)) T.z_range (q_name 0 rfl (vis_by (by kernel_rfl))))))
end
end Nb

set_option Elab.async false
set_option linter.all false
set_option maxRecDepth 100000
set_option maxHeartbeats 8000000
namespace Nb
open PySem PySem.Spec L2 PyProof.Rows
section
variable {P : Program} {w : World} {K : PySem.W.Frag} {mg : Str → Option Value} {base : Heap} {W : Wd}
theorem d_then (T : Txt P w K mg base W) : Cl P w K mg base W "then" 1 2 F_then := by
  obtain ⟨fd, F⟩ := T.f_then
  refine fn_cl F T.g_then sc_then T.hK (b1_then F) fun A outer s H E cy => ?_
  have c := cy.toKx
  exact (s_one (s_ret (q_bi (b_tuple c) (gl_by (by kernel_rfl)) T.z_tuple (q_d (q_lc (own := [("hall", 2)]) c (i_seq c (q_name 0 rfl (vis_by (by kernel_rfl)))) (by kernel_rfl) rfl rfl (fun s H C cl fp c => ⟨(g_name 2 c rfl (loc_by (by kernel_rfl))), ts_nil, (q_d (q_ixN c 1 rfl (vis_by (by kernel_rfl)) (q_name 2 rfl (vis_by (by kernel_rfl)))))⟩))))))
theorem d_is_small (T : Txt P w K mg base W) : Cl P w K mg base W "is_small" 2 2 F_is_small := by
  obtain ⟨fd, F⟩ := T.f_is_small
  refine fn_cl F T.g_is_small sc_is_small T.hK (b1_is_small F) fun A outer s H E cy => ?_
  have c := cy.toKx
  exact (s_cons (s_set 2 c rfl (loc_by (by kernel_rfl)) (q_callC c (d_still T) (by decide) (gl_by (by kernel_rfl)) (q_cons (q_d (q_ixN c 0 rfl (vis_by (by kernel_rfl)) q_int)) q_nil))) (s_cons (s_par 3 4 c rfl rfl (by decide) (by kernel_rfl) (by kernel_rfl) (q_disp1 c (q_name 2 rfl (vis_by (by kernel_rfl))) q_bl) (q_lst (q_cons (q_name 2 rfl (vis_by (by kernel_rfl))) q_nil)) (hw := by kernel_rfl)) (s_cons (s_while 20000000 cy.own (t_bool (w_and (t_name c 4 rfl (vis_by (by kernel_rfl))) (w_and1 (t_cmp c_le (q_d (q_lenN c 3 (gl_by (by kernel_rfl)) T.z_len rfl (vis_by (by kernel_rfl)))) (q_name 1 rfl (vis_by (by kernel_rfl))))))) (s_cons (s_set 5 c rfl (loc_by (by kernel_rfl)) (q_pop 4 c rfl (vis_by (by kernel_rfl)))) (s_one (s_for c cy.own (i_seq c (q_d (q_ixN c 0 rfl (vis_by (by kernel_rfl)) q_int))) (g_name 6 c rfl (loc_by (by kernel_rfl))) (s_cons (s_set 7 c rfl (loc_by (by kernel_rfl)) (q_callC c (d_then T) (by decide) (gl_by (by kernel_rfl)) (q_cons (q_name 5 rfl (vis_by (by kernel_rfl))) (q_cons (q_name 6 rfl (vis_by (by kernel_rfl))) q_nil)))) (s_one (s_if (t_inN (cn_nin c) 3 (q_name 7 rfl (vis_by (by kernel_rfl))) rfl (vis_by (by kernel_rfl))) (s_cons (s_sto 3 c rfl (vis_by (by kernel_rfl)) q_bl (q_name 7 rfl (vis_by (by kernel_rfl)))) (s_one (s_expr (q_app 4 c rfl (vis_by (by kernel_rfl)) (q_name 7 rfl (vis_by (by kernel_rfl))))))) s_nil))))))) (s_one (s_ret (q_cmp c_le (q_d (q_lenN c 3 (gl_by (by kernel_rfl)) T.z_len rfl (vis_by (by kernel_rfl)))) (q_name 1 rfl (vis_by (by kernel_rfl)))))))))
theorem b_lots_of (T : Txt P w K mg base W) {W1 : Wd} {cdg : Value} {f : Addr} {A : Around} {outer : List Env} {s : Shared} {H : Hp} {E : XK} {k : Nat} (hK1 : W1.K = W.K)
    (cy : Ky (cxOf (L2.CX P w) P w K mg base ["things", "leads", "left", "found", "lot", "here", "one", "other"] "lots_of" (defScope st_lots_of) f cdg A outer s H E) W1 E k) (hA : Act (cxOf (L2.CX P w) P w K mg base ["things", "leads", "left", "found", "lot", "here", "one", "other"] "lots_of" (defScope st_lots_of) f cdg A outer s H E) W1 E 1 "leads") :
    PSs (cxOf (L2.CX P w) P w K mg base ["things", "leads", "left", "found", "lot", "here", "one", "other"] "lots_of" (defScope st_lots_of) f cdg A outer s H E) (defBody st_lots_of) (tS W1 E B_lots_of) := by
  have c := cy.toKx
  exact (s_cons (s_par 2 3 c rfl rfl (by decide) (by kernel_rfl) (by kernel_rfl) (q_listN c 0 (gl_by (by kernel_rfl)) T.z_list rfl (vis_by (by kernel_rfl))) (q_lst q_nil) (hw := by kernel_rfl)) (s_cons (s_while 20000000 cy.own (t_name c 2 rfl (vis_by (by kernel_rfl))) (s_cons (s_parT 4 5 c rfl rfl (loc_by (by kernel_rfl)) (loc_by (by kernel_rfl)) (q_disp1 c (q_d (q_ixN c 2 rfl (vis_by (by kernel_rfl)) q_int)) q_bl) (q_lst (q_cons (q_d (q_ixN c 2 rfl (vis_by (by kernel_rfl)) q_int)) q_nil)) (hw := by kernel_rfl)) (s_cons (s_while 20000000 cy.own (t_name c 5 rfl (vis_by (by kernel_rfl))) (s_cons (s_set 6 c rfl (loc_by (by kernel_rfl)) (q_pop 5 c rfl (vis_by (by kernel_rfl)))) (s_one (s_for c cy.own (i_seq c (hA.run (q_cons (q_name 6 rfl (vis_by (by kernel_rfl))) q_nil) (by rfl))) (g_name 7 c rfl (loc_by (by kernel_rfl))) (s_one (s_if (t_inN (cn_nin c) 4 (q_name 7 rfl (vis_by (by kernel_rfl))) rfl (vis_by (by kernel_rfl))) (s_cons (s_sto 4 c rfl (vis_by (by kernel_rfl)) q_bl (q_name 7 rfl (vis_by (by kernel_rfl)))) (s_one (s_expr (q_app 5 c rfl (vis_by (by kernel_rfl)) (q_name 7 rfl (vis_by (by kernel_rfl))))))) s_nil)))))) (s_cons (s_expr (q_app 3 c rfl (vis_by (by kernel_rfl)) (q_d (q_bi (b_tuple c) (gl_by (by kernel_rfl)) T.z_tuple (q_d (q_srtN c 4 (gl_by (by kernel_rfl)) T.z_sorted rfl (vis_by (by kernel_rfl)))))))) (s_one (s_setLc 2 (own := [("one", 6)]) c rfl (by kernel_rfl) (sw_true rfl (by kernel_rfl) rfl (by kernel_rfl)) (i_seq c (q_name 2 rfl (vis_by (by kernel_rfl)))) (by kernel_rfl) rfl rfl (fun s H C cl fp c => ⟨(g_name 6 c rfl (loc_by (by kernel_rfl))), (ts_one (t_inN (cn_nin c) 4 (q_name 6 rfl (vis_by (by kernel_rfl))) rfl (vis_by (by kernel_rfl)))), (q_name 6 rfl (vis_by (by kernel_rfl)))⟩))))))) (s_one (s_ret (q_srtN c 3 (gl_by (by kernel_rfl)) T.z_sorted rfl (vis_by (by kernel_rfl)))))))
theorem d_parts_of (T : Txt P w K mg base W) : Cl P w K mg base W "parts_of" 3 1 F_parts_of := by
  obtain ⟨fd, F⟩ := T.f_parts_of
  obtain ⟨fd_lots_of, F_lots_of⟩ := T.f_lots_of
  refine fn_cl F T.g_parts_of sc_parts_of T.hK (b1_parts_of F) fun A outer s H E cy => ?_
  have c := cy.toKx
  exact (s_one (s_ret (q_callLamF (own := [("hall", 1)]) c (T.t_parts_of F) rfl (gl_by (by kernel_rfl)) T.g_lots_of F_lots_of sc_lots_of (b1_lots_of F_lots_of) rfl (vis_by (by kernel_rfl)) rfl (by kernel_rfl) rfl rfl rfl rfl (by decide) (by first | exact .inl (by decide +kernel) | exact .inr (by decide +kernel)) (fun _ _ _ _ _ _ => rfl) (q_d (q_lrg c (gl_by (by kernel_rfl)) T.z_list (gl_by (by kernel_rfl)) T.z_range (q_d (q_ixN c 0 rfl (vis_by (by kernel_rfl)) q_int)))) (fun A outer s H f c1 c => (q_d (q_lc (own := [("turn", 2)]) c (i_seq c (q_d (q_ixN c 0 rfl (vis_by (by kernel_rfl)) q_int))) (by kernel_rfl) rfl rfl (fun s H C cl fp c => ⟨(g_name 2 c rfl (loc_by (by kernel_rfl))), ts_nil, (q_d (q_ixN c 2 rfl (vis_by (by kernel_rfl)) (q_name 1 rfl (vis_by (by kernel_rfl)))))⟩)))) (fun W1 cdg A outer s H hK1 cy hA => b_lots_of T hK1 cy hA))))
theorem d_is_transitive (T : Txt P w K mg base W) : Cl P w K mg base W "is_transitive" 7 1 F_is_transitive := by
  obtain ⟨fd, F⟩ := T.f_is_transitive
  refine fn_cl F T.g_is_transitive sc_is_transitive T.hK (b1_is_transitive F) fun A outer s H E cy => ?_
  have c := cy.toKx
  exact (s_cons (s_expr (q_callC c (d_need_house T) (by decide) (gl_by (by kernel_rfl)) (q_cons (q_name 0 rfl (vis_by (by kernel_rfl))) q_nil))) (s_one (s_ret (q_cmp (c_eq c) (q_d (q_lenE c (gl_by (by kernel_rfl)) T.z_len (q_callC c (d_parts_of T) (by decide) (gl_by (by kernel_rfl)) (q_cons (q_name 0 rfl (vis_by (by kernel_rfl))) q_nil)))) q_int))))
theorem d_pair_lots_of (T : Txt P w K mg base W) : Cl P w K mg base W "pair_lots_of" 3 1 F_pair_lots_of := by
  obtain ⟨fd, F⟩ := T.f_pair_lots_of
  obtain ⟨fd_lots_of, F_lots_of⟩ := T.f_lots_of
  refine fn_cl F T.g_pair_lots_of sc_pair_lots_of T.hK (b1_pair_lots_of F) fun A outer s H E cy => ?_
  have c := cy.toKx
  exact (s_cons (s_setLc2 1 (own := [("one", 2), ("other", 3)]) c rfl (by kernel_rfl) (sw_true rfl (by kernel_rfl) rfl (by kernel_rfl)) (i_rg1 (gl_by (by kernel_rfl)) T.z_range (q_d (q_ixN c 0 rfl (vis_by (by kernel_rfl)) q_int))) (by kernel_rfl) rfl rfl rfl (by decide) (fun s H C cl fp c => ⟨(g_name 2 c rfl (loc_by (by kernel_rfl))), ts_nil, (i_rg1 (gl_by (by kernel_rfl)) T.z_range (q_d (q_ixN c 0 rfl (vis_by (by kernel_rfl)) q_int))), (g_name 3 c rfl (loc_by (by kernel_rfl))), ts_nil, (q_tup (q_cons (q_name 2 rfl (vis_by (by kernel_rfl))) (q_cons (q_name 3 rfl (vis_by (by kernel_rfl))) q_nil)))⟩)) (s_one (s_ret (q_callLamF (own := [("pair", 4)]) c (T.t_pair_lots_of F) rfl (gl_by (by kernel_rfl)) T.g_lots_of F_lots_of sc_lots_of (b1_lots_of F_lots_of) rfl (vis_by (by kernel_rfl)) rfl (by kernel_rfl) rfl rfl rfl rfl (by decide) (by first | exact .inl (by decide +kernel) | exact .inr (by decide +kernel)) (fun _ _ _ _ _ _ => rfl) (q_name 1 rfl (vis_by (by kernel_rfl))) (fun A outer s H f c1 c => (q_d (q_lc (own := [("turn", 5)]) c (i_seq c (q_d (q_ixN c 0 rfl (vis_by (by kernel_rfl)) q_int))) (by kernel_rfl) rfl rfl (fun s H C cl fp c => ⟨(g_name 5 c rfl (loc_by (by kernel_rfl))), ts_nil, (q_tup (q_cons (q_d (q_ixN c 5 rfl (vis_by (by kernel_rfl)) (q_d (q_ixN c 4 rfl (vis_by (by kernel_rfl)) q_int)))) (q_cons (q_d (q_ixN c 5 rfl (vis_by (by kernel_rfl)) (q_d (q_ixN c 4 rfl (vis_by (by kernel_rfl)) q_int)))) q_nil)))⟩)))) (fun W1 cdg A outer s H hK1 cy hA => b_lots_of T hK1 cy hA)))))
end
end Nb

set_option Elab.async false
set_option linter.all false
set_option maxRecDepth 100000
set_option maxHeartbeats 8000000
namespace Nb
open PySem PySem.Spec L2 PyProof.Rows
section
variable {P : Program} {w : World} {K : PySem.W.Frag} {mg : Str → Option Value} {base : Heap} {W : Wd}
theorem d_need_whole (T : Txt P w K mg base W) : Cl P w K mg base W "need_whole" 7 1 F_need_whole := by
  obtain ⟨fd, F⟩ := T.f_need_whole
  refine fn_cl F T.g_need_whole sc_need_whole T.hK (b1_need_whole F) fun A outer s H E cy => ?_
  have c := cy.toKx
  exact (s_cons (s_expr (q_callC c (d_need_house T) (by decide) (gl_by (by kernel_rfl)) (q_cons (q_name 0 rfl (vis_by (by kernel_rfl))) q_nil))) (s_one (s_if (t_bool (w_or (t_cmp c_lt (q_d (q_ixN c 0 rfl (vis_by (by kernel_rfl)) q_int)) q_int) (w_or1 (t_cmp c_gt (q_d (q_lenE c (gl_by (by kernel_rfl)) T.z_len (q_callC c (d_parts_of T) (by decide) (gl_by (by kernel_rfl)) (q_cons (q_name 0 rfl (vis_by (by kernel_rfl))) q_nil)))) q_int)))) (s_one s_never) s_nil)))
theorem d_is_sharp (T : Txt P w K mg base W) : Cl P w K mg base W "is_sharp" 8 1 F_is_sharp := by
  obtain ⟨fd, F⟩ := T.f_is_sharp
  refine fn_cl F T.g_is_sharp sc_is_sharp T.hK (b1_is_sharp F) fun A outer s H E cy => ?_
  have c := cy.toKx
  exact (s_cons (s_expr (q_callC c (d_need_whole T) (by decide) (gl_by (by kernel_rfl)) (q_cons (q_name 0 rfl (vis_by (by kernel_rfl))) q_nil))) (s_one (s_ret (q_and (q_d (q_cmp (c_eq c) (q_d (q_lenE c (gl_by (by kernel_rfl)) T.z_len (q_callC c (d_pair_lots_of T) (by decide) (gl_by (by kernel_rfl)) (q_cons (q_name 0 rfl (vis_by (by kernel_rfl))) q_nil)))) q_int)) (q_one (q_callC c (d_is_small T) (by decide) (gl_by (by kernel_rfl)) (q_cons (q_name 0 rfl (vis_by (by kernel_rfl))) (q_cons (q_d (q_mul c (q_d (q_ixN c 0 rfl (vis_by (by kernel_rfl)) q_int)) (q_d (q_sub (q_d (q_ixN c 0 rfl (vis_by (by kernel_rfl)) q_int)) q_int)))) q_nil))))))))
theorem d_need_halls (T : Txt P w K mg base W) : Cl P w K mg base W "need_halls" 2 1 F_need_halls := by
  obtain ⟨fd, F⟩ := T.f_need_halls
  refine fn_cl F T.g_need_halls sc_need_halls T.hK (b1_need_halls F) fun A outer s H E cy => ?_
  have c := cy.toKx
  exact (s_one (s_if (t_not (t_val c (q_d (q_callC c (d_is_number T) (by decide) (gl_by (by kernel_rfl)) (q_cons (q_name 0 rfl (vis_by (by kernel_rfl))) (q_cons q_int (q_cons (q_globI T.i_MOST_HALLS (gl_by (by kernel_rfl))) q_nil))))))) (s_one (s_raise0 cy T.x_BadNumber (T.ex1 _) (gl_by (by kernel_rfl)))) s_nil))
theorem d_sharp_house (T : Txt P w K mg base W) : Cl P w K mg base W "sharp_house" 3 1 F_sharp_house := by
  obtain ⟨fd, F⟩ := T.f_sharp_house
  refine fn_cl F T.g_sharp_house sc_sharp_house T.hK (b1_sharp_house F) fun A outer s H E cy => ?_
  have c := cy.toKx
  exact (s_cons (s_expr (q_callC c (d_need_halls T) (by decide) (gl_by (by kernel_rfl)) (q_cons (q_name 0 rfl (vis_by (by kernel_rfl))) q_nil))) (s_cons (s_if (t_inG (q_name 0 rfl (vis_by (by kernel_rfl))) T.d_FACTORS (gl_by (by kernel_rfl)) T.g_FACTORS) (s_cons (s_set 1 c rfl (loc_by (by kernel_rfl)) (q_bi (b_tuple c) (gl_by (by kernel_rfl)) T.z_tuple (q_d (q_lc (own := [("hall", 2)]) c (i_rg1 (gl_by (by kernel_rfl)) T.z_range (q_name 0 rfl (vis_by (by kernel_rfl)))) (by kernel_rfl) rfl rfl (fun s H C cl fp c => ⟨(g_name 2 c rfl (loc_by (by kernel_rfl))), ts_nil, (q_d (q_mod (q_d (q_add c (q_name 2 rfl (vis_by (by kernel_rfl))) q_int)) (q_name 0 rfl (vis_by (by kernel_rfl)))))⟩))))) (s_one (s_ret (q_v (q_tup (q_cons (q_name 0 rfl (vis_by (by kernel_rfl))) (q_cons (q_tup (q_cons (q_name 1 rfl (vis_by (by kernel_rfl))) (q_cons (q_d (q_bi (b_tuple c) (gl_by (by kernel_rfl)) T.z_tuple (q_d (q_lc (own := [("hall", 2)]) c (i_rg1 (gl_by (by kernel_rfl)) T.z_range (q_name 0 rfl (vis_by (by kernel_rfl)))) (by kernel_rfl) rfl rfl (fun s H C cl fp c => ⟨(g_name 2 c rfl (loc_by (by kernel_rfl))), ts_nil, (q_d (q_mod (q_d (q_mul c (q_name 2 rfl (vis_by (by kernel_rfl))) (q_d (q_ixG c (q_name 0 rfl (vis_by (by kernel_rfl))) T.d_FACTORS (gl_by (by kernel_rfl)) T.g_FACTORS)))) (q_name 0 rfl (vis_by (by kernel_rfl)))))⟩))))) q_nil))) q_nil))))))) s_nil) (s_cons (s_if (t_inG (q_name 0 rfl (vis_by (by kernel_rfl))) T.d_BITS (gl_by (by kernel_rfl)) T.g_BITS) (s_one (s_ret (q_v (q_tup (q_cons (q_name 0 rfl (vis_by (by kernel_rfl))) (q_cons (q_tup (q_cons (q_d (q_bi (b_tuple c) (gl_by (by kernel_rfl)) T.z_tuple (q_d (q_lc (own := [("hall", 2)]) c (i_rg1 (gl_by (by kernel_rfl)) T.z_range (q_name 0 rfl (vis_by (by kernel_rfl)))) (by kernel_rfl) rfl rfl (fun s H C cl fp c => ⟨(g_name 2 c rfl (loc_by (by kernel_rfl))), ts_nil, (q_d (q_sub (q_d (q_add c (q_name 2 rfl (vis_by (by kernel_rfl))) q_int)) (q_d (q_mul c q_int (q_d (q_mod (q_name 2 rfl (vis_by (by kernel_rfl))) q_int))))))⟩))))) (q_cons (q_d (q_ixG c (q_name 0 rfl (vis_by (by kernel_rfl))) T.d_BITS (gl_by (by kernel_rfl)) T.g_BITS)) q_nil))) q_nil)))))) s_nil) (s_one (s_ret (q_v q_non))))))
theorem d_shows_sharp (T : Txt P w K mg base W) : Cl P w K mg base W "shows_sharp" 9 2 F_shows_sharp := by
  obtain ⟨fd, F⟩ := T.f_shows_sharp
  refine fn_cl F T.g_shows_sharp sc_shows_sharp T.hK (b1_shows_sharp F) fun A outer s H E cy => ?_
  have c := cy.toKx
  exact (s_cons (s_expr (q_callC c (d_need_halls T) (by decide) (gl_by (by kernel_rfl)) (q_cons (q_name 0 rfl (vis_by (by kernel_rfl))) q_nil))) (s_cons (s_if (t_cmp c_is (q_name 1 rfl (vis_by (by kernel_rfl))) q_non) (s_one (s_ret (q_and (q_d (q_ninG (q_name 0 rfl (vis_by (by kernel_rfl))) T.d_FACTORS (gl_by (by kernel_rfl)) T.g_FACTORS)) (q_one (q_ninG (q_name 0 rfl (vis_by (by kernel_rfl))) T.d_BITS (gl_by (by kernel_rfl)) T.g_BITS))))) s_nil) (s_cons (s_if (t_bool (w_or (t_not (t_val c (q_d (q_callC c (d_is_house T) (by decide) (gl_by (by kernel_rfl)) (q_cons (q_name 1 rfl (vis_by (by kernel_rfl))) q_nil))))) (w_or (t_cmp (c_ne c) (q_d (q_ixN c 1 rfl (vis_by (by kernel_rfl)) q_int)) (q_name 0 rfl (vis_by (by kernel_rfl)))) (w_or1 (t_not (t_val c (q_d (q_callC c (d_is_transitive T) (by decide) (gl_by (by kernel_rfl)) (q_cons (q_name 1 rfl (vis_by (by kernel_rfl))) q_nil))))))))) (s_one (s_ret (q_v q_bl))) s_nil) (s_one (s_ret (q_callC c (d_is_sharp T) (by decide) (gl_by (by kernel_rfl)) (q_cons (q_name 1 rfl (vis_by (by kernel_rfl))) q_nil)))))))
theorem d__law_taken (T : Txt P w K mg base W) : Cl P w K mg base W "_law_taken" 1 2 F__law_taken := by
  obtain ⟨fd, F⟩ := T.f__law_taken
  refine fn_cl F T.g__law_taken sc__law_taken T.hK (b1__law_taken F) fun A outer s H E cy => ?_
  have c := cy.toKx
  exact (s_cons (s_if (t_cmp c_gt (q_d (q_ixN c 0 rfl (vis_by (by kernel_rfl)) q_int)) q_int) (s_cons (s_set 2 c rfl (loc_by (by kernel_rfl)) (q_mod (q_d (q_bi b_int (gl_by (by kernel_rfl)) T.z_int (q_d (q_ixN c 0 rfl (vis_by (by kernel_rfl)) q_int)))) (q_name 1 rfl (vis_by (by kernel_rfl))))) (s_cons (s_sto 0 c rfl (vis_by (by kernel_rfl)) (q_d (q_fdiv (q_d (q_ixN c 0 rfl (vis_by (by kernel_rfl)) q_int)) (q_name 1 rfl (vis_by (by kernel_rfl))))) q_int) (s_one (s_ret (q_nameV 2 rfl (vis_by (by kernel_rfl))))))) s_nil) (s_cons (s_sto 0 c rfl (vis_by (by kernel_rfl)) (q_d (q_add c (q_d (q_ixN c 0 rfl (vis_by (by kernel_rfl)) q_int)) q_int)) q_int) (s_cons (s_if (t_cmp c_gt (q_d (q_ixN c 0 rfl (vis_by (by kernel_rfl)) q_int)) (q_d (q_bi (b_len c) (gl_by (by kernel_rfl)) T.z_len (q_d (q_ixN c 0 rfl (vis_by (by kernel_rfl)) q_int))))) (s_cons (s_sto 0 c rfl (vis_by (by kernel_rfl)) (q_d (q_mod (q_d (q_bi b_int (gl_by (by kernel_rfl)) T.z_int (q_d (q_add c (q_d (q_mul c (q_d (q_ixN c 0 rfl (vis_by (by kernel_rfl)) q_int)) q_int)) q_int)))) q_int)) q_int) (s_one (s_ret (q_mod (q_d (q_bi b_int (gl_by (by kernel_rfl)) T.z_int (q_d (q_fdiv (q_d (q_ixN c 0 rfl (vis_by (by kernel_rfl)) q_int)) q_int)))) (q_name 1 rfl (vis_by (by kernel_rfl))))))) s_nil) (s_cons (s_set 3 c rfl (loc_by (by kernel_rfl)) (q_ix c (q_d (q_ixN c 0 rfl (vis_by (by kernel_rfl)) q_int)) (q_d (q_sub (q_d (q_ixN c 0 rfl (vis_by (by kernel_rfl)) q_int)) q_int)))) (s_cons (s_sto 0 c rfl (vis_by (by kernel_rfl)) (q_d (q_mod (q_d (q_bi b_int (gl_by (by kernel_rfl)) T.z_int (q_d (q_add c (q_d (q_add c (q_d (q_mul c (q_d (q_ixN c 0 rfl (vis_by (by kernel_rfl)) q_int)) q_int)) (q_name 3 rfl (vis_by (by kernel_rfl))))) q_int)))) q_int)) q_int) (s_cons (s_if (t_cmp c_ge (q_name 3 rfl (vis_by (by kernel_rfl))) (q_d (q_pow q_int q_int))) (s_one (s_sto 0 c rfl (vis_by (by kernel_rfl)) (q_d (q_fdiv (q_name 3 rfl (vis_by (by kernel_rfl))) (q_name 1 rfl (vis_by (by kernel_rfl))))) q_int)) s_nil) (s_one (s_ret (q_mod (q_d (q_bi b_int (gl_by (by kernel_rfl)) T.z_int (q_name 3 rfl (vis_by (by kernel_rfl))))) (q_name 1 rfl (vis_by (by kernel_rfl))))))))))))
end
end Nb

set_option Elab.async false
set_option linter.all false
set_option maxRecDepth 100000
set_option maxHeartbeats 8000000
namespace Nb
open PySem PySem.Spec L2 PyProof.Rows
section
variable {P : Program} {w : World} {K : PySem.W.Frag} {mg : Str → Option Value} {base : Heap} {W : Wd}
theorem d__law_pick (T : Txt P w K mg base W) : Cl P w K mg base W "_law_pick" 2 2 F__law_pick := by
  obtain ⟨fd, F⟩ := T.f__law_pick
  refine fn_cl F T.g__law_pick sc__law_pick T.hK (b1__law_pick F) fun A outer s H E cy => ?_
  have c := cy.toKx
  exact (s_one (s_ret (q_ixN c 1 rfl (vis_by (by kernel_rfl)) (q_d (q_callRC c (d__law_taken T) (by decide) (gl_by (by kernel_rfl)) (i := 0) rfl (vis_by (by kernel_rfl)) (q_cons (q_d (q_lenN c 1 (gl_by (by kernel_rfl)) T.z_len rfl (vis_by (by kernel_rfl)))) q_nil))))))
theorem dn__law_alike (T : Txt P w K mg base W) : ∀ n, Cl P w K mg base W "_law_alike" (n + 1) 2 (F__law_alike n)
  | 0 => by
    obtain ⟨fd, F⟩ := T.f__law_alike
    exact fn_cl F T.g__law_alike sc__law_alike T.hK (b1__law_alike F) fun A outer s H E cy => s_neverB
  | n + 1 => by
    have ih := dn__law_alike T n
    obtain ⟨fd, F⟩ := T.f__law_alike
    refine fn_cl F T.g__law_alike sc__law_alike T.hK (b1__law_alike F) fun A outer s H E cy => ?_
    have c := cy.toKx
    exact (s_cons (s_if (t_val c (q_d (q_isiTL (gl_by (by kernel_rfl)) T.z_isinstance (gl_by (by kernel_rfl)) T.z_tuple (gl_by (by kernel_rfl)) T.z_list (q_name 1 rfl (vis_by (by kernel_rfl))) c.K))) (s_cons (s_if (t_bool (w_or (t_not (t_val c (q_d (q_isiTL (gl_by (by kernel_rfl)) T.z_isinstance (gl_by (by kernel_rfl)) T.z_tuple (gl_by (by kernel_rfl)) T.z_list (q_name 0 rfl (vis_by (by kernel_rfl))) c.K)))) (w_or1 (t_cmp (c_ne c) (q_d (q_isi "list" (gl_by (by kernel_rfl)) T.z_isinstance (gl_by (by kernel_rfl)) T.z_list (by decide +kernel) (q_name 0 rfl (vis_by (by kernel_rfl))) c.K)) (q_d (q_isi "list" (gl_by (by kernel_rfl)) T.z_isinstance (gl_by (by kernel_rfl)) T.z_list (by decide +kernel) (q_name 1 rfl (vis_by (by kernel_rfl))) c.K)))))) (s_one (s_ret (q_v q_bl))) s_nil) (s_cons (s_if (t_cmp (c_ne c) (q_d (q_lenN c 0 (gl_by (by kernel_rfl)) T.z_len rfl (vis_by (by kernel_rfl)))) (q_d (q_lenN c 1 (gl_by (by kernel_rfl)) T.z_len rfl (vis_by (by kernel_rfl))))) (s_one (s_ret (q_v q_bl))) s_nil) (s_one (s_ret (q_cmp (c_eq c) (q_d (q_lc (own := [("_law_k", 2)]) c (i_rg1 (gl_by (by kernel_rfl)) T.z_range (q_d (q_lenN c 1 (gl_by (by kernel_rfl)) T.z_len rfl (vis_by (by kernel_rfl))))) (by kernel_rfl) rfl rfl (fun s H C cl fp c => ⟨(g_name 2 c rfl (loc_by (by kernel_rfl))), (ts_one (t_not (t_val c (q_d (q_callC c ih (Nat.le_refl _) (gl_by (by kernel_rfl)) (q_cons (q_d (q_ixN c 0 rfl (vis_by (by kernel_rfl)) (q_name 2 rfl (vis_by (by kernel_rfl))))) (q_cons (q_d (q_ixN c 1 rfl (vis_by (by kernel_rfl)) (q_name 2 rfl (vis_by (by kernel_rfl))))) q_nil))))))), (q_name 2 rfl (vis_by (by kernel_rfl)))⟩))) (q_d (q_lst q_nil))))))) s_nil) (s_cons (s_if (t_bool (w_or (t_cmp c_is (q_name 1 rfl (vis_by (by kernel_rfl))) q_non) (w_or1 (t_val c (q_d (q_isi "str" (gl_by (by kernel_rfl)) T.z_isinstance (gl_by (by kernel_rfl)) T.z_str (by decide +kernel) (q_name 1 rfl (vis_by (by kernel_rfl))) c.K)))))) (s_one (s_ret (q_and (q_d (q_cmpN (cp_eq c) 0 rfl (vis_by (by kernel_rfl)) (q_name 1 rfl (vis_by (by kernel_rfl))))) (q_one (q_cmp (c_eq c) (q_d (q_isi "str" (gl_by (by kernel_rfl)) T.z_isinstance (gl_by (by kernel_rfl)) T.z_str (by decide +kernel) (q_name 0 rfl (vis_by (by kernel_rfl))) c.K)) (q_d (q_isi "str" (gl_by (by kernel_rfl)) T.z_isinstance (gl_by (by kernel_rfl)) T.z_str (by decide +kernel) (q_name 1 rfl (vis_by (by kernel_rfl))) c.K))))))) s_nil) (s_one (s_ret (q_and (q_d (q_isi "int" (gl_by (by kernel_rfl)) T.z_isinstance (gl_by (by kernel_rfl)) T.z_int (by decide +kernel) (q_name 0 rfl (vis_by (by kernel_rfl))) c.K)) (q_and (q_d (q_cmp (c_eq c) (q_d (q_isi "bool" (gl_by (by kernel_rfl)) T.z_isinstance (gl_by (by kernel_rfl)) T.z_bool (by decide +kernel) (q_name 0 rfl (vis_by (by kernel_rfl))) c.K)) (q_d (q_isi "bool" (gl_by (by kernel_rfl)) T.z_isinstance (gl_by (by kernel_rfl)) T.z_bool (by decide +kernel) (q_name 1 rfl (vis_by (by kernel_rfl))) c.K)))) (q_one (q_cmpN (cp_eq c) 0 rfl (vis_by (by kernel_rfl)) (q_name 1 rfl (vis_by (by kernel_rfl)))))))))))
theorem d__law_alike (T : Txt P w K mg base W) : Cl P w K mg base W "_law_alike" 7 2 (F__law_alike 6) := dn__law_alike T 6
theorem d__law_turn (T : Txt P w K mg base W) : Cl P w K mg base W "_law_turn" 2 2 F__law_turn := by
  obtain ⟨fd, F⟩ := T.f__law_turn
  refine fn_cl F T.g__law_turn sc__law_turn T.hK (b1__law_turn F) fun A outer s H E cy => ?_
  have c := cy.toKx
  exact (s_cons (s_par 2 3 c rfl rfl (by decide) (by kernel_rfl) (by kernel_rfl) (q_v (q_tup q_nil)) (q_lrg c (gl_by (by kernel_rfl)) T.z_list (gl_by (by kernel_rfl)) T.z_range (q_name 1 rfl (vis_by (by kernel_rfl)))) (hw := by kernel_rfl)) (s_cons (s_while 20000000 cy.own (t_cmpN (cp_ne c) 3 rfl (vis_by (by kernel_rfl)) (q_d (q_lst q_nil))) (s_one (s_set 2 c rfl (loc_by (by kernel_rfl)) (q_add c (q_name 2 rfl (vis_by (by kernel_rfl))) (q_tup (q_cons (q_d (q_popAt 3 c rfl (vis_by (by kernel_rfl)) (q_d (q_callRC c (d__law_taken T) (by decide) (gl_by (by kernel_rfl)) (i := 0) rfl (vis_by (by kernel_rfl)) (q_cons (q_d (q_lenN c 3 (gl_by (by kernel_rfl)) T.z_len rfl (vis_by (by kernel_rfl)))) q_nil))))) q_nil)))))) (s_one (s_ret (q_nameV 2 rfl (vis_by (by kernel_rfl)))))))
theorem d__law_circle (T : Txt P w K mg base W) : Cl P w K mg base W "_law_circle" 1 2 F__law_circle := by
  obtain ⟨fd, F⟩ := T.f__law_circle
  refine fn_cl F T.g__law_circle sc__law_circle T.hK (b1__law_circle F) fun A outer s H E cy => ?_
  have c := cy.toKx
  exact (s_one (s_ret (q_bi (b_tuple c) (gl_by (by kernel_rfl)) T.z_tuple (q_d (q_lc (own := [("_law_hall", 2)]) c (i_rg1 (gl_by (by kernel_rfl)) T.z_range (q_name 0 rfl (vis_by (by kernel_rfl)))) (by kernel_rfl) rfl rfl (fun s H C cl fp c => ⟨(g_name 2 c rfl (loc_by (by kernel_rfl))), ts_nil, (q_d (q_mod (q_d (q_add c (q_name 2 rfl (vis_by (by kernel_rfl))) (q_name 1 rfl (vis_by (by kernel_rfl))))) (q_name 0 rfl (vis_by (by kernel_rfl)))))⟩))))))
theorem d__law_members (T : Txt P w K mg base W) : Cl P w K mg base W "_law_members" 1 2 F__law_members := by
  obtain ⟨fd, F⟩ := T.f__law_members
  refine fn_cl F T.g__law_members sc__law_members T.hK (b1__law_members F) fun A outer s H E cy => ?_
  have c := cy.toKx
  exact (s_cons (s_par 2 3 c rfl rfl (by decide) (by kernel_rfl) (by kernel_rfl) (q_disp1 c (q_d (q_trg c (gl_by (by kernel_rfl)) T.z_tuple (gl_by (by kernel_rfl)) T.z_range (q_name 1 rfl (vis_by (by kernel_rfl))))) q_bl) (q_lst (q_cons (q_d (q_trg c (gl_by (by kernel_rfl)) T.z_tuple (gl_by (by kernel_rfl)) T.z_range (q_name 1 rfl (vis_by (by kernel_rfl))))) q_nil)) (hw := by kernel_rfl)) (s_cons (s_while 20000000 cy.own (t_cmpN (cp_ne c) 3 rfl (vis_by (by kernel_rfl)) (q_d (q_lst q_nil))) (s_cons (s_set 4 c rfl (loc_by (by kernel_rfl)) (q_pop 3 c rfl (vis_by (by kernel_rfl)))) (s_one (s_for c cy.own (i_seq c (q_name 0 rfl (vis_by (by kernel_rfl)))) (g_name 5 c rfl (loc_by (by kernel_rfl))) (s_cons (s_set 6 c rfl (loc_by (by kernel_rfl)) (q_bi (b_tuple c) (gl_by (by kernel_rfl)) T.z_tuple (q_d (q_lc (own := [("_law_hall", 7)]) c (i_seq c (q_name 4 rfl (vis_by (by kernel_rfl)))) (by kernel_rfl) rfl rfl (fun s H C cl fp c => ⟨(g_name 7 c rfl (loc_by (by kernel_rfl))), ts_nil, (q_d (q_ixN c 5 rfl (vis_by (by kernel_rfl)) (q_name 7 rfl (vis_by (by kernel_rfl)))))⟩))))) (s_one (s_if (t_inN (cn_nin c) 2 (q_name 6 rfl (vis_by (by kernel_rfl))) rfl (vis_by (by kernel_rfl))) (s_cons (s_sto 2 c rfl (vis_by (by kernel_rfl)) q_bl (q_name 6 rfl (vis_by (by kernel_rfl)))) (s_one (s_expr (q_app 3 c rfl (vis_by (by kernel_rfl)) (q_name 6 rfl (vis_by (by kernel_rfl))))))) s_nil))))))) (s_one (s_ret (q_listN c 2 (gl_by (by kernel_rfl)) T.z_list rfl (vis_by (by kernel_rfl)))))))
theorem d__law_known_groups (T : Txt P w K mg base W) : Cl P w K mg base W "_law_known_groups" 2 0 F__law_known_groups := by
  obtain ⟨fd, F⟩ := T.f__law_known_groups
  refine fn_cl F T.g__law_known_groups sc__law_known_groups T.hK (b1__law_known_groups F) fun A outer s H E cy => ?_
  have c := cy.toKx
  exact (s_cons (s_set 0 c rfl (loc_by (by kernel_rfl)) (q_lst (q_cons (q_tup (q_cons q_int (q_cons (q_tup (q_cons (q_tup (q_cons q_int (q_cons q_int q_nil))) q_nil)) q_nil))) (q_cons (q_tup (q_cons q_int (q_cons (q_tup (q_cons (q_tup (q_cons q_int (q_cons q_int (q_cons q_int q_nil)))) q_nil)) q_nil))) (q_cons (q_tup (q_cons q_int (q_cons (q_tup (q_cons (q_tup (q_cons q_int (q_cons q_int (q_cons q_int q_nil)))) (q_cons (q_tup (q_cons q_int (q_cons q_int (q_cons q_int q_nil)))) q_nil))) q_nil))) q_nil))))) (s_cons (s_set 0 c rfl (loc_by (by kernel_rfl)) (q_add c (q_name 0 rfl (vis_by (by kernel_rfl))) (q_d (q_lst (q_cons (q_tup (q_cons q_int (q_cons (q_tup (q_cons (q_d (q_callC c (d__law_circle T) (by decide) (gl_by (by kernel_rfl)) (q_cons q_int (q_cons q_int q_nil)))) q_nil)) q_nil))) (q_cons (q_tup (q_cons q_int (q_cons (q_tup (q_cons (q_tup (q_cons q_int (q_cons q_int (q_cons q_int (q_cons q_int q_nil))))) (q_cons (q_tup (q_cons q_int (q_cons q_int (q_cons q_int (q_cons q_int q_nil))))) q_nil))) q_nil))) q_nil)))))) (s_cons (s_set 0 c rfl (loc_by (by kernel_rfl)) (q_add c (q_name 0 rfl (vis_by (by kernel_rfl))) (q_d (q_lst (q_cons (q_tup (q_cons q_int (q_cons (q_tup (q_cons (q_tup (q_cons q_int (q_cons q_int (q_cons q_int (q_cons q_int q_nil))))) (q_cons (q_tup (q_cons q_int (q_cons q_int (q_cons q_int (q_cons q_int q_nil))))) q_nil))) q_nil))) (q_cons (q_tup (q_cons q_int (q_cons (q_tup (q_cons (q_d (q_callC c (d__law_circle T) (by decide) (gl_by (by kernel_rfl)) (q_cons q_int (q_cons q_int q_nil)))) (q_cons (q_tup (q_cons q_int (q_cons q_int (q_cons q_int (q_cons q_int q_nil))))) q_nil))) q_nil))) q_nil)))))) (s_cons (s_set 0 c rfl (loc_by (by kernel_rfl)) (q_add c (q_name 0 rfl (vis_by (by kernel_rfl))) (q_d (q_lst (q_cons (q_tup (q_cons q_int (q_cons (q_tup (q_cons (q_tup (q_cons q_int (q_cons q_int (q_cons q_int (q_cons q_int q_nil))))) (q_cons (q_tup (q_cons q_int (q_cons q_int (q_cons q_int (q_cons q_int q_nil))))) q_nil))) q_nil))) q_nil))))) (s_cons (s_set 0 c rfl (loc_by (by kernel_rfl)) (q_add c (q_name 0 rfl (vis_by (by kernel_rfl))) (q_d (q_lst (q_cons (q_tup (q_cons q_int (q_cons (q_tup (q_cons (q_d (q_callC c (d__law_circle T) (by decide) (gl_by (by kernel_rfl)) (q_cons q_int (q_cons q_int q_nil)))) q_nil)) q_nil))) (q_cons (q_tup (q_cons q_int (q_cons (q_tup (q_cons (q_d (q_callC c (d__law_circle T) (by decide) (gl_by (by kernel_rfl)) (q_cons q_int (q_cons q_int q_nil)))) (q_cons (q_tup (q_cons q_int (q_cons q_int (q_cons q_int (q_cons q_int (q_cons q_int q_nil)))))) q_nil))) q_nil))) q_nil)))))) (s_cons (s_set 0 c rfl (loc_by (by kernel_rfl)) (q_add c (q_name 0 rfl (vis_by (by kernel_rfl))) (q_d (q_lst (q_cons (q_tup (q_cons q_int (q_cons (q_tup (q_cons (q_d (q_callC c (d__law_circle T) (by decide) (gl_by (by kernel_rfl)) (q_cons q_int (q_cons q_int q_nil)))) (q_cons (q_tup (q_cons q_int (q_cons q_int (q_cons q_int (q_cons q_int (q_cons q_int q_nil)))))) q_nil))) q_nil))) q_nil))))) (s_cons (s_set 0 c rfl (loc_by (by kernel_rfl)) (q_add c (q_name 0 rfl (vis_by (by kernel_rfl))) (q_d (q_lst (q_cons (q_tup (q_cons q_int (q_cons (q_tup (q_cons (q_tup (q_cons q_int (q_cons q_int (q_cons q_int (q_cons q_int (q_cons q_int q_nil)))))) (q_cons (q_tup (q_cons q_int (q_cons q_int (q_cons q_int (q_cons q_int (q_cons q_int q_nil)))))) q_nil))) q_nil))) (q_cons (q_tup (q_cons q_int (q_cons (q_tup (q_cons (q_d (q_callC c (d__law_circle T) (by decide) (gl_by (by kernel_rfl)) (q_cons q_int (q_cons q_int q_nil)))) q_nil)) q_nil))) q_nil)))))) (s_cons (s_set 0 c rfl (loc_by (by kernel_rfl)) (q_add c (q_name 0 rfl (vis_by (by kernel_rfl))) (q_d (q_lst (q_cons (q_tup (q_cons q_int (q_cons (q_tup (q_cons (q_d (q_callC c (d__law_circle T) (by decide) (gl_by (by kernel_rfl)) (q_cons q_int (q_cons q_int q_nil)))) (q_cons (q_tup (q_cons q_int (q_cons q_int (q_cons q_int (q_cons q_int (q_cons q_int (q_cons q_int q_nil))))))) q_nil))) q_nil))) q_nil))))) (s_cons (s_set 0 c rfl (loc_by (by kernel_rfl)) (q_add c (q_name 0 rfl (vis_by (by kernel_rfl))) (q_d (q_lst (q_cons (q_tup (q_cons q_int (q_cons (q_tup (q_cons (q_tup (q_cons q_int (q_cons q_int (q_cons q_int (q_cons q_int (q_cons q_int (q_cons q_int q_nil))))))) (q_cons (q_tup (q_cons q_int (q_cons q_int (q_cons q_int (q_cons q_int (q_cons q_int (q_cons q_int q_nil))))))) q_nil))) q_nil))) (q_cons (q_tup (q_cons q_int (q_cons (q_tup (q_cons (q_tup (q_cons q_int (q_cons q_int (q_cons q_int (q_cons q_int (q_cons q_int (q_cons q_int q_nil))))))) (q_cons (q_tup (q_cons q_int (q_cons q_int (q_cons q_int (q_cons q_int (q_cons q_int (q_cons q_int q_nil))))))) q_nil))) q_nil))) q_nil)))))) (s_cons (s_set 0 c rfl (loc_by (by kernel_rfl)) (q_add c (q_name 0 rfl (vis_by (by kernel_rfl))) (q_d (q_lst (q_cons (q_tup (q_cons q_int (q_cons (q_tup (q_cons (q_d (q_callC c (d__law_circle T) (by decide) (gl_by (by kernel_rfl)) (q_cons q_int (q_cons q_int q_nil)))) (q_cons (q_tup (q_cons q_int (q_cons q_int (q_cons q_int (q_cons q_int (q_cons q_int (q_cons q_int (q_cons q_int q_nil)))))))) q_nil))) q_nil))) q_nil))))) (s_cons (s_set 0 c rfl (loc_by (by kernel_rfl)) (q_add c (q_name 0 rfl (vis_by (by kernel_rfl))) (q_d (q_lst (q_cons (q_tup (q_cons q_int (q_cons (q_tup (q_cons (q_d (q_callC c (d__law_circle T) (by decide) (gl_by (by kernel_rfl)) (q_cons q_int (q_cons q_int q_nil)))) (q_cons (q_tup (q_cons q_int (q_cons q_int (q_cons q_int (q_cons q_int (q_cons q_int (q_cons q_int (q_cons q_int q_nil)))))))) q_nil))) q_nil))) (q_cons (q_tup (q_cons q_int (q_cons (q_tup (q_cons (q_d (q_callC c (d__law_circle T) (by decide) (gl_by (by kernel_rfl)) (q_cons q_int (q_cons q_int q_nil)))) q_nil)) q_nil))) q_nil)))))) (s_cons (s_set 0 c rfl (loc_by (by kernel_rfl)) (q_add c (q_name 0 rfl (vis_by (by kernel_rfl))) (q_d (q_lst (q_cons (q_tup (q_cons q_int (q_cons (q_tup (q_cons (q_d (q_callC c (d__law_circle T) (by decide) (gl_by (by kernel_rfl)) (q_cons q_int (q_cons q_int q_nil)))) q_nil)) q_nil))) (q_cons (q_tup (q_cons q_int (q_cons (q_tup (q_cons (q_tup (q_cons q_int (q_cons q_int (q_cons q_int (q_cons q_int (q_cons q_int (q_cons q_int (q_cons q_int (q_cons q_int q_nil))))))))) (q_cons (q_tup (q_cons q_int (q_cons q_int (q_cons q_int (q_cons q_int (q_cons q_int (q_cons q_int (q_cons q_int (q_cons q_int q_nil))))))))) q_nil))) q_nil))) q_nil)))))) (s_cons (s_set 0 c rfl (loc_by (by kernel_rfl)) (q_add c (q_name 0 rfl (vis_by (by kernel_rfl))) (q_d (q_lst (q_cons (q_tup (q_cons q_int (q_cons (q_tup (q_cons (q_tup (q_cons q_int (q_cons q_int (q_cons q_int (q_cons q_int (q_cons q_int (q_cons q_int (q_cons q_int (q_cons q_int q_nil))))))))) (q_cons (q_tup (q_cons q_int (q_cons q_int (q_cons q_int (q_cons q_int (q_cons q_int (q_cons q_int (q_cons q_int (q_cons q_int q_nil))))))))) q_nil))) q_nil))) q_nil))))) (s_one (s_ret (q_add c (q_name 0 rfl (vis_by (by kernel_rfl))) (q_d (q_lst (q_cons (q_tup (q_cons q_int (q_cons (q_tup (q_cons (q_d (q_callC c (d__law_circle T) (by decide) (gl_by (by kernel_rfl)) (q_cons q_int (q_cons q_int q_nil)))) (q_cons (q_tup (q_cons q_int (q_cons q_int (q_cons q_int (q_cons q_int (q_cons q_int (q_cons q_int (q_cons q_int (q_cons q_int q_nil))))))))) q_nil))) q_nil))) q_nil)))))))))))))))))))
end
end Nb

set_option Elab.async false
set_option linter.all false
set_option maxRecDepth 100000
set_option maxHeartbeats 8000000
namespace Nb
open PySem PySem.Spec L2 PyProof.Rows
section
variable {P : Program} {w : World} {K : PySem.W.Frag} {mg : Str → Option Value} {base : Heap} {W : Wd}
theorem d__law_mixed (T : Txt P w K mg base W) : Cl P w K mg base W "_law_mixed" 3 2 F__law_mixed := by
  obtain ⟨fd, F⟩ := T.f__law_mixed
  refine fn_cl F T.g__law_mixed sc__law_mixed T.hK (b1__law_mixed F) fun A outer s H E cy => ?_
  have c := cy.toKx
  exact (s_cons (s_par 2 3 c rfl rfl (by decide) (by kernel_rfl) (by kernel_rfl) (q_callRC c (d__law_turn T) (by decide) (gl_by (by kernel_rfl)) (i := 0) rfl (vis_by (by kernel_rfl)) (q_cons (q_d (q_ixN c 1 rfl (vis_by (by kernel_rfl)) q_int)) q_nil)) (q_lst q_nil) (hw := by kernel_rfl)) (s_cons (s_for c cy.own (i_seq c (q_d (q_ixN c 1 rfl (vis_by (by kernel_rfl)) q_int))) (g_name 4 c rfl (loc_by (by kernel_rfl))) (s_cons (s_set 5 c rfl (loc_by (by kernel_rfl)) (q_mul c (q_d (q_lst (q_cons q_int q_nil))) (q_d (q_ixN c 1 rfl (vis_by (by kernel_rfl)) q_int)))) (s_cons (s_for c cy.own (i_rg1 (gl_by (by kernel_rfl)) T.z_range (q_d (q_ixN c 1 rfl (vis_by (by kernel_rfl)) q_int))) (g_name 6 c rfl (loc_by (by kernel_rfl))) (s_one (s_sto 5 c rfl (vis_by (by kernel_rfl)) (q_d (q_ixN c 2 rfl (vis_by (by kernel_rfl)) (q_d (q_ixN c 4 rfl (vis_by (by kernel_rfl)) (q_name 6 rfl (vis_by (by kernel_rfl))))))) (q_d (q_ixN c 2 rfl (vis_by (by kernel_rfl)) (q_name 6 rfl (vis_by (by kernel_rfl)))))))) (s_one (s_expr (q_app 3 c rfl (vis_by (by kernel_rfl)) (q_d (q_biN (b_tuple c) (gl_by (by kernel_rfl)) T.z_tuple 5 rfl (vis_by (by kernel_rfl)))))))))) (s_one (s_ret (q_v (q_tup (q_cons (q_d (q_ixN c 1 rfl (vis_by (by kernel_rfl)) q_int)) (q_cons (q_d (q_biN (b_tuple c) (gl_by (by kernel_rfl)) T.z_tuple 3 rfl (vis_by (by kernel_rfl)))) q_nil))))))))
theorem d__law_whole (T : Txt P w K mg base W) : Cl P w K mg base W "_law_whole" 4 1 F__law_whole := by
  obtain ⟨fd, F⟩ := T.f__law_whole
  refine fn_cl F T.g__law_whole sc__law_whole T.hK (b1__law_whole F) fun A outer s H E cy => ?_
  have c := cy.toKx
  exact (s_one (s_ret (q_callRC c (d__law_mixed T) (by decide) (gl_by (by kernel_rfl)) (i := 0) rfl (vis_by (by kernel_rfl)) (q_cons (q_d (q_callRC c (d__law_pick T) (by decide) (gl_by (by kernel_rfl)) (i := 0) rfl (vis_by (by kernel_rfl)) (q_cons (q_d (q_call0C c (d__law_known_groups T) (by decide) (gl_by (by kernel_rfl)))) q_nil))) q_nil))))
theorem d__law_pairs (T : Txt P w K mg base W) : Cl P w K mg base W "_law_pairs" 1 1 F__law_pairs := by
  obtain ⟨fd, F⟩ := T.f__law_pairs
  refine fn_cl F T.g__law_pairs sc__law_pairs T.hK (b1__law_pairs F) fun A outer s H E cy => ?_
  have c := cy.toKx
  exact (s_cons (s_par 1 2 c rfl rfl (by decide) (by kernel_rfl) (by kernel_rfl) (q_lst q_nil) (q_lst q_nil) (hw := by kernel_rfl)) (s_cons (s_for c cy.own (i_rg1 (gl_by (by kernel_rfl)) T.z_range (q_d (q_ixN c 0 rfl (vis_by (by kernel_rfl)) q_int))) (g_name 3 c rfl (loc_by (by kernel_rfl))) (s_one (s_set 1 c rfl (loc_by (by kernel_rfl)) (q_add c (q_name 1 rfl (vis_by (by kernel_rfl))) (q_d (q_lc (own := [("_law_other", 4)]) c (i_rg1 (gl_by (by kernel_rfl)) T.z_range (q_d (q_ixN c 0 rfl (vis_by (by kernel_rfl)) q_int))) (by kernel_rfl) rfl rfl (fun s H C cl fp c => ⟨(g_name 4 c rfl (loc_by (by kernel_rfl))), ts_nil, (q_tup (q_cons (q_name 3 rfl (vis_by (by kernel_rfl))) (q_cons (q_name 4 rfl (vis_by (by kernel_rfl))) q_nil)))⟩))))))) (s_cons (s_while 20000000 cy.own (t_cmpN (cp_ne c) 1 rfl (vis_by (by kernel_rfl)) (q_d (q_lst q_nil))) (s_cons (s_parT 5 6 c rfl rfl (loc_by (by kernel_rfl)) (loc_by (by kernel_rfl)) (q_lst (q_cons (q_d (q_ixN c 1 rfl (vis_by (by kernel_rfl)) q_int)) q_nil)) (q_lst (q_cons (q_d (q_ixN c 1 rfl (vis_by (by kernel_rfl)) q_int)) q_nil)) (hw := by kernel_rfl)) (s_cons (s_while 20000000 cy.own (t_cmpN (cp_ne c) 6 rfl (vis_by (by kernel_rfl)) (q_d (q_lst q_nil))) (s_cons (s_set 7 c rfl (loc_by (by kernel_rfl)) (q_pop 6 c rfl (vis_by (by kernel_rfl)))) (s_one (s_for c cy.own (i_seq c (q_d (q_ixN c 0 rfl (vis_by (by kernel_rfl)) q_int))) (g_name 8 c rfl (loc_by (by kernel_rfl))) (s_cons (s_set 4 c rfl (loc_by (by kernel_rfl)) (q_v (q_tup (q_cons (q_d (q_ixN c 8 rfl (vis_by (by kernel_rfl)) (q_d (q_ixN c 7 rfl (vis_by (by kernel_rfl)) q_int)))) (q_cons (q_d (q_ixN c 8 rfl (vis_by (by kernel_rfl)) (q_d (q_ixN c 7 rfl (vis_by (by kernel_rfl)) q_int)))) q_nil))))) (s_one (s_if (t_inN (cn_nin c) 5 (q_name 4 rfl (vis_by (by kernel_rfl))) rfl (vis_by (by kernel_rfl))) (s_cons (s_expr (q_app 5 c rfl (vis_by (by kernel_rfl)) (q_name 4 rfl (vis_by (by kernel_rfl))))) (s_one (s_expr (q_app 6 c rfl (vis_by (by kernel_rfl)) (q_name 4 rfl (vis_by (by kernel_rfl))))))) s_nil))))))) (s_cons (s_expr (q_app 2 c rfl (vis_by (by kernel_rfl)) (q_name 5 rfl (vis_by (by kernel_rfl))))) (s_one (s_setLc 1 (own := [("_law_pair", 7)]) c rfl (by kernel_rfl) (sw_true rfl (by kernel_rfl) rfl (by kernel_rfl)) (i_seq c (q_name 1 rfl (vis_by (by kernel_rfl)))) (by kernel_rfl) rfl rfl (fun s H C cl fp c => ⟨(g_name 7 c rfl (loc_by (by kernel_rfl))), (ts_one (t_inN (cn_nin c) 5 (q_name 7 rfl (vis_by (by kernel_rfl))) rfl (vis_by (by kernel_rfl)))), (q_name 7 rfl (vis_by (by kernel_rfl)))⟩))))))) (s_one (s_ret (q_nameV 2 rfl (vis_by (by kernel_rfl))))))))
theorem d__law_is_sharp (T : Txt P w K mg base W) : Cl P w K mg base W "_law_is_sharp" 2 1 F__law_is_sharp := by
  obtain ⟨fd, F⟩ := T.f__law_is_sharp
  refine fn_cl F T.g__law_is_sharp sc__law_is_sharp T.hK (b1__law_is_sharp F) fun A outer s H E cy => ?_
  have c := cy.toKx
  exact (s_cons (s_par 1 2 c rfl rfl (by decide) (by kernel_rfl) (by kernel_rfl) (q_ixN c 0 rfl (vis_by (by kernel_rfl)) q_int) (q_callC c (d__law_members T) (by decide) (gl_by (by kernel_rfl)) (q_cons (q_d (q_ixN c 0 rfl (vis_by (by kernel_rfl)) q_int)) (q_cons (q_d (q_ixN c 0 rfl (vis_by (by kernel_rfl)) q_int)) q_nil))) (hw := by kernel_rfl)) (s_one (s_ret (q_and (q_d (q_cmp c_gt (q_name 1 rfl (vis_by (by kernel_rfl))) q_int)) (q_and (q_d (q_cmp (c_eq c) (q_d (q_lenE c (gl_by (by kernel_rfl)) T.z_len (q_callC c (d__law_pairs T) (by decide) (gl_by (by kernel_rfl)) (q_cons (q_name 0 rfl (vis_by (by kernel_rfl))) q_nil)))) q_int)) (q_one (q_cmp (c_eq c) (q_d (q_lenN c 2 (gl_by (by kernel_rfl)) T.z_len rfl (vis_by (by kernel_rfl)))) (q_d (q_mul c (q_name 1 rfl (vis_by (by kernel_rfl))) (q_d (q_sub (q_name 1 rfl (vis_by (by kernel_rfl))) q_int)))))))))))
theorem dl_law (T : Txt P w K mg base W) {fd : FuncData} (F : FunD K "law" "law" (defArgs st_law) (defBody st_law) (defScope st_law) [] [] (He.ga K "law") fd) : FnOk P w K mg base (L2.CX P w) 10 (He.ga K "law") fd ["_law_script"] (spM W 1 F_law) := by
  refine fn_okD F sc_law T.hK fun A outer s H E cy => ?_
  have c := cy.toKx
  exact (s_cons (s_set 1 c rfl (loc_by (by kernel_rfl)) (q_lst (q_cons (q_name 0 rfl (vis_by (by kernel_rfl))) (q_cons q_int (q_cons q_int (q_cons q_int q_nil)))))) (s_cons (s_set 2 c rfl (loc_by (by kernel_rfl)) (q_add c q_int (q_d (q_callRC c (d__law_taken T) (by decide) (gl_by (by kernel_rfl)) (i := 1) rfl (vis_by (by kernel_rfl)) (q_cons q_int q_nil))))) (s_cons (s_set 3 c rfl (loc_by (by kernel_rfl)) (q_callC c (d_sharp_house T) (by decide) (gl_by (by kernel_rfl)) (q_cons (q_name 2 rfl (vis_by (by kernel_rfl))) q_nil))) (s_cons (s_if (t_bool (w_or (t_cmp (c_ne c) (q_d (q_cmp c_is (q_name 3 rfl (vis_by (by kernel_rfl))) q_non)) (q_d (q_cmpN (cp_eq c) 2 rfl (vis_by (by kernel_rfl)) q_int))) (w_or1 (t_cmp c_isnB (q_d (q_callC c (d_shows_sharp T) (by decide) (gl_by (by kernel_rfl)) (q_cons (q_name 2 rfl (vis_by (by kernel_rfl))) (q_cons (q_name 3 rfl (vis_by (by kernel_rfl))) q_nil)))) q_bl)))) (s_one (s_ret (q_v q_bl))) s_nil) (s_cons (s_if (t_cmp (c_ne c) (q_d (q_callC c (d_shows_sharp T) (by decide) (gl_by (by kernel_rfl)) (q_cons (q_name 2 rfl (vis_by (by kernel_rfl))) (q_cons q_non q_nil)))) (q_d (q_cmpN (cp_eq c) 2 rfl (vis_by (by kernel_rfl)) q_int))) (s_one (s_ret (q_v q_bl))) s_nil) (s_cons (s_if (t_cmp c_isn (q_name 3 rfl (vis_by (by kernel_rfl))) q_non) (s_cons (s_if (t_bool (w_or (t_cmp (c_ne c) (q_d (q_ixN c 3 rfl (vis_by (by kernel_rfl)) q_int)) (q_name 2 rfl (vis_by (by kernel_rfl)))) (w_or (t_cmp c_gt (q_d (q_bi (b_len c) (gl_by (by kernel_rfl)) T.z_len (q_d (q_ixN c 3 rfl (vis_by (by kernel_rfl)) q_int)))) q_int) (w_or1 (t_not (t_val c (q_d (q_callC c (d__law_is_sharp T) (by decide) (gl_by (by kernel_rfl)) (q_cons (q_name 3 rfl (vis_by (by kernel_rfl))) q_nil))))))))) (s_one (s_ret (q_v q_bl))) s_nil) (s_one (s_if (t_cmp c_isnB (q_d (q_callC c (d_shows_sharp T) (by decide) (gl_by (by kernel_rfl)) (q_cons (q_name 2 rfl (vis_by (by kernel_rfl))) (q_cons (q_d (q_callRC c (d__law_mixed T) (by decide) (gl_by (by kernel_rfl)) (i := 1) rfl (vis_by (by kernel_rfl)) (q_cons (q_name 3 rfl (vis_by (by kernel_rfl))) q_nil))) q_nil)))) q_bl) (s_one (s_ret (q_v q_bl))) s_nil))) s_nil) (s_cons (s_for c cy.own (i_rg1 (gl_by (by kernel_rfl)) T.z_range q_int) (g_name 4 c rfl (loc_by (by kernel_rfl))) (s_cons (s_set 5 c rfl (loc_by (by kernel_rfl)) (q_callRC c (d__law_whole T) (by decide) (gl_by (by kernel_rfl)) (i := 1) rfl (vis_by (by kernel_rfl)) q_nil)) (s_one (s_if (t_not (t_val c (q_d (q_callC c (d__law_alike T) (by decide) (gl_by (by kernel_rfl)) (q_cons (q_d (q_callC c (d_shows_sharp T) (by decide) (gl_by (by kernel_rfl)) (q_cons (q_d (q_ixN c 5 rfl (vis_by (by kernel_rfl)) q_int)) (q_cons (q_name 5 rfl (vis_by (by kernel_rfl))) q_nil)))) (q_cons (q_d (q_callC c (d__law_is_sharp T) (by decide) (gl_by (by kernel_rfl)) (q_cons (q_name 5 rfl (vis_by (by kernel_rfl))) q_nil))) q_nil)))))) (s_one (s_ret (q_v q_bl))) s_nil)))) (s_cons (s_set 2 c rfl (loc_by (by kernel_rfl)) (q_add c q_int (q_d (q_callRC c (d__law_taken T) (by decide) (gl_by (by kernel_rfl)) (i := 1) rfl (vis_by (by kernel_rfl)) (q_cons q_int q_nil))))) (s_cons (s_set 5 c rfl (loc_by (by kernel_rfl)) (q_v (q_tup (q_cons (q_name 2 rfl (vis_by (by kernel_rfl))) (q_cons (q_tup (q_cons (q_d (q_callRC c (d__law_turn T) (by decide) (gl_by (by kernel_rfl)) (i := 1) rfl (vis_by (by kernel_rfl)) (q_cons (q_name 2 rfl (vis_by (by kernel_rfl))) q_nil))) (q_cons (q_d (q_callRC c (d__law_turn T) (by decide) (gl_by (by kernel_rfl)) (i := 1) rfl (vis_by (by kernel_rfl)) (q_cons (q_name 2 rfl (vis_by (by kernel_rfl))) q_nil))) q_nil))) q_nil))))) (s_cons (s_if (t_not (t_val c (q_d (q_callC c (d__law_alike T) (by decide) (gl_by (by kernel_rfl)) (q_cons (q_d (q_callC c (d_shows_sharp T) (by decide) (gl_by (by kernel_rfl)) (q_cons (q_name 2 rfl (vis_by (by kernel_rfl))) (q_cons (q_name 5 rfl (vis_by (by kernel_rfl))) q_nil)))) (q_cons (q_d (q_callC c (d__law_is_sharp T) (by decide) (gl_by (by kernel_rfl)) (q_cons (q_name 5 rfl (vis_by (by kernel_rfl))) q_nil))) q_nil)))))) (s_one (s_ret (q_v q_bl))) s_nil) (s_cons (s_set 6 c rfl (loc_by (by kernel_rfl)) (q_v (q_tup (q_cons q_int (q_cons (q_tup (q_cons (q_d (q_callC c (d__law_circle T) (by decide) (gl_by (by kernel_rfl)) (q_cons q_int (q_cons q_int q_nil)))) (q_cons (q_tup (q_cons q_int (q_cons q_int (q_cons q_int (q_cons q_int (q_cons q_int (q_cons q_int (q_cons q_int (q_cons q_int q_nil))))))))) q_nil))) q_nil))))) (s_cons (s_set 7 c rfl (loc_by (by kernel_rfl)) (q_lst (q_cons (q_tup q_nil) (q_cons q_int (q_cons q_str (q_cons (q_tup (q_cons q_int q_nil)) (q_cons (q_tup (q_cons q_int (q_cons (q_tup (q_cons (q_tup (q_cons q_int q_nil)) q_nil)) q_nil))) (q_cons (q_d (q_lst (q_cons q_int (q_cons (q_tup (q_cons (q_tup (q_cons q_int (q_cons q_int q_nil))) q_nil)) q_nil)))) q_nil)))))))) (s_cons (s_set 7 c rfl (loc_by (by kernel_rfl)) (q_add c (q_name 7 rfl (vis_by (by kernel_rfl))) (q_d (q_lst (q_cons (q_tup (q_cons q_int (q_cons (q_d (q_lst (q_cons (q_tup (q_cons q_int (q_cons q_int q_nil))) q_nil))) q_nil))) (q_cons (q_tup (q_cons q_int (q_cons (q_tup (q_cons (q_tup (q_cons q_int (q_cons q_int q_nil))) q_nil)) q_nil))) (q_cons (q_name 6 rfl (vis_by (by kernel_rfl))) (q_cons (q_tup (q_cons q_int (q_cons (q_tup (q_cons (q_tup (q_cons q_int (q_cons q_int (q_cons q_int q_nil)))) q_nil)) q_nil))) q_nil)))))))) (s_cons (s_if (t_cmp (c_ne c) (q_d (q_lc (own := [("_law_value", 9)]) c (i_seq c (q_name 7 rfl (vis_by (by kernel_rfl)))) (by kernel_rfl) rfl rfl (fun s H C cl fp c => ⟨(g_name 9 c rfl (loc_by (by kernel_rfl))), (ts_one (t_cmp c_isnB (q_d (q_callC c (d_shows_sharp T) (by decide) (gl_by (by kernel_rfl)) (q_cons (q_d (q_if (t_cmpN (cp_ne c) 9 rfl (vis_by (by kernel_rfl)) (q_name 6 rfl (vis_by (by kernel_rfl)))) (q_v q_int) (q_v q_int))) (q_cons (q_name 9 rfl (vis_by (by kernel_rfl))) q_nil)))) q_bl)), (q_name 9 rfl (vis_by (by kernel_rfl)))⟩))) (q_d (q_lst q_nil))) (s_one (s_ret (q_v q_bl))) s_nil) (s_cons (s_tryE 8 cy (d_sharp_house T) (by decide) (gl_by (by kernel_rfl)) T.x_BadNumber (gl_by (by kernel_rfl)) T.ex2 rfl (by kernel_rfl) (fun pn xe c => (q_cons (q_d (q_callRC c (d__law_pick T) (by decide) (gl_by (by kernel_rfl)) (i := 1) rfl (vis_by (by kernel_rfl)) (q_cons (q_d (q_lst (q_cons q_non (q_cons q_int (q_cons q_int (q_cons q_bl (q_cons q_str (q_cons q_int q_nil)))))))) q_nil))) q_nil)) (fun a oe pn => (s_one (s_ret (q_v q_bl))))) (s_one (s_ret (q_v q_bl))))))))))))))))))
end
end Nb

set_option Elab.async false
set_option linter.all false
set_option maxRecDepth 100000
set_option maxHeartbeats 8000000
namespace Nb
open PySem PySem.Spec L2 PyProof.Rows
/-! the end, printed by gen.py -/
def fnL : List He.DefD := ([⟨("is_number", none), "is_number", "is_number", defArgs st_is_number, defBody st_is_number, defScope st_is_number, [], []⟩, ⟨("is_turn", none), "is_turn", "is_turn", defArgs st_is_turn, defBody st_is_turn, defScope st_is_turn, [], []⟩, ⟨("wrong_part", none), "wrong_part", "wrong_part", defArgs st_wrong_part, defBody st_wrong_part, defScope st_wrong_part, [], []⟩, ⟨("is_house", none), "is_house", "is_house", defArgs st_is_house, defBody st_is_house, defScope st_is_house, [], []⟩, ⟨("need_house", none), "need_house", "need_house", defArgs st_need_house, defBody st_need_house, defScope st_need_house, [], []⟩, ⟨("still", none), "still", "still", defArgs st_still, defBody st_still, defScope st_still, [], []⟩, ⟨("then", none), "then", "then", defArgs st_then, defBody st_then, defScope st_then, [], []⟩, ⟨("is_small", none), "is_small", "is_small", defArgs st_is_small, defBody st_is_small, defScope st_is_small, [], []⟩, ⟨("lots_of", none), "lots_of", "lots_of", defArgs st_lots_of, defBody st_lots_of, defScope st_lots_of, [], []⟩, ⟨("parts_of", none), "parts_of", "parts_of", defArgs st_parts_of, defBody st_parts_of, defScope st_parts_of, [], []⟩, ⟨("is_transitive", none), "is_transitive", "is_transitive", defArgs st_is_transitive, defBody st_is_transitive, defScope st_is_transitive, [], []⟩, ⟨("pair_lots_of", none), "pair_lots_of", "pair_lots_of", defArgs st_pair_lots_of, defBody st_pair_lots_of, defScope st_pair_lots_of, [], []⟩, ⟨("need_whole", none), "need_whole", "need_whole", defArgs st_need_whole, defBody st_need_whole, defScope st_need_whole, [], []⟩, ⟨("is_sharp", none), "is_sharp", "is_sharp", defArgs st_is_sharp, defBody st_is_sharp, defScope st_is_sharp, [], []⟩, ⟨("need_halls", none), "need_halls", "need_halls", defArgs st_need_halls, defBody st_need_halls, defScope st_need_halls, [], []⟩, ⟨("sharp_house", none), "sharp_house", "sharp_house", defArgs st_sharp_house, defBody st_sharp_house, defScope st_sharp_house, [], []⟩, ⟨("shows_sharp", none), "shows_sharp", "shows_sharp", defArgs st_shows_sharp, defBody st_shows_sharp, defScope st_shows_sharp, [], []⟩, ⟨("_law_taken", none), "_law_taken", "_law_taken", defArgs st__law_taken, defBody st__law_taken, defScope st__law_taken, [], []⟩, ⟨("_law_pick", none), "_law_pick", "_law_pick", defArgs st__law_pick, defBody st__law_pick, defScope st__law_pick, [], []⟩, ⟨("_law_alike", none), "_law_alike", "_law_alike", defArgs st__law_alike, defBody st__law_alike, defScope st__law_alike, [], []⟩, ⟨("_law_turn", none), "_law_turn", "_law_turn", defArgs st__law_turn, defBody st__law_turn, defScope st__law_turn, [], []⟩, ⟨("_law_circle", none), "_law_circle", "_law_circle", defArgs st__law_circle, defBody st__law_circle, defScope st__law_circle, [], []⟩, ⟨("_law_members", none), "_law_members", "_law_members", defArgs st__law_members, defBody st__law_members, defScope st__law_members, [], []⟩, ⟨("_law_known_groups", none), "_law_known_groups", "_law_known_groups", defArgs st__law_known_groups, defBody st__law_known_groups, defScope st__law_known_groups, [], []⟩, ⟨("_law_mixed", none), "_law_mixed", "_law_mixed", defArgs st__law_mixed, defBody st__law_mixed, defScope st__law_mixed, [], []⟩, ⟨("_law_whole", none), "_law_whole", "_law_whole", defArgs st__law_whole, defBody st__law_whole, defScope st__law_whole, [], []⟩, ⟨("_law_pairs", none), "_law_pairs", "_law_pairs", defArgs st__law_pairs, defBody st__law_pairs, defScope st__law_pairs, [], []⟩, ⟨("_law_is_sharp", none), "_law_is_sharp", "_law_is_sharp", defArgs st__law_is_sharp, defBody st__law_is_sharp, defScope st__law_is_sharp, [], []⟩, ⟨("law", none), "law", "law", defArgs st_law, defBody st_law, defScope st_law, [], []⟩] : List He.DefD)
def faL : List He.Fa := ([.glo "BadNumber", .exc "BadNumber", .exm "BadNumber" "BadNumber" true, .glo "is_number", .glo "is_turn", .glo "wrong_part", .glo "is_house", .glo "need_house", .glo "still", .glo "then", .glo "is_small", .glo "lots_of", .glo "parts_of", .glo "is_transitive", .glo "pair_lots_of", .glo "need_whole", .glo "is_sharp", .glo "need_halls", .glo "sharp_house", .glo "shows_sharp", .glo "_law_taken", .glo "_law_pick", .glo "_law_alike", .glo "_law_turn", .glo "_law_circle", .glo "_law_members", .glo "_law_known_groups", .glo "_law_mixed", .glo "_law_whole", .glo "_law_pairs"] : List He.Fa) ++ ([.glo "_law_is_sharp", .glo "law", .glo "BITS", .glo "FACTORS", .free "all", .free "bool", .free "int", .free "isinstance", .free "len", .free "list", .free "range", .free "sorted", .free "str", .free "tuple", .int "MOST_HALLS" 8, .int "MOST_TURNS" 6] : List He.Fa)
def tkL : List (He.Defn × TK) := ([(("is_turn", none), .gen), (("wrong_part", none), .gen), (("parts_of", none), .lam (fun _ _ => "parts_of.<locals>.<lambda>")), (("pair_lots_of", none), .lam (fun _ _ => "pair_lots_of.<locals>.<lambda>"))] : List (He.Defn × TK))
abbrev tfL : List He.Defn := tkL.map fun q => q.1
def TL (K : PySem.W.Frag) : Tabs := tkL.map fun q => ((He.cT K q.1).2, q.2)
def exL (K : PySem.W.Frag) : Bool := gdB K (He.ga K "BITS") ks_BITS && (gdB K (He.ga K "FACTORS") ks_FACTORS && (ndB (tfL.map fun p => (He.cT K p).2)))
def looseL : List Str := (["TurnError", "BadHouse", "BadNumber", "NotWhole", "MOST_HALLS", "MOST_TURNS", "is_number", "is_turn", "wrong_part", "is_house", "need_house", "still", "then", "is_small", "lots_of", "parts_of", "is_transitive", "pair_lots_of", "need_whole", "is_sharp", "FACTORS", "BITS", "need_halls", "sharp_house", "shows_sharp", "_law_taken", "_law_pick", "_law_alike", "_law_turn", "_law_circle"] : List Str) ++ (["_law_members", "_law_known_groups", "_law_mixed", "_law_whole", "_law_pairs", "_law_is_sharp"] : List Str)
abbrev RwL : PySem.W.OpenRow := PySem.W.OpenLaw.row PySem.Challenge.rw_nobodystays_k07_whole_sharps
abbrev hkL : PySem.W.Hook := He.hookX 2 faL fnL [] tfL exL
def obL (s : PySem.W.SharedT) : He.AlX := He.obsX 2 faL fnL [] tfL exL (HandSHeadRun.getT s)
theorem obL_eq (s : PySem.W.SharedT) : obL s = hkL.obs s.abs := He.obsX_eq (HandSHeadRun.getT_eq s)
theorem runF (w : World) : HandSHeadRun.RunEq RwL (PySem.W.view RwL.prog [41]) hkL obL 20000 looseL (w.withFollow "special-get-raises" false) := by
  intro os
  kernel_rfl
theorem runT (w : World) : HandSHeadRun.RunEq RwL (PySem.W.view RwL.prog [41]) hkL obL 20000 looseL (w.withFollow "special-get-raises" true) := by
  intro os
  kernel_rfl
theorem runL (w : World) : HandSHeadRun.RunEq RwL (PySem.W.view RwL.prog [41]) hkL obL 20000 looseL w :=
  PySem.W.byRow2 "special-get-raises" (P := fun w => HandSHeadRun.RunEq RwL (PySem.W.view RwL.prog [41]) hkL obL 20000 looseL w) runF runT w
theorem txt_of {P : Program} {w : World} {K : PySem.W.Frag} {mg : Str → Option Value} {h base : Heap} (KX : K.In h) (G : h.Ns mainGlobals mg) (c : He.SaysX faL fnL [] tfL exL w h K) (TB : ∀ p ∈ tfL.map (He.cT K), LamX.TabB base mg p.1 p.2) : Txt P w K mg base (W1 K (TL K)) := by
  have fc : ∀ (i : Nat) {f : He.Fa}, faL[i]? = some f → f.ok K = true := fun i _ e => c.t.d.fact i e
  have fd : ∀ (i : Nat) {d : He.DefD}, fnL[i]? = some d → ∃ fd, FunD K d.name d.qual d.params d.body d.scope (d.dvs K) (d.kws K) (He.fAd K d.at_) fd := fun i _ e => c.t.d.def_ i e
  have em : (gdB K (He.ga K "BITS") ks_BITS && (gdB K (He.ga K "FACTORS") ks_FACTORS && (ndB (tfL.map fun p => (He.cT K p).2)))) = true := c.more
  obtain ⟨m0, em⟩ := Bool.and_eq_true_iff.mp em
  obtain ⟨m1, em⟩ := Bool.and_eq_true_iff.mp em
  have nd : ((TL K).map (·.1)).Nodup := by
    have z := ndB_ok em
    rw [show (TL K).map (·.1) = tfL.map fun p => (He.cT K p).2 from by unfold TL; rw [List.map_map, List.map_map]; rfl]
    exact z
  have tb : ∀ (i : Nat) {q : He.Defn × TK}, tkL[i]? = some q → ((He.cT K q.1).2, q.2) ∈ TL K ∧ GxR.TabB base mg (He.cT K q.1).1 (He.cT K q.1).2 := fun i q e => ⟨List.mem_map.mpr ⟨q, List.mem_of_getElem? e, rfl⟩, tabB_lg (TB _ (List.mem_map.mpr ⟨q.1, List.mem_map.mpr ⟨q, List.mem_of_getElem? e, rfl⟩, rfl⟩))⟩
  exact {
    hK := rfl
    ex1 := fun x H => ⟨rfl, rfl⟩
    ex2 := fun c cls dx H h => h
    x_BadNumber := ⟨He.glo_ok KX G (fc 0 (f := .glo "BadNumber") rfl), fc 1 (f := .exc "BadNumber") rfl, fc 2 (f := .exm "BadNumber" "BadNumber" true) rfl⟩
    z_all := He.free_ok KX G (fc 34 (f := .free "all") rfl)
    z_bool := He.free_ok KX G (fc 35 (f := .free "bool") rfl)
    z_int := He.free_ok KX G (fc 36 (f := .free "int") rfl)
    z_isinstance := He.free_ok KX G (fc 37 (f := .free "isinstance") rfl)
    z_len := He.free_ok KX G (fc 38 (f := .free "len") rfl)
    z_list := He.free_ok KX G (fc 39 (f := .free "list") rfl)
    z_range := He.free_ok KX G (fc 40 (f := .free "range") rfl)
    z_sorted := He.free_ok KX G (fc 41 (f := .free "sorted") rfl)
    z_str := He.free_ok KX G (fc 42 (f := .free "str") rfl)
    z_tuple := He.free_ok KX G (fc 43 (f := .free "tuple") rfl)
    f_is_number := fd 0 rfl
    g_is_number := He.glo_ok KX G (fc 3 (f := .glo "is_number") rfl)
    f_is_turn := fd 1 rfl
    g_is_turn := He.glo_ok KX G (fc 4 (f := .glo "is_turn") rfl)
    f_wrong_part := fd 2 rfl
    g_wrong_part := He.glo_ok KX G (fc 5 (f := .glo "wrong_part") rfl)
    f_is_house := fd 3 rfl
    g_is_house := He.glo_ok KX G (fc 6 (f := .glo "is_house") rfl)
    f_need_house := fd 4 rfl
    g_need_house := He.glo_ok KX G (fc 7 (f := .glo "need_house") rfl)
    f_still := fd 5 rfl
    g_still := He.glo_ok KX G (fc 8 (f := .glo "still") rfl)
    f_then := fd 6 rfl
    g_then := He.glo_ok KX G (fc 9 (f := .glo "then") rfl)
    f_is_small := fd 7 rfl
    g_is_small := He.glo_ok KX G (fc 10 (f := .glo "is_small") rfl)
    f_lots_of := fd 8 rfl
    g_lots_of := He.glo_ok KX G (fc 11 (f := .glo "lots_of") rfl)
    f_parts_of := fd 9 rfl
    g_parts_of := He.glo_ok KX G (fc 12 (f := .glo "parts_of") rfl)
    f_is_transitive := fd 10 rfl
    g_is_transitive := He.glo_ok KX G (fc 13 (f := .glo "is_transitive") rfl)
    f_pair_lots_of := fd 11 rfl
    g_pair_lots_of := He.glo_ok KX G (fc 14 (f := .glo "pair_lots_of") rfl)
    f_need_whole := fd 12 rfl
    g_need_whole := He.glo_ok KX G (fc 15 (f := .glo "need_whole") rfl)
    f_is_sharp := fd 13 rfl
    g_is_sharp := He.glo_ok KX G (fc 16 (f := .glo "is_sharp") rfl)
    f_need_halls := fd 14 rfl
    g_need_halls := He.glo_ok KX G (fc 17 (f := .glo "need_halls") rfl)
    f_sharp_house := fd 15 rfl
    g_sharp_house := He.glo_ok KX G (fc 18 (f := .glo "sharp_house") rfl)
    f_shows_sharp := fd 16 rfl
    g_shows_sharp := He.glo_ok KX G (fc 19 (f := .glo "shows_sharp") rfl)
    f__law_taken := fd 17 rfl
    g__law_taken := He.glo_ok KX G (fc 20 (f := .glo "_law_taken") rfl)
    f__law_pick := fd 18 rfl
    g__law_pick := He.glo_ok KX G (fc 21 (f := .glo "_law_pick") rfl)
    f__law_alike := fd 19 rfl
    g__law_alike := He.glo_ok KX G (fc 22 (f := .glo "_law_alike") rfl)
    f__law_turn := fd 20 rfl
    g__law_turn := He.glo_ok KX G (fc 23 (f := .glo "_law_turn") rfl)
    f__law_circle := fd 21 rfl
    g__law_circle := He.glo_ok KX G (fc 24 (f := .glo "_law_circle") rfl)
    f__law_members := fd 22 rfl
    g__law_members := He.glo_ok KX G (fc 25 (f := .glo "_law_members") rfl)
    f__law_known_groups := fd 23 rfl
    g__law_known_groups := He.glo_ok KX G (fc 26 (f := .glo "_law_known_groups") rfl)
    f__law_mixed := fd 24 rfl
    g__law_mixed := He.glo_ok KX G (fc 27 (f := .glo "_law_mixed") rfl)
    f__law_whole := fd 25 rfl
    g__law_whole := He.glo_ok KX G (fc 28 (f := .glo "_law_whole") rfl)
    f__law_pairs := fd 26 rfl
    g__law_pairs := He.glo_ok KX G (fc 29 (f := .glo "_law_pairs") rfl)
    f__law_is_sharp := fd 27 rfl
    g__law_is_sharp := He.glo_ok KX G (fc 30 (f := .glo "_law_is_sharp") rfl)
    f_law := fd 28 rfl
    g_law := He.glo_ok KX G (fc 31 (f := .glo "law") rfl)
    i_MOST_HALLS := He.int_ok KX G (fc 44 (f := .int "MOST_HALLS" 8) rfl)
    i_MOST_TURNS := He.int_ok KX G (fc 45 (f := .int "MOST_TURNS" 6) rfl)
    g_BITS := He.glo_ok KX G (fc 32 (f := .glo "BITS") rfl)
    d_BITS := gd_ok m0
    g_FACTORS := He.glo_ok KX G (fc 33 (f := .glo "FACTORS") rfl)
    d_FACTORS := gd_ok m1
    t_is_turn := fun F => tabF_of F (tb 0 rfl).1 nd (tb 0 rfl).2
    t_wrong_part := fun F => tabF_of F (tb 1 rfl).1 nd (tb 1 rfl).2
    t_parts_of := fun F => tabF_of F (tb 2 rfl).1 nd (tb 2 rfl).2
    t_pair_lots_of := fun F => tabF_of F (tb 3 rfl).1 nd (tb 3 rfl).2
  }
theorem law_at {w : World} {K : PySem.W.Frag} {mg : Str → Option Value} {fa : Addr} {h : Heap} (main : ∀ ns : List Int, ns.length ≤ 63 → (∀ z ∈ ns, Builtin.Int.intBits z ≤ 1048576) → ∃ ρ', F_law [.d (scrD ns)] = .ok (.d (.bool true)) ρ') (KX : K.In h) (G : h.Ns mainGlobals mg) (hfa : mg "law" = some (.ref fa)) (c : He.SaysX faL fnL [] tfL exL w h K) :
    LamX.LawAtS PySem.Challenge.rw_nobodystays_k07_whole_sharps w K (L2.CX PySem.Challenge.rw_nobodystays_k07_whole_sharps.prog w) 10 63 "_law_script" mg fa h := by
  obtain ⟨fd, F⟩ := c.t.d.def_ 28 (d := ⟨("law", none), "law", "law", defArgs st_law, defBody st_law, defScope st_law, [], []⟩) rfl
  have e := hfa.symm.trans (He.glo_ok KX G (c.t.d.fact 31 (f := .glo "law") rfl))
  cases e
  have sub : ∀ p ∈ TL K, ∃ q ∈ tfL.map (He.cT K), q.2 = p.1 := fun p hp => by
    obtain ⟨q, hq, rfl⟩ := List.mem_map.mp hp
    exact ⟨_, List.mem_map.mpr ⟨q.1, List.mem_map.mpr ⟨q, hq, rfl⟩, rfl⟩, rfl⟩
  have mm : ∀ {Pp : Addr × Addr → Prop}, (∀ p ∈ tfL, Pp (He.cT K p)) → ∀ p ∈ tfL.map (He.cT K), Pp p := fun {Pp} hp p hq => by
    obtain ⟨r, hr, rfl⟩ := List.mem_map.mp hq
    exact hp r hr
  refine ⟨fd, tfL.map (He.cT K), spM (W1 K (TL K)) 1 F_law, mm (Pp := fun p => h.get? p.2 = some { cls := .none, data := .fields #[] }) c.empty, mm (Pp := fun p => K.lookup p.2 = none) c.out, mm (Pp := fun p => PySem.W.CodeHd h p.1 p.2) fun p hp => PySem.W.codeHd_of_K KX (c.hd p hp),
    fun s u => FunD.bindsA (ps := ["_law_script"]) F (fun _ _ _ _ _ _ us hl => match us, hl with | [_], _ => rfl) s [u] rfl, fun H a ns hl hb hT hS => law_sp rfl (fun p hp => ?_) hS (main ns hl hb), fun base KX2 G2 TB => dl_law (txt_of KX G c TB) F⟩
  obtain ⟨q, hq, e⟩ := sub p hp
  rw [← e]
  exact hT q hq
end Nb
section
open PySem PySem.W PySem.Calls PyProof.Rows
theorem Nb.holds_of (main : ∀ ns : List Int, ns.length ≤ 63 → (∀ z ∈ ns, Builtin.Int.intBits z ≤ 1048576) → ∃ ρ', Nb.F_law [.d (Nb.scrD ns)] = .ok (.d (.bool true)) ρ') : PySem.Challenge.rw_nobodystays_k07_whole_sharps.Holds := by
  w_on; o_law
  refine HandSHeadRun.head_any (r := OpenLaw.row PySem.Challenge.rw_nobodystays_k07_whole_sharps) (q := view (OpenLaw.row PySem.Challenge.rw_nobodystays_k07_whole_sharps).prog [41]) (H := Nb.hkL) (ob := Nb.obL) (M := 20000) (loose := Nb.looseL) (d := HandSHeadRun.topDef (OpenLaw.row PySem.Challenge.rw_nobodystays_k07_whole_sharps).prog 41) (kwd := []) Nb.obL_eq
    (by kernel_rfl) (fun s => by kernel_rfl) Nb.runL (by kernel_rfl) (by kernel_rfl) (by kernel_rfl) (by rfl) (by first | assumption | decide +kernel) (by decide +kernel) ⟨rfl, rfl, rfl, rfl, rfl, by decide +kernel⟩ ?hw ?hc
  case hw => w_witness2
  case hc =>
    refine LamX.walk_ofTsE (l := PySem.Challenge.rw_nobodystays_k07_whole_sharps) (n := 63) (k := 10) (x := "_law_script") (CX := fun w => L2.CX PySem.Challenge.rw_nobodystays_k07_whole_sharps.prog w) rfl (by decide) (by kernel_rfl) ⟨rfl, by decide, by decide⟩ ?F (fun w H s e s' h => by
      obtain ⟨_, _, _, _, _, _, _, _, _, _, _, _, z⟩ := h
      exact z)
    intro w mg fa h Y G hmg0
    obtain ⟨K, KX, c⟩ := Y
    have hmg : mg ("law" : PySem.Str) = some (.ref fa) := by
      have e : (HandSHeadRun.topDef (OpenLaw.row PySem.Challenge.rw_nobodystays_k07_whole_sharps).prog 41).name = ("law" : PySem.Str) := by kernel_rfl
      rw [← e]
      exact hmg0
    exact ⟨K, KX, Nb.law_at main KX G hmg c⟩
end

set_option Elab.async false
set_option linter.all false
set_option maxRecDepth 100000
set_option maxHeartbeats 4000000
namespace Nb
open PySem PySem.Spec L2 PyProof.Rows
/-- a call's value -/
def vl : Res SV → Option SV
  | .ok w _ => some w
  | _ => none
theorem vl_ok {r : Res SV} {w : SV} (h : vl r = some w) : ∃ ρ', r = .ok w ρ' := by
  cases r with
  | ok a ρ => cases h; exact ⟨ρ, rfl⟩
  | fail => cases h
  | exn c => cases h
def rowD (ns : List Int) (i st rest : Int) : List PyData := [scrD ns, .int i, .int st, .int rest]
theorem atI_ok {α : Type} {xs : List α} {i : Nat} {x : α} (h : xs[i]? = some x) : atI xs (i : Int) = some x := atI_nat h
theorem scr_at {ns : List Int} {i : Nat} {n : Int} (h : ns[i]? = some n) : atI (ns.map fun n => (PyData.int n, PyData.none)) (i : Int) = some (.int n, .none) := atI_ok (by rw [List.getElem?_map, h]; rfl)
theorem atI_0 {α : Type} {a : α} {l : List α} : atI (a :: l) 0 = some a := atI_nat (j := 0) rfl
theorem atI_1 {α : Type} {a b : α} {l : List α} : atI (a :: b :: l) 1 = some b := atI_nat (j := 1) rfl
theorem atI_2 {α : Type} {a b c : α} {l : List α} : atI (a :: b :: c :: l) 2 = some c := atI_nat (j := 2) rfl
theorem atI_3 {α : Type} {a b c d : α} {l : List α} : atI (a :: b :: c :: d :: l) 3 = some d := atI_nat (j := 3) rfl
theorem taken_ok (ns : List Int) (i : Nat) (st rest many : Int) (h0 : 0 < many) (h1 : many < 1073741824) :
    ∃ (v : Int) (i' : Nat) (st' rest' : Int), 0 ≤ v ∧ v < many ∧ ∃ ρ', F__law_taken [.br (rowD ns i st rest), .d (.int many)] = .ok (.d (.int v)) (.br (rowD ns i' st' rest') :: ρ') := by
  by_cases hr : 0 < rest
  · refine ⟨rest % many, i, st, rest / many, Int.emod_nonneg _ (by omega), Int.emod_lt_of_pos _ h0, [.un], ?_⟩
    simp [F__law_taken, B__law_taken, bodyM, seqM, ifM, tstM, binM, binP, toD, toDO, peek, peekO, M.bind, Res.bind, ret, ofO, rowD, idxM, atI_0, atI_1, atI_2, atI_3, ordM, bolO, hr, intcM, modM, fdivM, intM, gM, setM, setS, stoM, hasO, SV.isOwn, stoI, stoW, ixN, retM, getV, getD, h0, h1, backs]
  · by_cases hi : ns.length < i + 1
    · refine ⟨((st * 48271 + 11) % 2147483647 / 7) % many, i + 1, (st * 48271 + 11) % 2147483647, rest, Int.emod_nonneg _ (by omega), Int.emod_lt_of_pos _ h0, [.un], ?_⟩
      have hi' : (ns.length : Int) < (i : Int) + 1 := by omega
      simp [F__law_taken, B__law_taken, bodyM, seqM, ifM, tstM, binM, binP, toD, toDO, peek, peekO, M.bind, Res.bind, ret, ofO, rowD, idxM, atI_0, atI_1, atI_2, atI_3, ixN, ordM, bolO, hr, intcM, modM, fdivM, intM, gM, setM, setS, stoM, hasO, SV.isOwn, stoI, stoW, retM, getV, getD, h0, h1, backs, addM, mulM, lenM, hi', scrD, kIx_scr]
    · have hi' : ¬ (ns.length : Int) < (i : Int) + 1 := by omega
      obtain ⟨z, hz⟩ : ∃ z, ns[i]? = some z := ⟨_, List.getElem?_eq_getElem (by omega)⟩
      have hs := scr_at hz
      by_cases hc : 1000000000000000000 ≤ z
      · refine ⟨z % many, i + 1, (st * 48271 + z + 11) % 2147483647, z / many, Int.emod_nonneg _ (by omega), Int.emod_lt_of_pos _ h0, [.un], ?_⟩
        simp [F__law_taken, B__law_taken, bodyM, seqM, ifM, tstM, binM, binP, toD, toDO, peek, peekO, M.bind, Res.bind, ret, ofO, rowD, idxM, atI_0, atI_1, atI_2, atI_3, ixN, ordM, bolO, hr, intcM, modM, fdivM, intM, gM, setM, setS, stoM, hasO, SV.isOwn, stoI, stoW, retM, getV, getD, h0, h1, backs, addM, mulM, subM, lenM, hi', scrD, kIx_scr, hs, hc, powM]
      · refine ⟨z % many, i + 1, (st * 48271 + z + 11) % 2147483647, rest, Int.emod_nonneg _ (by omega), Int.emod_lt_of_pos _ h0, [.un], ?_⟩
        simp [F__law_taken, B__law_taken, bodyM, seqM, ifM, tstM, binM, binP, toD, toDO, peek, peekO, M.bind, Res.bind, ret, ofO, rowD, idxM, atI_0, atI_1, atI_2, atI_3, ixN, ordM, bolO, hr, intcM, modM, fdivM, intM, gM, setM, setS, stoM, hasO, SV.isOwn, stoI, stoW, retM, getV, getD, h0, h1, backs, addM, mulM, subM, lenM, hi', scrD, kIx_scr, hs, hc, powM]
end Nb

set_option Elab.async false
set_option linter.all false
set_option maxRecDepth 100000
set_option maxHeartbeats 4000000
namespace Nb
open PySem PySem.Spec L2 PyProof.Rows
/-! mirrors applied: rules for simp -/
section
variable {α β : Type} {ρ ρ' : List SV}
@[simp] theorem bind_ap (f : M α) (k : α → M β) : M.bind f k ρ = (f ρ).bind k := rfl
@[simp] theorem rb_ok (a : α) (k : α → M β) : (Res.ok a ρ).bind k = k a ρ := rfl
@[simp] theorem rb_fail (k : α → M β) : (Res.fail : Res α).bind k = .fail := rfl
@[simp] theorem rb_exn (c : Exn) (k : α → M β) : (Res.exn c : Res α).bind k = .exn c := rfl
@[simp] theorem ret_ap (a : α) : ret a ρ = .ok a ρ := rfl
@[simp] theorem fail_ap : (failM : M α) ρ = .fail := rfl
@[simp] theorem ofO_some (a : α) : ofO (some a) ρ = .ok a ρ := rfl
@[simp] theorem ofO_none : ofO (none : Option α) ρ = .fail := rfl
@[simp] theorem toD_ap (f : M SV) : toD f ρ = (f ρ).bind fun w => ofO (toDO w) := rfl
@[simp] theorem toV_ap (f : M PyData) : toV f ρ = (f ρ).bind fun x => ret (.d x) := rfl
@[simp] theorem toDO_d (x : PyData) : toDO (.d x) = some x := rfl
@[simp] theorem toDO_ls (xs : List PyData) : toDO (.ls xs) = some (.list xs) := rfl
@[simp] theorem peekO_d (x : PyData) : peekO (.d x) = some x := rfl
@[simp] theorem peekO_ls (xs : List PyData) : peekO (.ls xs) = some (.list xs) := rfl
@[simp] theorem peekO_br (xs : List PyData) : peekO (.br xs) = some (.list xs) := rfl
@[simp] theorem mutO_ls (xs : List PyData) : mutO (.ls xs) = some xs := rfl
@[simp] theorem mutO_br (xs : List PyData) : mutO (.br xs) = some xs := rfl
@[simp] theorem relist_ls (xs ys : List PyData) : (SV.ls xs).relist ys = .ls ys := rfl
@[simp] theorem relist_br (xs ys : List PyData) : (SV.br xs).relist ys = .br ys := rfl
@[simp] theorem mv_own_ls (xs : List PyData) : (SV.ls xs).isOwn = true := rfl
@[simp] theorem mv_own_br (xs : List PyData) : (SV.br xs).isOwn = true := rfl
@[simp] theorem mv_own_dc (t : Bool) (xs : List PyData) : (SV.dc t xs).isOwn = true := rfl
@[simp] theorem bolO_b (b : Bool) : bolO (.d (.bool b)) = some b := rfl
@[simp] theorem consM_ap (f : M PyData) (g : M (List PyData)) : consM f g ρ = (f ρ).bind fun x ρ => (g ρ).bind fun xs => ret (x :: xs) := rfl
@[simp] theorem tupM_ap (f : M (List PyData)) : tupM f ρ = (f ρ).bind fun xs => fits xs (ret (.tuple xs)) := rfl
@[simp] theorem lstM_ap (f : M (List PyData)) : lstM f ρ = (f ρ).bind fun xs => fits xs (ret (.ls xs)) := rfl
@[simp] theorem fits_ap (xs : List α) (y : M β) : fits xs y ρ = if xs.length ≤ sizeLine then y ρ else .fail := by unfold fits; split <;> rfl
@[simp] theorem gM_ap (c : Prop) [Decidable c] (y : M α) : gM c y ρ = if c then y ρ else .fail := rfl
@[simp] theorem binM_ap (o : Op2) (f g : M PyData) : binM o f g ρ = (f ρ).bind fun x ρ => (g ρ).bind fun y => o x y := rfl
@[simp] theorem binP_ap (o : Op2) (i : Nat) (g : M PyData) : binP o i g ρ = (peek i ρ).bind fun _ ρ => (g ρ).bind fun y ρ => (peek i ρ).bind fun x => o x y := rfl
theorem peek_of {i : Nat} {w : SV} {x : PyData} (h : ρ[i]? = some w) (hx : peekO w = some x) : peek i ρ = .ok x ρ := by unfold peek; simp only [h, hx]
theorem getD_d {i : Nat} {x : PyData} (h : ρ[i]? = some (.d x)) : getD i ρ = .ok x ρ := by unfold getD; simp only [h]
theorem getD_ls {i : Nat} {x : List PyData} (h : ρ[i]? = some (.ls x)) : getD i ρ = .ok (.list x) (ρ.set i (.d (.list x))) := by unfold getD; simp only [h]
theorem getV_d {i : Nat} {x : PyData} (h : ρ[i]? = some (.d x)) : getV i ρ = .ok (.d x) ρ := by unfold getV; simp only [h]
theorem getV_ls {i : Nat} {x : List PyData} (h : ρ[i]? = some (.ls x)) : getV i ρ = .ok (.d (.list x)) (ρ.set i (.d (.list x))) := by unfold getV; simp only [h]
@[simp] theorem tstM_ap (f : M SV) : tstM f ρ = (f ρ).bind fun w => ofO (bolO w) := rfl
@[simp] theorem truM_ap (f : M PyData) : truM f ρ = (f ρ).bind fun x => ofO (truO x) := rfl
@[simp] theorem andT_ap (f g : M Bool) : andT f g ρ = (f ρ).bind fun b => if b then g else ret false := rfl
@[simp] theorem orT_ap (f g : M Bool) : orT f g ρ = (f ρ).bind fun b => if b then ret true else g := rfl
@[simp] theorem notT_ap (f : M Bool) : notT f ρ = (f ρ).bind fun b => ret (!b) := rfl
@[simp] theorem andV_ap (f : M PyData) (g : M SV) : andV f g ρ = (f ρ).bind fun x => match x with
  | .bool true => g
  | .bool false => ret (.d (.bool false))
  | _ => failM := rfl
@[simp] theorem orV_ap (f : M PyData) (g : M SV) : orV f g ρ = (f ρ).bind fun x => match x with
  | .bool true => ret (.d (.bool true))
  | .bool false => g
  | _ => failM := rfl
@[simp] theorem notV_ap (f : M PyData) : notV f ρ = (f ρ).bind fun x => match x with
  | .bool b => ret (.bool (!b))
  | _ => failM := rfl
@[simp] theorem iteV_ap (c : M Bool) (f g : M SV) : iteV c f g ρ = (c ρ).bind fun b => if b then f else g := rfl
@[simp] theorem chnV_ap (o o' : Op2) (f g h : M PyData) : chnV o o' f g h ρ = (f ρ).bind fun x ρ => (g ρ).bind fun y ρ => (o x y ρ).bind fun z => match bolO z with
  | some true => M.bind h fun z' => o' y z'
  | some false => ret (.d (.bool false))
  | none => failM := rfl
@[simp] theorem seqM_ap (f g : M Fl) : seqM f g ρ = (f ρ).bind fun fl => match fl with
  | .nx => g
  | fl => ret fl := rfl
@[simp] theorem ifM_ap (c : M Bool) (f g : M Fl) : ifM c f g ρ = (c ρ).bind fun b => if b then f else g := rfl
@[simp] theorem retM_ap (f : M SV) : retM f ρ = (f ρ).bind fun w => ret (.rt w) := rfl
@[simp] theorem dropM_ap (f : M SV) : dropM f ρ = (f ρ).bind fun _ => ret .nx := rfl
@[simp] theorem setM_ap (i : Nat) (f : M SV) : setM i f ρ = (f ρ).bind fun w ρ => (setS i w ρ).bind fun _ => ret .nx := rfl
@[simp] theorem parM_ap (i j : Nat) (f g : M SV) : parM i j f g ρ = (f ρ).bind fun w ρ => (g ρ).bind fun u ρ => (setS i w ρ).bind fun _ ρ => (setS j u ρ).bind fun _ => ret .nx := rfl
@[simp] theorem asgM_ap (g : AG) (f : M PyData) : asgM g f ρ = (f ρ).bind fun x ρ => match g x ρ with
  | some ρ' => .ok .nx ρ'
  | none => .fail := rfl
@[simp] theorem stoM_ap (i : Nat) (fi fv : M PyData) : stoM i fi fv ρ = (fv ρ).bind fun v ρ => (hasO i ρ).bind fun _ ρ => (fi ρ).bind fun y ρ => (stoI i y v ρ).bind fun _ => ret .nx := rfl
@[simp] theorem augM_ap (o : Op2) (i : Nat) (f : M PyData) : augM o i f ρ = (peek i ρ).bind fun _ ρ => (f ρ).bind fun y ρ => (peek i ρ).bind fun x ρ => (o x y ρ).bind fun w ρ => (setS i w ρ).bind fun _ => ret .nx := rfl
@[simp] theorem forS_ap (it : M (List PyData)) (g : AG) (b : M Fl) : forS it g b ρ = (it ρ).bind fun xs => forM g b xs := rfl
@[simp] theorem seqI_ap (f : M PyData) : seqI f ρ = (f ρ).bind fun x => ofO (seqO x) := rfl
@[simp] theorem seqO_l (xs : List PyData) : seqO (.list xs) = some xs := rfl
@[simp] theorem seqO_t (xs : List PyData) : seqO (.tuple xs) = some xs := rfl
@[simp] theorem enumI_ap (f : M PyData) : enumI f ρ = (f ρ).bind fun x => M.bind (ofO (seqE x)) fun xs => ret (enumD xs) := rfl
@[simp] theorem rgI1_ap (f : M PyData) : rgI1 f ρ = (f ρ).bind fun x => match x with
  | .int j => if -(2 ^ 62) ≤ j ∧ j < 2 ^ 62 then ret (rgD 0 j) else failM
  | _ => failM := rfl
@[simp] theorem slcM_ap (f : M PyData) (lo hi : M (Option Int)) : slcM f lo hi ρ = (f ρ).bind fun x ρ => (lo ρ).bind fun a ρ => (hi ρ).bind fun b => slcO x a b := rfl
@[simp] theorem appM_ap (i : Nat) (f : M PyData) : appM i f ρ = (hasL i ρ).bind fun _ ρ => (f ρ).bind fun x => mutM i (appF x) := rfl
@[simp] theorem popM_ap (i : Nat) : popM i ρ = mutM i popF ρ := rfl
@[simp] theorem popAtM_ap (i : Nat) (f : M PyData) : popAtM i f ρ = (hasL i ρ).bind fun _ ρ => (f ρ).bind fun x => mutM i (popAtF x) := rfl
@[simp] theorem gN_ap (i : Nat) (x : PyData) : gN i x ρ = setO i (.d x) ρ := rfl
theorem setS_of {i : Nat} {w u : SV} (h : ρ[i]? = some u) (hu : ∀ xs, u ≠ .br xs) : setS i w ρ = .ok () (ρ.set i w) := by
  unfold setS
  cases u <;> first | (simp only [h]; done) | exact absurd rfl (hu _)
theorem setO_of {i : Nat} {w u : SV} (h : ρ[i]? = some u) (hu : ∀ xs, u ≠ .br xs) : setO i w ρ = some (ρ.set i w) := by
  unfold setO
  cases u <;> first | (simp only [h]; done) | exact absurd rfl (hu _)
theorem hasL_of {i : Nat} {w : SV} {xs : List PyData} (h : ρ[i]? = some w) (hw : mutO w = some xs) : hasL i ρ = .ok () ρ := by unfold hasL; simp only [h, hw]
theorem hasO_of {i : Nat} {w : SV} (h : ρ[i]? = some w) (hw : w.isOwn = true) : hasO i ρ = .ok () ρ := by unfold hasO; simp only [h, hw, if_true]
theorem mutM_of {i : Nat} {w : SV} {xs ys : List PyData} {a : α} {f : List PyData → Option (α × List PyData)} (h : ρ[i]? = some w) (hw : mutO w = some xs) (hf : f xs = some (a, ys)) : mutM i f ρ = .ok a (ρ.set i (w.relist ys)) := by unfold mutM; simp only [h, hw, hf]
theorem callM_of {n : Nat} {F : Mir} {g : M (List PyData)} {xs : List PyData} {w : SV} {ρ'' : List SV} (hg : g ρ = .ok xs ρ') (hn : xs.length = n) (hF : F (xs.map SV.d) = .ok w ρ'') : callM n F g ρ = .ok w ρ' := by
  unfold callM; simp only [bind_ap, hg, rb_ok, hn, if_true, hF]
@[simp] theorem callM_ap {n : Nat} {F : Mir} {g : M (List PyData)} : callM n F g ρ = (g ρ).bind fun xs ρ => if xs.length = n then match F (xs.map SV.d) with
  | .ok w _ => .ok w ρ
  | .exn c => .exn c
  | .fail => .fail else .fail := rfl
@[simp] theorem callR_ap {n : Nat} {F : Mir} {i : Nat} {g : M (List PyData)} : callR n F i g ρ = (hasL i ρ).bind fun _ ρ => (g ρ).bind fun xs ρ => match ρ[i]? with
  | some w => match mutO w with
    | some ys => if xs.length + 1 = n then match F (.br ys :: xs.map SV.d) with
      | .ok u ρ'' => match brO ρ''[0]? with
        | some ys' => .ok u (ρ.set i (w.relist ys'))
        | none => .fail
      | .exn c => .exn c
      | .fail => .fail else .fail
    | none => .fail
  | none => .fail := rfl
theorem bodyM_of {n N : Nat} {B : M Fl} {w : SV} (hl : ρ.length = n) (h : B (ρ ++ List.replicate (N - n) .un) = .ok (.rt w) ρ') : bodyM n N B ρ = .ok w (backs ρ ρ') := by unfold bodyM; rw [if_pos hl, h]
theorem bodyM_nx {n N : Nat} {B : M Fl} (hl : ρ.length = n) (h : B (ρ ++ List.replicate (N - n) .un) = .ok .nx ρ') : bodyM n N B ρ = .ok (.d .none) (backs ρ ρ') := by unfold bodyM; rw [if_pos hl, h]
@[simp] theorem brO_b (ys : List PyData) : brO (some (.br ys)) = some ys := rfl
@[simp] theorem add_i (i j : Int) : addM (.int i) (.int j) ρ = .ok (.d (.int (i + j))) ρ := rfl
@[simp] theorem sub_i (i j : Int) : subM (.int i) (.int j) ρ = .ok (.d (.int (i - j))) ρ := rfl
@[simp] theorem isB_b (n a b : Bool) : isBM n (.bool a) (.bool b) ρ = .ok (.d (.bool (inB n (decide (a = b))))) ρ := rfl
end
end Nb

set_option Elab.async false
set_option linter.all false
set_option maxRecDepth 100000
set_option maxHeartbeats 4000000
namespace Pm
/-! ### searching a graph with a stack -/
section
variable {α : Type} [DecidableEq α]
def push1 (fh : List α × List α) (y : α) : List α × List α := if y ∈ fh.1 then fh else (fh.1 ++ [y], fh.2 ++ [y])
def visit (fh : List α × List α) (ys : List α) : List α × List α := ys.foldl push1 fh
def dfs (leads : α → List α) : Nat → List α × List α → Option (List α)
  | 0, _ => none
  | n + 1, (found, here) => match here.getLast? with
    | none => some found
    | some one => dfs leads n (visit (found, here.dropLast) (leads one))
inductive Reach (leads : α → List α) (a : α) : α → Prop
  | refl : Reach leads a a
  | step {b c : α} : Reach leads a b → c ∈ leads b → Reach leads a c
theorem Reach.trans {leads : α → List α} {a b c : α} (h : Reach leads a b) (k : Reach leads b c) : Reach leads a c := by
  induction k with
  | refl => exact h
  | step _ m ih => exact .step ih m
theorem Reach.inv {leads : α → List α} {P : α → Prop} (hP : ∀ x y, P x → y ∈ leads x → P y) {a b : α} (h : Reach leads a b) (pa : P a) : P b := by
  induction h with
  | refl => exact pa
  | step _ m ih => exact hP _ _ ih m
/-- what holds between two turns; F0: the sources -/
structure Inv (leads : α → List α) (a : α) (U : List α) (found here : List α) : Prop where
  nd : found.Nodup
  sub : ∀ x ∈ found, x ∈ U
  hin : ∀ x ∈ here, x ∈ found
  src : a ∈ found
  rch : ∀ x ∈ found, Reach leads a x
  cls : ∀ x ∈ found, x ∈ here ∨ ∀ y ∈ leads x, y ∈ found
theorem nodup_len {l U : List α} (h : l.Nodup) (s : ∀ x ∈ l, x ∈ U) : l.length ≤ U.length := by
  induction l generalizing U with
  | nil => exact Nat.zero_le _
  | cons x l ih =>
    rw [List.nodup_cons] at h
    have hx : x ∈ U := s x (List.mem_cons_self)
    have := ih (U := U.erase x) h.2 fun y hy => (List.mem_erase_of_ne (show y ≠ x from fun e => h.1 (by rw [← e]; exact hy))).mpr (s y (List.mem_cons_of_mem _ hy))
    rw [List.length_erase_of_mem hx] at this
    have : 0 < U.length := List.length_pos_of_mem hx
    simp only [List.length_cons]
    omega
/-- one more neighbour -/
theorem push1_fst (fh : List α × List α) (y : α) : ∃ ex, (push1 fh y).1 = fh.1 ++ ex ∧ (push1 fh y).2 = fh.2 ++ ex ∧ (ex = [] ∧ y ∈ fh.1 ∨ ex = [y] ∧ y ∉ fh.1) := by
  unfold push1
  split
  · exact ⟨[], by simp, by simp, .inl ⟨rfl, by assumption⟩⟩
  · exact ⟨[y], rfl, rfl, .inr ⟨rfl, by assumption⟩⟩
theorem visit_spec : ∀ (ys : List α) (fh : List α × List α), fh.1.Nodup → ∃ ex, (visit fh ys).1 = fh.1 ++ ex ∧ (visit fh ys).2 = fh.2 ++ ex ∧ (fh.1 ++ ex).Nodup ∧ (∀ x ∈ ex, x ∈ ys) ∧ ∀ y ∈ ys, y ∈ fh.1 ++ ex
  | [], fh, nd => ⟨[], by simp [visit], by simp [visit], by simpa using nd, by simp, by simp⟩
  | y :: ys, fh, nd => by
    obtain ⟨e1, a1, b1, c1⟩ := push1_fst fh y
    have nd1 : (push1 fh y).1.Nodup := by
      rw [a1]
      rcases c1 with ⟨rfl, _⟩ | ⟨rfl, h⟩
      · simpa using nd
      · rw [List.nodup_append]
        refine ⟨nd, by simp, fun x hx z hz => ?_⟩
        simp at hz
        subst hz
        exact fun e => h (e ▸ hx)
    obtain ⟨e2, a2, b2, n2, m2, k2⟩ := visit_spec ys (push1 fh y) nd1
    refine ⟨e1 ++ e2, ?_, ?_, ?_, fun x hx => ?_, fun z hz => ?_⟩
    · show (visit (push1 fh y) ys).1 = _
      rw [a2, a1, List.append_assoc]
    · show (visit (push1 fh y) ys).2 = _
      rw [b2, b1, List.append_assoc]
    · rw [a1, List.append_assoc] at n2
      exact n2
    · rcases List.mem_append.mp hx with h | h
      · rcases c1 with ⟨rfl, _⟩ | ⟨rfl, _⟩
        · cases h
        · simp at h; subst h; exact List.mem_cons_self
      · exact List.mem_cons_of_mem _ (m2 x h)
    · rcases List.mem_cons.mp hz with rfl | h
      · rw [← List.append_assoc]
        refine List.mem_append_left _ ?_
        rcases c1 with ⟨rfl, h⟩ | ⟨rfl, _⟩
        · simpa using h
        · simp
      · have := k2 z h
        rw [a1, List.append_assoc] at this
        exact this
theorem Inv.turn {leads : α → List α} {a : α} {U found here : List α} {one : α} (hU : ∀ x ∈ U, ∀ y ∈ leads x, y ∈ U) (i : Inv leads a U found (here ++ [one])) :
    Inv leads a U (visit (found, here) (leads one)).1 (visit (found, here) (leads one)).2 ∧
    (U.length - (visit (found, here) (leads one)).1.length) + (visit (found, here) (leads one)).2.length + 1 = (U.length - found.length) + (here ++ [one]).length := by
  obtain ⟨ex, e1, e2, nd, m, k⟩ := visit_spec (leads one) (found, here) i.nd
  have h1 : one ∈ found := i.hin one (by simp)
  have sub : ∀ x ∈ found ++ ex, x ∈ U := fun x hx => by
    rcases List.mem_append.mp hx with h | h
    · exact i.sub x h
    · exact hU one (i.sub one h1) x (m x h)
  refine ⟨⟨by rw [e1]; exact nd, by rw [e1]; exact sub, fun x hx => ?_, ?_, fun x hx => ?_, fun x hx => ?_⟩, ?_⟩
  · rw [e2] at hx
    rw [e1]
    rcases List.mem_append.mp hx with h | h
    · exact List.mem_append_left _ (i.hin x (by simp [h]))
    · exact List.mem_append_right _ h
  · rw [e1]; exact List.mem_append_left _ i.src
  · rw [e1] at hx
    rcases List.mem_append.mp hx with h | h
    · exact i.rch x h
    · exact .step (i.rch one h1) (m x h)
  · rw [e1] at hx ⊢
    rw [e2]
    rcases List.mem_append.mp hx with h | h
    · rcases i.cls x h with c | c
      · rcases List.mem_append.mp c with c | c
        · exact .inl (List.mem_append_left _ c)
        · simp at c
          subst c
          exact .inr k
      · exact .inr fun y hy => List.mem_append_left _ (c y hy)
    · exact .inl (List.mem_append_right _ h)
  · rw [e1, e2]
    have l1 := nodup_len nd sub
    have l2 := nodup_len i.nd i.sub
    simp only [List.length_append, List.length_cons, List.length_nil] at *
    omega
theorem dfs_inv {leads : α → List α} {a : α} {U : List α} (hU : ∀ x ∈ U, ∀ y ∈ leads x, y ∈ U) : ∀ (n : Nat) (found here : List α), Inv leads a U found here → (U.length - found.length) + here.length < n → ∃ r, dfs leads n (found, here) = some r ∧ Inv leads a U r []
  | 0, _, _, _, h => by omega
  | n + 1, found, here, i, h => by
    unfold dfs
    cases e : here.getLast? with
    | none =>
      rw [List.getLast?_eq_none_iff] at e
      subst e
      exact ⟨found, rfl, i⟩
    | some one =>
      have eh : here = here.dropLast ++ [one] := by
        have hne : here ≠ [] := fun z => by rw [z] at e; cases e
        have z := List.getLast?_eq_some_getLast hne
        rw [e] at z
        have z' := Option.some.inj z
        rw [z', List.dropLast_concat_getLast]
      have i' := i
      rw [eh] at i'
      obtain ⟨j, lj⟩ := i'.turn hU
      simp only
      rw [← eh] at lj
      have := dfs_inv hU n _ _ j (by omega)
      exact this
theorem Inv.start {leads : α → List α} {a : α} {U : List α} (ha : a ∈ U) : Inv leads a U [a] [a] := ⟨by simp, by simpa using ha, by simp, by simp, fun x hx => by simp at hx; subst hx; exact .refl, fun x hx => .inl hx⟩
/-- what is found: all that is reached -/
theorem dfs_ok {leads : α → List α} {a : α} {U : List α} (hU : ∀ x ∈ U, ∀ y ∈ leads x, y ∈ U) (ha : a ∈ U) {n : Nat} (hn : U.length < n) : ∃ r, dfs leads n ([a], [a]) = some r ∧ r.Nodup ∧ (∀ x, x ∈ r ↔ Reach leads a x) ∧ ∀ x ∈ r, x ∈ U := by
  have hp : 0 < U.length := List.length_pos_of_mem ha
  obtain ⟨r, e, i⟩ := dfs_inv hU n [a] [a] (.start ha) (by simp; omega)
  refine ⟨r, e, i.nd, fun x => ⟨i.rch x, fun h => ?_⟩, i.sub⟩
  exact h.inv (P := fun x => x ∈ r) (fun x y hx hy => by
    rcases i.cls x hx with c | c
    · cases c
    · exact c y hy) i.src
end
end Pm

set_option Elab.async false
set_option linter.all false
set_option maxRecDepth 100000
set_option maxHeartbeats 4000000
namespace Pm
/-! ### lots: what is led to one another -/
section
variable {α : Type} [DecidableEq α]
def lotsF (leads : α → List α) (N : Nat) : Nat → List α → List (List α) → Option (List (List α))
  | 0, _, _ => none
  | n + 1, left, acc => match left with
    | [] => some acc
    | x :: r => match dfs leads N ([x], [x]) with
      | some lot => lotsF leads N n ((x :: r).filter fun y => decide (y ∉ lot)) (acc ++ [lot])
      | none => none
structure LotsOk (leads : α → List α) (things : List α) (L : List (List α)) : Prop where
  lot : ∀ l ∈ L, l.Nodup ∧ ∃ x ∈ things, ∀ y, y ∈ l ↔ Reach leads x y
  cov : ∀ x ∈ things, ∃ l ∈ L, x ∈ l
  dis : L.Pairwise fun a b => ∀ y, y ∈ a → y ∉ b
theorem lotsF_ok {leads : α → List α} {U things : List α} (hU : ∀ x ∈ U, ∀ y ∈ leads x, y ∈ U) (ht : ∀ x ∈ things, x ∈ U) (sym : ∀ x ∈ U, ∀ y, Reach leads x y → Reach leads y x) {N : Nat} (hN : U.length < N) :
    ∀ (n : Nat) (left : List α) (acc : List (List α)), left.length < n → (∀ x ∈ left, x ∈ things) → (∀ l ∈ acc, l.Nodup ∧ ∃ x ∈ things, ∀ y, y ∈ l ↔ Reach leads x y) → (acc.Pairwise fun a b => ∀ y, y ∈ a → y ∉ b) → (∀ x ∈ things, x ∉ left → ∃ l ∈ acc, x ∈ l) → (∀ x ∈ left, ∀ l ∈ acc, x ∉ l) →
      ∃ L, lotsF leads N n left acc = some L ∧ LotsOk leads things L
  | 0, _, _, h, _, _, _, _, _ => by omega
  | n + 1, [], acc, h, h1, h2, h3, h4, h5 => ⟨acc, rfl, h2, fun x hx => h4 x hx (by simp), h3⟩
  | n + 1, x :: r, acc, h, h1, h2, h3, h4, h5 => by
    have hx : x ∈ things := h1 x List.mem_cons_self
    obtain ⟨lot, el, nd, mem, sub⟩ := dfs_ok hU (ht x hx) hN
    have hxl : x ∈ lot := (mem x).mpr .refl
    unfold lotsF
    simp only [el]
    refine lotsF_ok hU ht sym hN n _ _ ?_ (fun y hy => ?_) (fun l hl => ?_) ?_ (fun y hy hn => ?_) fun y hy l hl => ?_
    · have : ((x :: r).filter fun y => decide (y ∉ lot)).length ≤ r.length := by
        rw [List.filter_cons_of_neg (by simpa using hxl)]
        exact List.length_filter_le _ _
      simp only [List.length_cons] at h
      omega
    · exact h1 y (List.mem_filter.mp hy).1
    · rcases List.mem_append.mp hl with hl | hl
      · exact h2 l hl
      · simp at hl
        subst hl
        exact ⟨nd, x, hx, mem⟩
    · rw [List.pairwise_append]
      refine ⟨h3, by simp, fun a ha b hb y hy => ?_⟩
      simp at hb
      subst hb
      intro hyl
      obtain ⟨_, z, hz, mz⟩ := h2 a ha
      have r1 : Reach leads z y := (mz y).mp hy
      have r2 : Reach leads x y := (mem y).mp hyl
      have r3 : Reach leads y x := sym x (ht x hx) y r2
      exact h5 x List.mem_cons_self a ha ((mz x).mpr (r1.trans r3))
    · by_cases hl : y ∈ x :: r
      · refine ⟨lot, by simp, ?_⟩
        by_cases hyl : y ∈ lot
        · exact hyl
        · exact absurd (List.mem_filter.mpr ⟨hl, by simpa using hyl⟩) hn
      · obtain ⟨l, hl1, hl2⟩ := h4 y hy hl
        exact ⟨l, List.mem_append_left _ hl1, hl2⟩
    · obtain ⟨y1, y2⟩ := List.mem_filter.mp hy
      rcases List.mem_append.mp hl with hl | hl
      · exact h5 y y1 l hl
      · simp at hl
        subst hl
        simpa using y2
theorem lots_ok {leads : α → List α} {U things : List α} (hU : ∀ x ∈ U, ∀ y ∈ leads x, y ∈ U) (ht : ∀ x ∈ things, x ∈ U) (sym : ∀ x ∈ U, ∀ y, Reach leads x y → Reach leads y x) {N n : Nat} (hN : U.length < N) (hn : things.length < n) :
    ∃ L, lotsF leads N n things [] = some L ∧ LotsOk leads things L :=
  lotsF_ok hU ht sym hN n things [] hn (fun _ h => h) (by simp) (by simp) (fun x h h' => absurd h h') (by simp)
/-- one lot: each leads to each -/
theorem LotsOk.one {leads : α → List α} {things : List α} {L : List (List α)} (h : LotsOk leads things L) {a : α} (ha : a ∈ things) (sym : ∀ x ∈ things, ∀ y, Reach leads x y → Reach leads y x) : L.length = 1 ↔ ∀ x ∈ things, Reach leads a x := by
  constructor
  · intro h1 x hx
    obtain ⟨l, hl⟩ : ∃ l, L = [l] := List.length_eq_one_iff.mp h1
    subst hl
    obtain ⟨_, z, hz, mz⟩ := h.lot l (by simp)
    obtain ⟨l1, m1, k1⟩ := h.cov a ha
    obtain ⟨l2, m2, k2⟩ := h.cov x hx
    simp at m1 m2
    subst m1 m2
    exact (sym z hz a ((mz a).mp k1)).trans ((mz x).mp k2)
  · intro hr
    obtain ⟨l, hl, hal⟩ := h.cov a ha
    obtain ⟨_, z, hz, mz⟩ := h.lot l hl
    have all : ∀ x ∈ things, x ∈ l := fun x hx => (mz x).mpr (((mz a).mp hal).trans (hr x hx))
    match L, h, hl with
    | [l'], _, _ => rfl
    | l1 :: l2 :: r, h, hl =>
      exfalso
      have ne : ∀ l' ∈ l1 :: l2 :: r, ∃ y, y ∈ l' ∧ y ∈ l := fun l' hl' => by
        obtain ⟨_, y, hy, my⟩ := h.lot l' hl'
        exact ⟨y, (my y).mpr .refl, all y hy⟩
      have d := h.dis
      obtain ⟨y1, p1, q1⟩ := ne l1 (by simp)
      obtain ⟨y2, p2, q2⟩ := ne l2 (by simp)
      rw [List.pairwise_cons] at d
      rcases List.mem_cons.mp hl with e | hl'
      · subst e
        exact d.1 l2 (by simp) y2 q2 p2
      · exact d.1 l hl' y1 p1 q1
end
end Pm

set_option Elab.async false
set_option linter.all false
set_option maxRecDepth 100000
set_option maxHeartbeats 4000000
namespace Pm
section
variable {α : Type} [DecidableEq α]
theorem sub_of_len {l1 l2 : List α} (h1 : l1.Nodup) (s : ∀ x ∈ l1, x ∈ l2) (h : l2.length ≤ l1.length) : ∀ x ∈ l2, x ∈ l1 := fun z hz => by
  by_cases hm : z ∈ l1
  · exact hm
  · have := nodup_len (l := z :: l1) (U := l2) (List.nodup_cons.mpr ⟨hm, h1⟩) fun x hx => by
      rcases List.mem_cons.mp hx with e | e
      · exact e ▸ hz
      · exact s x e
    simp only [List.length_cons] at this
    omega
theorem nodup_map {β : Type} {f : α → β} : ∀ {l : List α}, (∀ x ∈ l, ∀ y ∈ l, f x = f y → x = y) → l.Nodup → (l.map f).Nodup
  | [], _, _ => by simp
  | x :: l, h, nd => by
    rw [List.nodup_cons] at nd
    rw [List.map_cons, List.nodup_cons]
    refine ⟨fun hm => ?_, nodup_map (fun a ha b hb => h a (List.mem_cons_of_mem _ ha) b (List.mem_cons_of_mem _ hb)) nd.2⟩
    obtain ⟨y, hy, e⟩ := List.mem_map.mp hm
    have := h y (List.mem_cons_of_mem _ hy) x List.mem_cons_self e
    exact nd.1 (this ▸ hy)
theorem reach_first {f : α → α} {x z : α} (h : Reach (fun y => [f y]) x z) : z = x ∨ Reach (fun y => [f y]) (f x) z := by
  induction h with
  | refl => exact .inl rfl
  | step _ m ih =>
    simp at m
    subst m
    rcases ih with e | e
    · subst e; exact .inr .refl
    · exact .inr (.step e (by simp))
/-- a map one to one of a finite set leads back -/
theorem back_to {f : α → α} {U : List α} (hf : ∀ x ∈ U, f x ∈ U) (inj : ∀ x ∈ U, ∀ y ∈ U, f x = f y → x = y) {x : α} (hx : x ∈ U) : Reach (fun y => [f y]) (f x) x := by
  obtain ⟨r, _, nd, mem, sub⟩ := dfs_ok (leads := fun y => [f y]) (U := U) (fun y hy z hz => by simp at hz; subst hz; exact hf y hy) hx (Nat.lt_succ_self _)
  have nm := nodup_map (f := f) (l := r) (fun a ha b hb => inj a (sub a ha) b (sub b hb)) nd
  have sm : ∀ y ∈ r.map f, y ∈ r := fun y hy => by
    obtain ⟨z, hz, rfl⟩ := List.mem_map.mp hy
    exact (mem _).mpr (.step ((mem z).mp hz) (by simp))
  have hxr : x ∈ r := (mem x).mpr .refl
  obtain ⟨z, hz, e⟩ := List.mem_map.mp (sub_of_len nm sm (by simp) x hxr)
  rcases reach_first ((mem z).mp hz) with e' | e'
  · subst e'; rw [e]; exact .refl
  · exact .step e' (by simp [e])
theorem reach_sub {l1 l2 : α → List α} (h : ∀ x, ∀ y ∈ l1 x, y ∈ l2 x) {x y : α} (r : Reach l1 x y) : Reach l2 x y := by
  induction r with
  | refl => exact .refl
  | step _ m ih => exact .step ih (h _ _ m)
theorem reach_sym {ι : Type} {gens : List ι} {act : ι → α → α} {U : List α} (hf : ∀ g ∈ gens, ∀ x ∈ U, act g x ∈ U) (inj : ∀ g ∈ gens, ∀ x ∈ U, ∀ y ∈ U, act g x = act g y → x = y) {x : α} (hx : x ∈ U) {y : α} (r : Reach (fun x => gens.map fun g => act g x) x y) :
    Reach (fun x => gens.map fun g => act g x) y x := by
  have hin : ∀ y, Reach (fun x => gens.map fun g => act g x) x y → y ∈ U := fun y r => r.inv (P := fun y => y ∈ U) (fun a b ha hb => by
    obtain ⟨g, hg, rfl⟩ := List.mem_map.mp hb
    exact hf g hg a ha) hx
  induction r with
  | refl => exact .refl
  | @step b c r m ih =>
    obtain ⟨g, hg, rfl⟩ := List.mem_map.mp m
    have := back_to (f := act g) (hf g hg) (inj g hg) (hin b r)
    exact (reach_sub (fun x y hy => by simp at hy; subst hy; exact List.mem_map.mpr ⟨g, hg, rfl⟩) this).trans ih
end
/-! ### turns -/
/-- a turn of n halls -/
structure IsT (n : Nat) (t : List Nat) : Prop where
  len : t.length = n
  nd : t.Nodup
  lt : ∀ x ∈ t, x < n
def thenT (a b : List Nat) : List Nat := a.map fun h => b.getD h 0
def words (n : Nat) : Nat → List (List Nat)
  | 0 => [[]]
  | k + 1 => (List.range n).flatMap fun a => (words n k).map fun w => a :: w
theorem words_len (n : Nat) : ∀ k, (words n k).length = n ^ k
  | 0 => rfl
  | k + 1 => by
    unfold words
    rw [List.length_flatMap]
    simp only [List.length_map, words_len n k]
    rw [List.map_const', List.sum_replicate_nat, List.length_range, Nat.pow_succ, Nat.mul_comm]
theorem mem_words {n : Nat} : ∀ {k : Nat} {w : List Nat}, w ∈ words n k ↔ w.length = k ∧ ∀ x ∈ w, x < n
  | 0, w => by
    unfold words
    constructor
    · intro h; simp at h; subst h; simp
    · intro ⟨h, _⟩; simp; exact List.length_eq_zero_iff.mp h
  | k + 1, w => by
    unfold words
    rw [List.mem_flatMap]
    constructor
    · rintro ⟨a, ha, h⟩
      obtain ⟨v, hv, rfl⟩ := List.mem_map.mp h
      obtain ⟨h1, h2⟩ := mem_words.mp hv
      refine ⟨by simp [h1], fun x hx => ?_⟩
      rcases List.mem_cons.mp hx with e | e
      · subst e; exact List.mem_range.mp ha
      · exact h2 x e
    · rintro ⟨h1, h2⟩
      match w, h1, h2 with
      | a :: v, h1, h2 =>
        exact ⟨a, List.mem_range.mpr (h2 a (by simp)), List.mem_map.mpr ⟨v, mem_words.mpr ⟨by simpa using h1, fun x hx => h2 x (by simp [hx])⟩, rfl⟩⟩
theorem getD_inj {t : List Nat} (nd : t.Nodup) {i j : Nat} (hi : i < t.length) (hj : j < t.length) (h : t.getD i 0 = t.getD j 0) : i = j := by
  rw [List.getD_eq_getElem?_getD, List.getD_eq_getElem?_getD, List.getElem?_eq_getElem hi, List.getElem?_eq_getElem hj] at h
  exact (List.getElem_inj nd).mp h
theorem IsT.at {n : Nat} {t : List Nat} (h : IsT n t) {i : Nat} (hi : i < n) : t.getD i 0 < n := by
  rw [List.getD_eq_getElem?_getD, List.getElem?_eq_getElem (by rw [h.len]; exact hi)]
  exact h.lt _ (List.getElem_mem _)
theorem thenT_len (a b : List Nat) : (thenT a b).length = a.length := by simp [thenT]
theorem IsT.then {n : Nat} {a b : List Nat} (ha : IsT n a) (hb : IsT n b) : IsT n (thenT a b) := by
  refine ⟨by rw [thenT_len]; exact ha.len, ?_, fun x hx => ?_⟩
  · exact nodup_map (fun x hx y hy e => getD_inj hb.nd (by rw [hb.len]; exact ha.lt x hx) (by rw [hb.len]; exact ha.lt y hy) e) ha.nd
  · obtain ⟨y, hy, rfl⟩ := List.mem_map.mp hx
    exact hb.at (ha.lt y hy)
theorem then_inj {n : Nat} {g : List Nat} (hg : IsT n g) : ∀ {a b : List Nat}, (∀ x ∈ a, x < n) → (∀ x ∈ b, x < n) → thenT a g = thenT b g → a = b
  | [], [], _, _, _ => rfl
  | [], _ :: _, _, _, e => by simp [thenT] at e
  | _ :: _, [], _, _, e => by simp [thenT] at e
  | x :: a, y :: b, ha, hb, e => by
    simp only [thenT, List.map_cons, List.cons.injEq] at e
    have e1 := getD_inj hg.nd (by rw [hg.len]; exact ha x (by simp)) (by rw [hg.len]; exact hb y (by simp)) e.1
    rw [e1, then_inj hg (fun z hz => ha z (by simp [hz])) (fun z hz => hb z (by simp [hz])) e.2]
theorem IsT.still (n : Nat) : IsT n (List.range n) := ⟨by simp, List.nodup_range, fun x hx => List.mem_range.mp hx⟩
/-- a house: 1 to 8 halls, 1 to 6 turns -/
structure IsH (n : Nat) (gens : List (List Nat)) : Prop where
  n1 : 1 ≤ n
  n8 : n ≤ 8
  g1 : 1 ≤ gens.length
  g6 : gens.length ≤ 6
  gt : ∀ g ∈ gens, IsT n g
def leadsT (gens : List (List Nat)) (t : List Nat) : List (List Nat) := gens.map fun g => thenT t g
def GR (gens : List (List Nat)) (a b : List Nat) : Prop := Reach (leadsT gens) a b
theorem words_closed {n k : Nat} {gens : List (List Nat)} (hg : ∀ g ∈ gens, IsT n g) : ∀ x ∈ words n k, ∀ y ∈ leadsT gens x, y ∈ words n k := fun x hx y hy => by
  obtain ⟨g, hg', rfl⟩ := List.mem_map.mp hy
  obtain ⟨h1, h2⟩ := mem_words.mp hx
  refine mem_words.mpr ⟨by rw [thenT_len]; exact h1, fun z hz => ?_⟩
  obtain ⟨w, hw, rfl⟩ := List.mem_map.mp hz
  exact (hg g hg').at (h2 w hw)
theorem words_sym {n k : Nat} {gens : List (List Nat)} (hg : ∀ g ∈ gens, IsT n g) {x : List Nat} (hx : x ∈ words n k) {y : List Nat} (r : Reach (leadsT gens) x y) : Reach (leadsT gens) y x :=
  reach_sym (act := fun g t => thenT t g) (U := words n k) (fun g hg' t ht => words_closed hg t ht _ (List.mem_map.mpr ⟨g, hg', rfl⟩))
    (fun g hg' a ha b hb e => then_inj (hg g hg') (mem_words.mp ha).2 (mem_words.mp hb).2 e) hx r
end Pm

set_option Elab.async false
set_option linter.all false
set_option maxRecDepth 100000
set_option maxHeartbeats 4000000
namespace Pm
/-! ### words led by turns -/
theorem getD_map {f : Nat → Nat} {l : List Nat} {i : Nat} (h : i < l.length) : (l.map f).getD i 0 = f (l.getD i 0) := by
  rw [List.getD_eq_getElem?_getD, List.getD_eq_getElem?_getD, List.getElem?_map, List.getElem?_eq_getElem h]
  rfl
theorem then_assoc {x g s : List Nat} (h : ∀ a ∈ x, a < g.length) : thenT (thenT x g) s = thenT x (thenT g s) := by
  unfold thenT
  rw [List.map_map]
  exact List.map_congr_left fun a ha => (getD_map (f := fun h => s.getD h 0) (h a ha)).symm
theorem getD_range {n i : Nat} (h : i < n) : (List.range n).getD i 0 = i := by
  rw [List.getD_eq_getElem?_getD, List.getElem?_range h]; rfl
theorem then_still {n : Nat} {x : List Nat} (h : ∀ a ∈ x, a < n) : thenT x (List.range n) = x := by
  unfold thenT
  conv => rhs; rw [← List.map_id x]
  exact List.map_congr_left fun a ha => getD_range (h a ha)
theorem still_then {n : Nat} {t : List Nat} (h : t.length = n) : thenT (List.range n) t = t := by
  subst h
  apply List.ext_getElem (by simp [thenT])
  intro i h1 h2
  simp only [thenT, List.getElem_map, List.getElem_range]
  rw [List.getD_eq_getElem?_getD, List.getElem?_eq_getElem h2]; rfl
section
variable {n : Nat} {gens : List (List Nat)}
theorem GR.isT (hg : ∀ g ∈ gens, IsT n g) {a b : List Nat} (h : GR gens a b) (ha : IsT n a) : IsT n b :=
  Reach.inv (P := IsT n) (fun x y hx hy => by
    obtain ⟨g, hg', rfl⟩ := List.mem_map.mp hy
    exact hx.then (hg g hg')) h ha
theorem reach_of_group {x g : List Nat} (hg : ∀ g ∈ gens, IsT n g) (hx : ∀ a ∈ x, a < n) (h : GR gens (List.range n) g) : Reach (leadsT gens) x (thenT x g) := by
  induction h with
  | refl => rw [then_still hx]; exact .refl
  | @step b c r m ih =>
    obtain ⟨s, hs, rfl⟩ := List.mem_map.mp m
    have hb := GR.isT hg r (.still n)
    rw [← then_assoc (fun a ha => by rw [hb.len]; exact hx a ha)]
    exact .step ih (List.mem_map.mpr ⟨s, hs, rfl⟩)
theorem group_of_reach {x y : List Nat} (hg : ∀ g ∈ gens, IsT n g) (hx : ∀ a ∈ x, a < n) (h : Reach (leadsT gens) x y) : ∃ g, GR gens (List.range n) g ∧ y = thenT x g := by
  induction h with
  | refl => exact ⟨_, .refl, (then_still hx).symm⟩
  | @step b c r m ih =>
    obtain ⟨g, h1, rfl⟩ := ih
    obtain ⟨s, hs, rfl⟩ := List.mem_map.mp m
    have hb := GR.isT hg h1 (.still n)
    exact ⟨thenT g s, .step h1 (List.mem_map.mpr ⟨s, hs, rfl⟩), then_assoc fun a ha => by rw [hb.len]; exact hx a ha⟩
/-- the group as a list -/
structure IsG (n : Nat) (gens G : List (List Nat)) : Prop where
  nd : G.Nodup
  mem : ∀ g, g ∈ G ↔ GR gens (List.range n) g
theorem IsG.len_eq {G G' : List (List Nat)} (h : IsG n gens G) (h' : IsG n gens G') : G.length = G'.length :=
  Nat.le_antisymm (nodup_len h.nd fun x hx => (h'.mem x).mpr ((h.mem x).mp hx)) (nodup_len h'.nd fun x hx => (h.mem x).mpr ((h'.mem x).mp hx))
/-! ### pairs -/
def diagP (p : List Nat) : Prop := ∃ a, p = [a, a]
theorem pair_of {p : List Nat} (h : p ∈ words n 2) : ∃ a b, p = [a, b] ∧ a < n ∧ b < n := by
  obtain ⟨h1, h2⟩ := mem_words.mp h
  match p, h1, h2 with
  | [a, b], _, h2 => exact ⟨a, b, rfl, h2 a (by simp), h2 b (by simp)⟩
theorem mem_pair {a b : Nat} (ha : a < n) (hb : b < n) : [a, b] ∈ words n 2 := mem_words.mpr ⟨rfl, fun x hx => by simp at hx; rcases hx with e | e <;> subst e <;> assumption⟩
theorem diag_reach {p q : List Nat} (h : Reach (leadsT gens) p q) (hp : diagP p) : diagP q := h.inv (P := diagP) (fun x y ⟨a, e⟩ hy => by
  subst e
  obtain ⟨g, _, rfl⟩ := List.mem_map.mp hy
  exact ⟨_, rfl⟩) hp
def leadsH (gens : List (List Nat)) (h : Nat) : List Nat := gens.map fun g => g.getD h 0
theorem hall_diag {a b : Nat} (h : Reach (leadsH gens) a b) : Reach (leadsT gens) [a, a] [b, b] := by
  induction h with
  | refl => exact .refl
  | step _ m ih =>
    obtain ⟨g, hg, rfl⟩ := List.mem_map.mp m
    exact .step ih (List.mem_map.mpr ⟨g, hg, rfl⟩)
theorem diag_hall {p q : List Nat} (h : Reach (leadsT gens) p q) : ∀ {a : Nat}, p = [a, a] → ∃ b, q = [b, b] ∧ Reach (leadsH gens) a b := by
  induction h with
  | refl => intro a e; exact ⟨a, e, .refl⟩
  | step _ m ih =>
    intro a e
    obtain ⟨b, rfl, r⟩ := ih e
    obtain ⟨g, hg, rfl⟩ := List.mem_map.mp m
    exact ⟨g.getD b 0, rfl, .step r (List.mem_map.mpr ⟨g, hg, rfl⟩)⟩
theorem leadsH_lt (hg : ∀ g ∈ gens, IsT n g) : ∀ x ∈ List.range n, ∀ y ∈ leadsH gens x, y ∈ List.range n := fun x hx y hy => by
  obtain ⟨g, hg', rfl⟩ := List.mem_map.mp hy
  exact List.mem_range.mpr ((hg g hg').at (List.mem_range.mp hx))
theorem hall_sym (hg : ∀ g ∈ gens, IsT n g) {x : Nat} (hx : x ∈ List.range n) {y : Nat} (r : Reach (leadsH gens) x y) : Reach (leadsH gens) y x :=
  reach_sym (gens := gens) (act := fun (g : List Nat) (h : Nat) => g.getD h 0) (U := List.range n) (fun g hg' t ht => leadsH_lt hg t ht _ (List.mem_map.mpr ⟨g, hg', rfl⟩))
    (fun g hg' a ha b hb e => getD_inj (hg g hg').nd (by rw [(hg g hg').len]; exact List.mem_range.mp ha) (by rw [(hg g hg').len]; exact List.mem_range.mp hb) e) hx r
/-- two lots of pairs: what follows -/
structure TwoLots (n : Nat) (gens : List (List Nat)) : Prop where
  diag : ∀ a, a < n → Reach (leadsH gens) 0 a
  off : ∀ a b, a < n → b < n → a ≠ b → Reach (leadsT gens) [0, 1] [a, b]
theorem two_lots (hg : ∀ g ∈ gens, IsT n g) (n2 : 2 ≤ n) {L : List (List (List Nat))} (hL : LotsOk (leadsT gens) (words n 2) L) : L.length = 2 ↔ TwoLots n gens := by
  have sym : ∀ x ∈ words n 2, ∀ y, Reach (leadsT gens) x y → Reach (leadsT gens) y x := fun x hx y r => words_sym hg hx r
  obtain ⟨D, hD, d0⟩ := hL.cov [0, 0] (mem_pair (by omega) (by omega))
  obtain ⟨F, hF, f0⟩ := hL.cov [0, 1] (mem_pair (by omega) (by omega))
  obtain ⟨_, d, hd, md⟩ := hL.lot D hD
  obtain ⟨_, f, hf, mf⟩ := hL.lot F hF
  have Dm : ∀ y, y ∈ D ↔ Reach (leadsT gens) [0, 0] y := fun y => ⟨fun h => (sym d hd _ ((md _).mp d0)).trans ((md y).mp h), fun h => (md y).mpr (((md _).mp d0).trans h)⟩
  have Fm : ∀ y, y ∈ F ↔ Reach (leadsT gens) [0, 1] y := fun y => ⟨fun h => (sym f hf _ ((mf _).mp f0)).trans ((mf y).mp h), fun h => (mf y).mpr (((mf _).mp f0).trans h)⟩
  have nDF : D ≠ F := fun e => by
    rw [← e] at f0
    obtain ⟨a, ea⟩ := diag_reach ((Dm _).mp f0) ⟨0, rfl⟩
    simp at ea
    omega
  have offF : ∀ y ∈ F, ¬ diagP y := fun y hy ⟨a, e⟩ => by
    subst e
    obtain ⟨b, eb⟩ := diag_reach (sym _ (mem_pair (by omega) (by omega)) _ ((Fm _).mp hy)) ⟨a, rfl⟩
    simp at eb
    omega
  constructor
  · intro h2
    have two : ∀ l ∈ L, l = D ∨ l = F := fun l hl => by
      match L, h2, hD, hF, hl with
      | [p, q], _, hD, hF, hl =>
        simp at hD hF hl
        rcases hD with e1 | e1 <;> rcases hF with e2 | e2 <;> rcases hl with e3 | e3 <;> subst e1 <;> subst e2 <;> subst e3 <;> first | exact .inl rfl | exact .inr rfl | exact absurd rfl nDF
    refine ⟨fun a ha => ?_, fun a b ha hb hab => ?_⟩
    · obtain ⟨l, hl, al⟩ := hL.cov [a, a] (mem_pair ha ha)
      rcases two l hl with e | e
      · subst e
        obtain ⟨b, eb, r⟩ := diag_hall ((Dm _).mp al) rfl
        simp at eb
        subst eb
        exact r
      · subst e
        exact absurd ⟨a, rfl⟩ (offF _ al)
    · obtain ⟨l, hl, al⟩ := hL.cov [a, b] (mem_pair ha hb)
      rcases two l hl with e | e
      · subst e
        obtain ⟨c, ec⟩ := diag_reach ((Dm _).mp al) ⟨0, rfl⟩
        simp at ec
        omega
      · subst e
        exact (Fm _).mp al
  · intro t
    have two : ∀ l ∈ L, (∃ y, y ∈ l ∧ y ∈ D) ∨ ∃ y, y ∈ l ∧ y ∈ F := fun l hl => by
      obtain ⟨_, p, hp, mp⟩ := hL.lot l hl
      obtain ⟨a, b, rfl, ha, hb⟩ := pair_of hp
      by_cases e : a = b
      · subst e
        exact .inl ⟨_, (mp _).mpr .refl, (Dm _).mpr (hall_diag (t.diag a ha))⟩
      · exact .inr ⟨_, (mp _).mpr .refl, (Fm _).mpr (t.off a b ha hb e)⟩
    -- L's lots are D and F alone
    have same : ∀ l ∈ L, l = D ∨ l = F := by
      have key : ∀ (L : List (List (List Nat))) (l m : List (List Nat)) (y : List Nat), (L.Pairwise fun a b => ∀ y, y ∈ a → y ∉ b) → l ∈ L → m ∈ L → y ∈ l → y ∈ m → l = m := by
        intro L
        induction L with
        | nil => intro _ _ _ _ h; cases h
        | cons p r ih =>
          intro l m y pw hl hm yl ym
          rw [List.pairwise_cons] at pw
          rcases List.mem_cons.mp hl with e1 | e1 <;> rcases List.mem_cons.mp hm with e2 | e2
          · rw [e1, e2]
          · subst e1; exact absurd ym (pw.1 m e2 y yl)
          · subst e2; exact absurd yl (pw.1 l e1 y ym)
          · exact ih l m y pw.2 e1 e2 yl ym
      intro l hl
      rcases two l hl with ⟨y, h1, h2⟩ | ⟨y, h1, h2⟩
      · exact .inl (key L l D y hL.dis hl hD h1 h2)
      · exact .inr (key L l F y hL.dis hl hF h1 h2)
    have nd : L.Nodup := by
      refine List.Pairwise.imp_of_mem (fun {a b} ha hb h e => ?_) hL.dis
      subst e
      obtain ⟨_, x, hx, mx⟩ := hL.lot a ha
      exact h x ((mx x).mpr .refl) ((mx x).mpr .refl)
    have l1 := nodup_len (l := L) (U := [D, F]) nd fun l hl => by rcases same l hl with e | e <;> simp [e]
    have l2 := nodup_len (l := [D, F]) (U := L) (by simp [nDF]) fun l hl => by
      simp at hl
      rcases hl with e | e <;> subst e <;> assumption
    simp at l1 l2
    omega
/-- the ordered pairs of unlike halls -/
def offs (n : Nat) : List (List Nat) := (words n 2).filter fun p => match p with
  | [a, b] => decide (a ≠ b)
  | _ => false
end
end Pm

set_option Elab.async false
set_option linter.all false
set_option maxRecDepth 100000
set_option maxHeartbeats 4000000
namespace Pm
/-! ### a search that ends early -/
section
variable {α : Type} [DecidableEq α]
def dfsS (leads : α → List α) (most : Nat) : Nat → List α × List α → Option (List α)
  | 0, _ => none
  | n + 1, (found, here) => match here.getLast? with
    | none => some found
    | some one => if found.length ≤ most then dfsS leads most n (visit (found, here.dropLast) (leads one)) else some found
theorem dfsS_inv {leads : α → List α} {a : α} {U : List α} {most : Nat} (hU : ∀ x ∈ U, ∀ y ∈ leads x, y ∈ U) : ∀ (n : Nat) (found here : List α), Inv leads a U found here → (U.length - found.length) + here.length < n →
    ∃ r, dfsS leads most n (found, here) = some r ∧ ∃ h', Inv leads a U r h' ∧ (h' = [] ∨ most < r.length)
  | 0, _, _, _, h => by omega
  | n + 1, found, here, i, h => by
    unfold dfsS
    cases e : here.getLast? with
    | none =>
      rw [List.getLast?_eq_none_iff] at e
      subst e
      exact ⟨found, rfl, [], i, .inl rfl⟩
    | some one =>
      simp only
      by_cases hm : found.length ≤ most
      · rw [if_pos hm]
        have eh : here = here.dropLast ++ [one] := by
          have hne : here ≠ [] := fun z => by rw [z] at e; cases e
          have z := List.getLast?_eq_some_getLast hne
          rw [e] at z
          have z' := Option.some.inj z
          rw [z', List.dropLast_concat_getLast]
        have i' := i
        rw [eh] at i'
        obtain ⟨j, lj⟩ := i'.turn hU
        rw [← eh] at lj
        have := dfsS_inv (most := most) hU n _ _ j (by omega)
        exact this
      · rw [if_neg hm]
        exact ⟨found, rfl, here, i, .inr (by omega)⟩
theorem dfsS_ok {leads : α → List α} {a : α} {U : List α} {most : Nat} (hU : ∀ x ∈ U, ∀ y ∈ leads x, y ∈ U) (ha : a ∈ U) {n : Nat} (hn : U.length < n) {R : List α} (nd : R.Nodup) (hR : ∀ x, x ∈ R ↔ Reach leads a x) :
    ∃ r, dfsS leads most n ([a], [a]) = some r ∧ r.Nodup ∧ (∀ x ∈ r, x ∈ U) ∧ (r.length ≤ most ↔ R.length ≤ most) := by
  have hp : 0 < U.length := List.length_pos_of_mem ha
  obtain ⟨r, e, h', i, d⟩ := dfsS_inv (most := most) hU n [a] [a] (.start ha) (by simp; omega)
  have l1 : r.length ≤ R.length := nodup_len i.nd fun x hx => (hR x).mpr (i.rch x hx)
  refine ⟨r, e, i.nd, i.sub, ?_⟩
  rcases d with d | d
  · subst d
    have l2 : R.length ≤ r.length := nodup_len nd fun x hx => ((hR x).mp hx).inv (P := fun x => x ∈ r) (fun x y hx hy => by
      rcases i.cls x hx with c | c
      · cases c
      · exact c y hy) i.src
    omega
  · omega
end
section
variable {n : Nat} {gens : List (List Nat)}
theorem offs_mem {a b : Nat} (ha : a < n) (hb : b < n) (h : a ≠ b) : [a, b] ∈ offs n := List.mem_filter.mpr ⟨mem_pair ha hb, by simpa using h⟩
theorem offs_ok (h2 : n ≤ 8) : (offs n).Nodup ∧ (offs n).length = n * (n - 1) := by
  have : n = 0 ∨ n = 1 ∨ n = 2 ∨ n = 3 ∨ n = 4 ∨ n = 5 ∨ n = 6 ∨ n = 7 ∨ n = 8 := by omega
  rcases this with e | e | e | e | e | e | e | e | e <;> subst e <;> decide +kernel
theorem offs_inv {p : List Nat} (h : p ∈ offs n) : ∃ a b, p = [a, b] ∧ a < n ∧ b < n ∧ a ≠ b := by
  obtain ⟨h1, h2⟩ := List.mem_filter.mp h
  obtain ⟨a, b, rfl, ha, hb⟩ := pair_of h1
  exact ⟨a, b, rfl, ha, hb, by simpa using h2⟩
/-- two lots: at least halls times halls less one -/
theorem TwoLots.big (hg : ∀ g ∈ gens, IsT n g) (n2 : 2 ≤ n) (n8 : n ≤ 8) (t : TwoLots n gens) {G : List (List Nat)} (hG : IsG n gens G) : n * (n - 1) ≤ G.length := by
  obtain ⟨o1, o2⟩ := offs_ok n8
  rw [← o2, ← List.length_map (as := G) (fun g => thenT [0, 1] g)]
  refine nodup_len o1 fun p hp => ?_
  obtain ⟨a, b, rfl, ha, hb, hab⟩ := offs_inv hp
  obtain ⟨g, r, e⟩ := group_of_reach hg (fun x hx => by simp at hx; rcases hx with z | z <;> omega) (t.off a b ha hb hab)
  exact List.mem_map.mpr ⟨g, (hG.mem g).mpr r, e.symm⟩
end
/-! ### halls called otherwise -/
/-- s is t with the halls called by p -/
def conjT (p t : List Nat) : List Nat := (List.range t.length).map fun x => p.getD (t.getD (p.idxOf x) 0) 0
theorem idx_at {n : Nat} {p : List Nat} (hp : IsT n p) {a : Nat} (ha : a < n) : p.idxOf (p.getD a 0) = a := by
  have hl : a < p.length := by rw [hp.len]; exact ha
  rw [List.getD_eq_getElem?_getD, List.getElem?_eq_getElem hl]
  exact List.Nodup.idxOf_getElem hp.nd a hl
theorem conj_at {n : Nat} {p t : List Nat} (hp : IsT n p) (ht : IsT n t) {a : Nat} (ha : a < n) : (conjT p t).getD (p.getD a 0) 0 = p.getD (t.getD a 0) 0 := by
  unfold conjT
  rw [getD_map (by rw [List.length_range, ht.len]; exact hp.at ha), getD_range (by rw [ht.len]; exact hp.at ha), idx_at hp ha]
theorem range_sub {n : Nat} {p : List Nat} (hp : IsT n p) {x : Nat} (hx : x < n) : x ∈ p := sub_of_len (l1 := p) (l2 := List.range n) hp.nd (fun y hy => List.mem_range.mpr (hp.lt y hy)) (by rw [hp.len]; simp) x (List.mem_range.mpr hx)
theorem at_idx {n : Nat} {p : List Nat} (hp : IsT n p) {x : Nat} (hx : x < n) : p.idxOf x < n ∧ p.getD (p.idxOf x) 0 = x := by
  have hm := range_sub hp hx
  have hl : p.idxOf x < p.length := List.idxOf_lt_length_iff.mpr hm
  refine ⟨by rw [← hp.len]; exact hl, ?_⟩
  rw [List.getD_eq_getElem?_getD, List.getElem?_eq_getElem hl]
  exact List.getElem_idxOf hl
theorem conj_isT {n : Nat} {p t : List Nat} (hp : IsT n p) (ht : IsT n t) : IsT n (conjT p t) := by
  refine ⟨by simp [conjT, ht.len], ?_, fun x hx => ?_⟩
  · unfold conjT
    rw [ht.len]
    refine nodup_map (fun x hx y hy e => ?_) List.nodup_range
    have h1 := at_idx hp (List.mem_range.mp hx)
    have h2 := at_idx hp (List.mem_range.mp hy)
    have e1 := getD_inj hp.nd (by rw [hp.len]; exact ht.at h1.1) (by rw [hp.len]; exact ht.at h2.1) e
    have e2 := getD_inj ht.nd (by rw [ht.len]; exact h1.1) (by rw [ht.len]; exact h2.1) e1
    rw [← h1.2, ← h2.2, e2]
  · obtain ⟨y, hy, rfl⟩ := List.mem_map.mp hx
    rw [ht.len] at hy
    exact hp.at (ht.at (at_idx hp (List.mem_range.mp hy)).1)
section
variable {n : Nat} {gens : List (List Nat)} {p : List Nat}
theorem conj_then (hp : IsT n p) {t w : List Nat} (ht : IsT n t) (hw : ∀ a ∈ w, a < n) : thenT (thenT w p) (conjT p t) = thenT (thenT w t) p := by
  unfold thenT
  rw [List.map_map, List.map_map]
  exact List.map_congr_left fun a ha => conj_at hp ht (hw a ha)
theorem conj_reach (hp : IsT n p) (hg : ∀ g ∈ gens, IsT n g) {w v : List Nat} (hw : ∀ a ∈ w, a < n) (h : Reach (leadsT gens) w v) : Reach (leadsT (gens.map (conjT p))) (thenT w p) (thenT v p) := by
  have key : (∀ a ∈ v, a < n) ∧ Reach (leadsT (gens.map (conjT p))) (thenT w p) (thenT v p) := by
    induction h with
    | refl => exact ⟨hw, .refl⟩
    | @step b c r m ih =>
      obtain ⟨g, hg', rfl⟩ := List.mem_map.mp m
      refine ⟨fun x hx => ?_, .step ih.2 (List.mem_map.mpr ⟨conjT p g, List.mem_map.mpr ⟨g, hg', rfl⟩, conj_then hp (hg g hg') ih.1⟩)⟩
      obtain ⟨y, hy, rfl⟩ := List.mem_map.mp hx
      exact (hg g hg').at (ih.1 y hy)
  exact key.2
theorem conj_back (hp : IsT n p) (hg : ∀ g ∈ gens, IsT n g) {w u : List Nat} (hw : ∀ a ∈ w, a < n) (h : Reach (leadsT (gens.map (conjT p))) (thenT w p) u) : ∃ v, u = thenT v p ∧ (∀ a ∈ v, a < n) ∧ Reach (leadsT gens) w v := by
  induction h with
  | refl => exact ⟨w, rfl, hw, .refl⟩
  | @step b c r m ih =>
    obtain ⟨v, rfl, hv, rv⟩ := ih
    obtain ⟨s, hs, rfl⟩ := List.mem_map.mp m
    obtain ⟨g, hg', rfl⟩ := List.mem_map.mp hs
    refine ⟨thenT v g, conj_then hp (hg g hg') hv, fun x hx => ?_, .step rv (List.mem_map.mpr ⟨g, hg', rfl⟩)⟩
    obtain ⟨y, hy, rfl⟩ := List.mem_map.mp hx
    exact (hg g hg').at (hv y hy)
/-- each word is another one called by p -/
theorem conj_onto (hp : IsT n p) {w : List Nat} (hw : ∀ a ∈ w, a < n) : ∃ v, w = thenT v p ∧ v.length = w.length ∧ ∀ a ∈ v, a < n := by
  refine ⟨w.map fun x => p.idxOf x, ?_, by simp, fun a ha => ?_⟩
  · unfold thenT
    rw [List.map_map]
    conv => lhs; rw [← List.map_id w]
    exact List.map_congr_left fun a ha => (at_idx hp (hw a ha)).2.symm
  · obtain ⟨x, hx, rfl⟩ := List.mem_map.mp ha
    exact (at_idx hp (hw x hx)).1
theorem then_inj_p (hp : IsT n p) {v w : List Nat} (hv : ∀ a ∈ v, a < n) (hw : ∀ a ∈ w, a < n) (e : thenT v p = thenT w p) : v = w := then_inj hp hv hw e
/-- the group of the renamed house has as many turns -/
theorem conj_order (hp : IsT n p) (hg : ∀ g ∈ gens, IsT n g) {G G' : List (List Nat)} (hG : IsG n gens G) (hG' : IsG n (gens.map (conjT p)) G') : G'.length = G.length := by
  obtain ⟨w, ew, lw, hw⟩ := conj_onto hp (w := List.range n) fun a ha => List.mem_range.mp ha
  rw [List.length_range] at lw
  have wn : ∀ g ∈ G, (∀ a ∈ g, a < n) ∧ g.length = n := fun g hg' => by
    have := GR.isT hg ((hG.mem g).mp hg') (.still n)
    exact ⟨this.lt, this.len⟩
  -- w is one to one
  have wnd : w.Nodup := by
    have h1 : (List.range n).Nodup := List.nodup_range
    rw [ew] at h1
    unfold thenT at h1
    exact List.Pairwise.of_map (f := fun h => p.getD h 0) (fun a b h e => h (by rw [e])) h1
  have wt : IsT n w := ⟨lw, wnd, hw⟩
  have inj : ∀ g ∈ G, ∀ h ∈ G, thenT (thenT w g) p = thenT (thenT w h) p → g = h := fun g hg' h hh e => by
    have wg : ∀ g ∈ G, ∀ a ∈ thenT w g, a < n := fun g hg' a ha => by
      obtain ⟨y, hy, rfl⟩ := List.mem_map.mp ha
      have := GR.isT hg ((hG.mem g).mp hg') (.still n)
      exact this.at (hw y hy)
    have e1 := then_inj hp (wg g hg') (wg h hh) e
    have tg := GR.isT hg ((hG.mem g).mp hg') (.still n)
    have th := GR.isT hg ((hG.mem h).mp hh) (.still n)
    apply List.ext_getElem (by rw [tg.len, th.len])
    intro i h1 h2
    have hi : i < n := by rw [← tg.len]; exact h1
    obtain ⟨j1, j2⟩ := at_idx wt hi
    have := congrArg (fun l => l.getD (w.idxOf i) 0) e1
    unfold thenT at this
    rw [getD_map (by rw [lw]; exact j1), getD_map (by rw [lw]; exact j1), j2] at this
    rw [List.getD_eq_getElem?_getD, List.getElem?_eq_getElem h1, List.getD_eq_getElem?_getD, List.getElem?_eq_getElem h2] at this
    exact this
  refine Nat.le_antisymm ?_ ?_
  · rw [← List.length_map (as := G) (fun g => thenT (thenT w g) p)]
    refine nodup_len hG'.nd fun u hu => ?_
    have r := (hG'.mem u).mp hu
    unfold GR at r
    rw [ew] at r
    obtain ⟨v, rfl, _, rv⟩ := conj_back hp hg hw r
    obtain ⟨g, rg, rfl⟩ := group_of_reach hg hw rv
    exact List.mem_map.mpr ⟨g, (hG.mem g).mpr rg, rfl⟩
  · rw [← List.length_map (as := G) (fun g => thenT (thenT w g) p)]
    refine nodup_len (nodup_map inj hG.nd) fun u hu => ?_
    obtain ⟨g, hg', rfl⟩ := List.mem_map.mp hu
    refine (hG'.mem _).mpr ?_
    unfold GR
    rw [ew]
    exact conj_reach hp hg hw (reach_of_group hg hw ((hG.mem g).mp hg'))
theorem conj_hall (hp : IsT n p) (hg : ∀ g ∈ gens, IsT n g) {a b : Nat} (ha : a < n) (h : Reach (leadsH gens) a b) : Reach (leadsH (gens.map (conjT p))) (p.getD a 0) (p.getD b 0) := by
  have key : b < n ∧ Reach (leadsH (gens.map (conjT p))) (p.getD a 0) (p.getD b 0) := by
    induction h with
    | refl => exact ⟨ha, .refl⟩
    | @step b c r m ih =>
      obtain ⟨g, hg', rfl⟩ := List.mem_map.mp m
      exact ⟨(hg g hg').at ih.1, .step ih.2 (List.mem_map.mpr ⟨conjT p g, List.mem_map.mpr ⟨g, hg', rfl⟩, conj_at hp (hg g hg') ih.1⟩)⟩
  exact key.2
theorem conj_gens (hp : IsT n p) (hg : ∀ g ∈ gens, IsT n g) : ∀ g ∈ gens.map (conjT p), IsT n g := fun g h => by
  obtain ⟨s, hs, rfl⟩ := List.mem_map.mp h
  exact conj_isT hp (hg s hs)
theorem conj_two (hp : IsT n p) (hg : ∀ g ∈ gens, IsT n g) (n2 : 2 ≤ n) (t : TwoLots n gens) : TwoLots n (gens.map (conjT p)) := by
  have hg' := conj_gens hp hg
  refine ⟨fun a ha => ?_, fun a b ha hb hab => ?_⟩
  · obtain ⟨i1, i2⟩ := at_idx hp ha
    obtain ⟨j1, j2⟩ := at_idx hp (show 0 < n by omega)
    have r := (hall_sym hg (List.mem_range.mpr (by omega)) (t.diag _ j1)).trans (t.diag _ i1)
    have := conj_hall hp hg j1 r
    rw [i2, j2] at this
    exact this
  · obtain ⟨i1, i2⟩ := at_idx hp ha
    obtain ⟨j1, j2⟩ := at_idx hp hb
    obtain ⟨k1, k2⟩ := at_idx hp (show 0 < n by omega)
    obtain ⟨l1, l2⟩ := at_idx hp (show 1 < n by omega)
    have ne1 : p.idxOf a ≠ p.idxOf b := fun e => hab (by rw [← i2, ← j2, e])
    have ne2 : p.idxOf 0 ≠ p.idxOf 1 := fun e => by have := k2; rw [e, l2] at this; omega
    have r := (words_sym hg (mem_pair (by omega) (by omega)) (t.off _ _ k1 l1 ne2)).trans (t.off _ _ i1 j1 ne1)
    have := conj_reach hp hg (w := [p.idxOf 0, p.idxOf 1]) (fun x hx => by simp at hx; rcases hx with e | e <;> subst e <;> assumption) r
    unfold thenT at this
    simp only [List.map_cons, List.map_nil, i2, j2, k2, l2] at this
    exact this
end
end Pm

set_option Elab.async false
set_option linter.all false
set_option maxRecDepth 100000
set_option maxHeartbeats 4000000
namespace Nb
open PySem PySem.Spec L2 PyProof.Rows Pm
/-! data of the houses -/
def trD (t : List Nat) : PyData := .tuple (t.map fun n => .int (n : Nat))
def nuD (n : Nat) : PyData := .int (n : Nat)
def hoD (n : Nat) (gens : List (List Nat)) : PyData := .tuple [nuD n, .tuple (gens.map trD)]
def nbr (w : SV) : Prop := ∀ xs, w ≠ .br xs
theorem nbr_un : nbr .un := fun _ z => by cases z
theorem nbr_d (x : PyData) : nbr (.d x) := fun _ z => by cases z
theorem nbr_ls (x : List PyData) : nbr (.ls x) := fun _ z => by cases z
theorem nbr_dc (t : Bool) (x : List PyData) : nbr (.dc t x) := fun _ z => by cases z
def kI (t : List Nat) : List Key := t.map fun (n : Nat) => (.inl (n : Int) : Key)
theorem kI_inj {a b : List Nat} : kI a = kI b ↔ a = b := by
  constructor
  · intro h
    induction a generalizing b with
    | nil => cases b with
      | nil => rfl
      | cons y b => simp [kI] at h
    | cons x a ih => cases b with
      | nil => simp [kI] at h
      | cons y b =>
        simp only [kI, List.map_cons, List.cons.injEq, Sum.inl.injEq, Int.ofNat_inj] at h
        rw [h.1, ih h.2]
  · intro h; rw [h]
theorem trD_key (t : List Nat) : trD t = .tuple ((kI t).map keyD) := by unfold trD kI; rw [List.map_map]; rfl
/-- an encoding of keys -/
structure Enc {α : Type} [DecidableEq α] (e : α → PyData) (t : Bool) : Prop where
  has : ∀ (l : List α) (a : α), hasK (l.map e) (e a) = decide (a ∈ l)
  key : ∀ a, keyT t (e a) = true
  isT : ∀ a, isT (e a) = t
theorem any_dec {α : Type} [DecidableEq α] (l : List α) (a : α) : (l.any fun z => decide (z = a)) = decide (a ∈ l) := by
  induction l with
  | nil => simp
  | cons x l ih =>
    rw [List.any_cons, ih]
    by_cases h : x = a
    · subst h; simp
    · have h' : ¬ a = x := fun z => h z.symm
      simp [h, h']
theorem any_kI (l : List (List Nat)) (a : List Nat) : ((l.map kI).any fun z => decide (z = kI a)) = l.any fun z => decide (z = a) := by
  induction l with
  | nil => rfl
  | cons x l ih => rw [List.map_cons, List.any_cons, List.any_cons, ih]; rw [show decide (kI x = kI a) = decide (x = a) from decide_eq_decide.mpr kI_inj]
theorem keysO_kI (t : List Nat) : (keysO ((kI t).map keyD)).isSome = true := by
  induction t with
  | nil => rfl
  | cons x t ih =>
    show (match keyO (keyD (.inl (x : Int))), keysO ((kI t).map keyD) with
      | some k, some ks => some (k :: ks)
      | _, _ => none).isSome = true
    cases h : keysO ((kI t).map keyD) with
    | none => rw [h] at ih; cases ih
    | some ks => rfl
theorem enc_trD : Enc trD true := by
  refine ⟨fun l a => ?_, fun a => ?_, fun a => rfl⟩
  · have e : l.map trD = (l.map kI).map fun k => .tuple (k.map keyD) := by rw [List.map_map]; exact List.map_congr_left fun t _ => trD_key t
    rw [e, trD_key, hasK_t, any_kI, any_dec]
  · rw [trD_key]
    show (true && (keysO ((kI a).map keyD)).isSome) = true
    rw [keysO_kI]; rfl
theorem enc_nuD : Enc nuD false := by
  refine ⟨fun l a => ?_, fun a => rfl, fun a => rfl⟩
  have e : l.map nuD = (l.map fun (n : Nat) => (.inl (n : Int) : Key)).map keyD := by rw [List.map_map]; rfl
  rw [e, show nuD a = keyD (.inl (a : Int)) from rfl, hasK_f, ← any_dec l a]
  induction l with
  | nil => rfl
  | cons x l ih => rw [List.map_cons, List.any_cons, List.any_cons, ih (by rw [List.map_map]; rfl)]; rw [show decide ((.inl (x : Int) : Key) = .inl (a : Int)) = decide (x = a) from decide_eq_decide.mpr (by simp [Int.ofNat_inj])]
theorem Enc.add {α : Type} [DecidableEq α] {e : α → PyData} {t : Bool} (E : Enc e t) (l : List α) (a : α) (h : a ∉ l) : addK (l.map e) (e a) = (l ++ [a]).map e := by
  unfold addK
  rw [E.has, if_neg (by simpa using h), List.map_append]; rfl
/-! loops -/
theorem for_fold {β S : Type} {g : AG} {body : M Fl} {enc : β → PyData} {R : S → List SV → Prop} {step : S → β → S} {P : β → Prop}
    (h : ∀ s y ρ, P y → R s ρ → ∃ ρ1 ρ', g (enc y) ρ = some ρ1 ∧ body ρ1 = .ok .nx ρ' ∧ R (step s y) ρ') : ∀ (ys : List β) (s : S) (ρ : List SV), (∀ y ∈ ys, P y) → R s ρ → ∃ ρ', forM g body (ys.map enc) ρ = .ok .nx ρ' ∧ R (ys.foldl step s) ρ'
  | [], s, ρ, _, r => ⟨ρ, rfl, r⟩
  | y :: ys, s, ρ, hp, r => by
    obtain ⟨ρ1, ρ', e1, e2, r'⟩ := h s y ρ (hp y List.mem_cons_self) r
    obtain ⟨ρ2, e3, r2⟩ := for_fold h ys (step s y) ρ' (fun z hz => hp z (List.mem_cons_of_mem _ hz)) r'
    refine ⟨ρ2, ?_, r2⟩
    show (match g (enc y) ρ with
      | some ρ' => loopM body (forM g body (ys.map enc)) ρ'
      | none => .fail) = _
    rw [e1]
    show (body ρ1).bind _ = _
    rw [e2]
    exact e3
theorem while_dfs {α : Type} [DecidableEq α] {leads : α → List α} {a : α} {U : List α} (hU : ∀ x ∈ U, ∀ y ∈ leads x, y ∈ U) {C : M Bool} {L : M Fl} {Lay : List α → List α → List SV → Prop} (hC : ∀ f h ρ, Lay f h ρ → C ρ = .ok (!h.isEmpty) ρ)
    (hL : ∀ f h one ρ, Pm.Inv leads a U f (h ++ [one]) → Lay f (h ++ [one]) ρ → ∃ ρ', L ρ = .ok .nx ρ' ∧ Lay (visit (f, h) (leads one)).1 (visit (f, h) (leads one)).2 ρ') :
    ∀ (n : Nat) (f h : List α) (ρ : List SV) (r : List α), Pm.Inv leads a U f h → Lay f h ρ → dfs leads n (f, h) = some r → ∃ ρ', whileM C L n ρ = .ok .nx ρ' ∧ Lay r [] ρ'
  | 0, f, h, ρ, r, _, _, e => by cases e
  | n + 1, f, h, ρ, r, i, l, e => by
    show ∃ ρ', (M.bind C fun b => if b then loopM L (whileM C L n) else ret .nx) ρ = .ok .nx ρ' ∧ Lay r [] ρ'
    unfold dfs at e
    cases eh : h.getLast? with
    | none =>
      rw [eh] at e
      rw [List.getLast?_eq_none_iff] at eh
      subst eh
      cases e
      refine ⟨ρ, ?_, l⟩
      show (C ρ).bind _ = _
      rw [hC _ _ _ l]; rfl
    | some one =>
      rw [eh] at e
      have e' : h = h.dropLast ++ [one] := by
        have hne : h ≠ [] := fun z => by rw [z] at eh; cases eh
        have z := List.getLast?_eq_some_getLast hne
        rw [eh] at z
        have z' := Option.some.inj z
        rw [z', List.dropLast_concat_getLast]
      have i' := i
      have l' := l
      rw [e'] at i' l'
      obtain ⟨ρ1, e1, l1⟩ := hL _ _ _ _ i' l'
      obtain ⟨ρ2, e2, l2⟩ := while_dfs hU hC hL n _ _ ρ1 r (i'.turn hU).1 l1 e
      refine ⟨ρ2, ?_, l2⟩
      show (C ρ).bind _ = _
      rw [hC _ _ _ l, e']
      simp only [rb_ok]
      rw [show (!(h.dropLast ++ [one]).isEmpty) = true by simp]
      show (L ρ).bind _ = _
      rw [e1]
      exact e2
/-! comprehensions of data -/
theorem lc_map {vs : List Nat} {g : AG} {te : M PyData} {f : PyData → PyData} {ρ : List SV} : ∀ (xs acc : List PyData), acc.length + xs.length ≤ sizeLine → (∀ x ∈ xs, ∃ ρ2, g x ρ = some ρ2 ∧ te ρ2 = .ok (f x) ρ2 ∧ wipeR vs ρ2 = some ρ) → lcLoop vs g yesM te xs acc ρ = some (acc ++ xs.map f, ρ)
  | [], acc, _, _ => by simp [lcLoop]
  | x :: xs, acc, hl, h => by
    obtain ⟨ρ2, e1, e2, e3⟩ := h x List.mem_cons_self
    unfold lcLoop
    simp only [List.length_cons] at hl
    simp only [e1, show yesM ρ2 = .ok true ρ2 from rfl, e2, if_pos (show acc.length < sizeLine by omega), e3]
    rw [lc_map xs (acc ++ [f x]) (by simp; omega) fun y hy => h y (List.mem_cons_of_mem _ hy)]
    simp
theorem lc_filter {vs : List Nat} {g : AG} {tt : M Bool} {te : M PyData} {p : PyData → Bool} {f : PyData → PyData} {ρ : List SV} : ∀ (xs acc : List PyData), acc.length + xs.length ≤ sizeLine → (∀ x ∈ xs, ∃ ρ2, g x ρ = some ρ2 ∧ tt ρ2 = .ok (p x) ρ2 ∧ te ρ2 = .ok (f x) ρ2 ∧ wipeR vs ρ2 = some ρ) →
    lcLoop vs g tt te xs acc ρ = some (acc ++ (xs.filter p).map f, ρ)
  | [], acc, _, _ => by simp [lcLoop]
  | x :: xs, acc, hl, h => by
    obtain ⟨ρ2, e1, e2, e3, e4⟩ := h x List.mem_cons_self
    unfold lcLoop
    simp only [List.length_cons] at hl
    cases hp : p x with
    | true =>
      simp only [e1, e2, hp, e3, if_pos (show acc.length < sizeLine by omega), e4]
      rw [lc_filter xs (acc ++ [f x]) (by simp; omega) fun y hy => h y (List.mem_cons_of_mem _ hy)]
      simp [List.filter_cons, hp]
    | false =>
      simp only [e1, e2, hp, e4]
      rw [lc_filter xs acc (by omega) fun y hy => h y (List.mem_cons_of_mem _ hy)]
      simp [List.filter_cons, hp]
theorem lcM_map {vs : List Nat} {it : M (List PyData)} {g : AG} {te : M PyData} {f : PyData → PyData} {ρ ρ' ρ1 : List SV} {xs : List PyData} (hit : it ρ = .ok xs ρ') (hw : wipeR vs ρ' = some ρ1) (hl : xs.length ≤ sizeLine) (h : ∀ x ∈ xs, ∃ ρ2, g x ρ1 = some ρ2 ∧ te ρ2 = .ok (f x) ρ2 ∧ wipeR vs ρ2 = some ρ1) :
    lcM vs it g yesM te ρ = .ok (.ls (xs.map f)) (unAll vs ρ1) := by
  unfold lcM
  rw [bind_ap, hit, rb_ok, hw]
  simp only [lc_map xs [] (by simpa using hl) h, List.nil_append]
theorem lcM_filter {vs : List Nat} {it : M (List PyData)} {g : AG} {tt : M Bool} {te : M PyData} {p : PyData → Bool} {f : PyData → PyData} {ρ ρ' ρ1 : List SV} {xs : List PyData} (hit : it ρ = .ok xs ρ') (hw : wipeR vs ρ' = some ρ1) (hl : xs.length ≤ sizeLine)
    (h : ∀ x ∈ xs, ∃ ρ2, g x ρ1 = some ρ2 ∧ tt ρ2 = .ok (p x) ρ2 ∧ te ρ2 = .ok (f x) ρ2 ∧ wipeR vs ρ2 = some ρ1) :
    lcM vs it g tt te ρ = .ok (.ls ((xs.filter p).map f)) (unAll vs ρ1) := by
  unfold lcM
  rw [bind_ap, hit, rb_ok, hw]
  simp only [lc_filter xs [] (by simpa using hl) h, List.nil_append]
/-! small things -/
theorem atI_trD {t : List Nat} {i : Nat} (h : i < t.length) : atI (t.map fun n => PyData.int (n : Nat)) (i : Int) = some (.int (t.getD i 0 : Nat)) := atI_nat (by rw [List.getElem?_map, List.getElem?_eq_getElem h, List.getD_eq_getElem?_getD, List.getElem?_eq_getElem h]; rfl)
theorem small_len {t : List Nat} (h : t.length ≤ 1000) : (t.map fun n => PyData.int (n : Nat)).length ≤ sizeLine := by rw [List.length_map]; exact Nat.le_trans h (by decide)
end Nb

set_option Elab.async false
set_option linter.all false
set_option maxRecDepth 100000
set_option maxHeartbeats 4000000
namespace Nb
open PySem PySem.Spec L2 PyProof.Rows Pm
theorem rgD_nat (n : Nat) : rgD 0 (n : Int) = (List.range n).map fun i => PyData.int (i : Nat) := by
  unfold rgD
  simp
theorem rgOk_nat {n : Nat} (h : n ≤ 1000) : rgOk 0 (n : Int) := by
  have e1 : (1000 : Int) < 2 ^ 62 := by decide
  have e2 : -(2 ^ 62) ≤ (0 : Int) := by decide
  have e3 : 1000 ≤ 2 ^ 24 := by decide
  have e4 : (0 : Int) < 2 ^ 62 := by decide
  refine ⟨e2, e4, Int.le_trans e2 (Int.natCast_nonneg n), Int.lt_of_le_of_lt (Int.ofNat_le.mpr h) e1, Nat.le_trans ?_ e3⟩
  omega
theorem lrg_ok {n : Nat} (h : n ≤ 1000) (ρ : List SV) : lrgM (.int (n : Nat)) ρ = .ok (.ls ((List.range n).map fun i => PyData.int (i : Nat))) ρ := by
  simp only [lrgM, gM_ap, if_pos (rgOk_nat h), rgD_nat, ret_ap]
theorem trg_ok {n : Nat} (h : n ≤ 1000) (ρ : List SV) : trgM (.int (n : Nat)) ρ = .ok (.d (trD (List.range n))) ρ := by
  simp only [trgM, gM_ap, if_pos (rgOk_nat h), rgD_nat, ret_ap]
  rfl
theorem still_ok {n : Nat} (h : n ≤ 1000) : ∃ ρ', F_still [.d (nuD n)] = .ok (.d (trD (List.range n))) ρ' := by
  refine ⟨_, bodyM_of (ρ' := [.d (nuD n)]) rfl ?_⟩
  show (retM (M.bind (getD 0) trgM)) [.d (nuD n)] = _
  rw [retM_ap, bind_ap, getD_d (x := nuD n) rfl, rb_ok]
  show (trgM (.int (n : Nat)) [.d (nuD n)]).bind _ = _
  rw [trg_ok h]; rfl
theorem idx_tup {xs : List PyData} {i : Nat} {x : PyData} (h : xs[i]? = some x) (ρ : List SV) : idxM (.tuple xs) (.int (i : Nat)) ρ = .ok (.d x) ρ := by
  show (M.bind (ofO (atI xs (i : Int))) fun x => ret (SV.d x)) ρ = _
  rw [atI_nat h]; rfl
theorem idx_lst {xs : List PyData} {i : Nat} {x : PyData} (h : xs[i]? = some x) (ρ : List SV) : idxM (.list xs) (.int (i : Nat)) ρ = .ok (.d x) ρ := by
  show (M.bind (ofO (atI xs (i : Int))) fun x => ret (SV.d x)) ρ = _
  rw [atI_nat h]; rfl
theorem at_trD {t : List Nat} {i : Nat} (h : i < t.length) : (t.map fun n => PyData.int (n : Nat))[i]? = some (.int (t.getD i 0 : Nat)) := by
  rw [List.getElem?_map, List.getElem?_eq_getElem h, List.getD_eq_getElem?_getD, List.getElem?_eq_getElem h]; rfl
/-- [other[h] for h in one] -/
theorem then_lc {a b : List Nat} (h : ∀ x ∈ a, x < b.length) (hl : a.length ≤ 1000) (f : PyData → PyData) (hf : ∀ n : Nat, f (.int n) = .int (b.getD n 0 : Nat)) : ((a.map fun n => PyData.int (n : Nat)).map f) = (thenT a b).map fun n => PyData.int (n : Nat) := by
  unfold thenT
  rw [List.map_map, List.map_map]
  exact List.map_congr_left fun x _ => hf x
def intN : PyData → Nat
  | .int i => i.toNat
  | _ => 0
theorem then_ok {a b : List Nat} (h : ∀ x ∈ a, x < b.length) (hl : a.length ≤ 1000) : ∃ ρ', F_then [.d (trD a), .d (trD b)] = .ok (.d (trD (thenT a b))) ρ' := by
  have e := lcM_map (vs := [2]) (it := seqI (getD 0)) (g := gN 2) (te := toD (binP idxM 1 (getD 2))) (f := fun x => .int (b.getD (intN x) 0 : Nat)) (ρ := [.d (trD a), .d (trD b), .un]) (ρ' := [.d (trD a), .d (trD b), .un]) (ρ1 := [.d (trD a), .d (trD b), .un]) (xs := a.map fun n => PyData.int (n : Nat)) rfl rfl
    (small_len hl) fun x hx => by
      obtain ⟨n, hn, rfl⟩ := List.mem_map.mp hx
      refine ⟨[.d (trD a), .d (trD b), .d (.int (n : Nat))], rfl, ?_, rfl⟩
      have e : (binP idxM 1 (getD 2)) [.d (trD a), .d (trD b), .d (.int (n : Nat))] = .ok (.d (.int (b.getD n 0 : Nat))) [.d (trD a), .d (trD b), .d (.int (n : Nat))] := idx_tup (at_trD (h n hn)) _
      rw [toD_ap, e]; rfl
  rw [then_lc h hl _ (fun n => rfl)] at e
  refine ⟨_, bodyM_of (ρ' := unAll [2] [.d (trD a), .d (trD b), .un]) rfl ?_⟩
  show (retM (M.bind (toD (lcM [2] (seqI (getD 0)) (gN 2) yesM (toD (binP idxM 1 (getD 2))))) tupcM)) [.d (trD a), .d (trD b), .un] = _
  rw [retM_ap, bind_ap, toD_ap, e]; rfl
/-! is_number, is_turn, is_house -/
theorem num_ok {v lo hi : Int} : ∃ ρ', F_is_number [.d (.int v), .d (.int lo), .d (.int hi)] = .ok (.d (.bool (decide (lo ≤ v) && decide (v ≤ hi)))) ρ' := by
  refine ⟨_, bodyM_of (ρ' := [.d (.int v), .d (.int lo), .d (.int hi)]) rfl ?_⟩
  show B_is_number [.d (.int v), .d (.int lo), .d (.int hi)] = _
  unfold B_is_number
  by_cases h : lo ≤ v
  · simp [getD, isiM, tyN, tyIs, ordM, h]
  · simp [getD, isiM, tyN, tyIs, ordM, h]
theorem all_true {vs : List Nat} {g : AG} {te : M PyData} {ρ : List SV} : ∀ (xs : List PyData), (∀ x ∈ xs, ∃ ρ2, g x ρ = some ρ2 ∧ te ρ2 = .ok (.bool true) ρ2 ∧ wipeR vs ρ2 = some ρ) → allLoop vs g te xs ρ = some (true, ρ)
  | [], _ => rfl
  | x :: xs, h => by
    obtain ⟨ρ2, e1, e2, e3⟩ := h x List.mem_cons_self
    unfold allLoop
    simp only [e1, e2, e3, if_true]
    exact all_true xs fun y hy => h y (List.mem_cons_of_mem _ hy)
theorem allM_true {vs : List Nat} {it : M (List PyData)} {g : AG} {te : M PyData} {ρ ρ' ρ1 : List SV} {xs : List PyData} (hit : it ρ = .ok xs ρ') (hw : wipeR vs ρ' = some ρ1) (h : ∀ x ∈ xs, ∃ ρ2, g x ρ1 = some ρ2 ∧ te ρ2 = .ok (.bool true) ρ2 ∧ wipeR vs ρ2 = some ρ1) :
    allM vs it g te ρ = .ok (.bool true) (unAll vs ρ1) := by
  unfold allM
  rw [bind_ap, hit, rb_ok, hw]
  simp only [all_true xs h]
/-! sorting numbers -/
theorem lt_int (a b : Int) : ltD (.int a) (.int b) = decide (a < b) := by
  unfold ltD enc
  simp [HT.lexLt]
  omega
end Nb

set_option Elab.async false
set_option linter.all false
set_option maxRecDepth 100000
set_option maxHeartbeats 4000000
namespace Nb
open PySem PySem.Spec L2 PyProof.Rows Pm
section
variable {α : Type} [DecidableEq α]
theorem pop_last {e : α → PyData} {h : List α} {one : α} : popF ((h ++ [one]).map e) = some (.d (e one), h.map e) := by
  unfold popF
  have : ((h ++ [one]).map e)[((h ++ [one]).map e).length - 1]? = some (e one) := by simp
  rw [this]
  simp
theorem room_new {U f : List α} {y : α} (nd : f.Nodup) (s : ∀ x ∈ f, x ∈ U) (hy : y ∈ U) (hn : y ∉ f) (hU : U.length ≤ sizeLine) : f.length < sizeLine := by
  have := nodup_len (l := y :: f) (U := U) (List.nodup_cons.mpr ⟨hn, nd⟩) fun x hx => by
    rcases List.mem_cons.mp hx with e | e
    · exact e ▸ hy
    · exact s x e
  simp only [List.length_cons] at this
  omega
/-- what stands between two neighbours -/
structure Mid (U f h : List α) : Prop where
  nd : f.Nodup
  sub : ∀ x ∈ f, x ∈ U
  le : h.length ≤ f.length
theorem Mid.push {U f h : List α} {y : α} (m : Mid U f h) (hy : y ∈ U) : Mid U (push1 (f, h) y).1 (push1 (f, h) y).2 := by
  unfold push1
  split
  · exact m
  · rename_i hn
    refine ⟨?_, fun x hx => ?_, by simp; exact m.le⟩
    · show (f ++ [y]).Nodup
      rw [List.nodup_append]
      refine ⟨m.nd, by simp, fun x hx z hz => ?_⟩
      simp at hz
      subst hz
      exact fun e => hn (e ▸ hx)
    · rcases List.mem_append.mp hx with e | e
      · exact m.sub x e
      · simp at e; subst e; exact hy
theorem push_eq {e : α → PyData} {t : Bool} (E : Enc e t) {f h : List α} {y : α} : (y ∈ f ∧ push1 (f, h) y = (f, h) ∧ hasK (f.map e) (e y) = true) ∨ (y ∉ f ∧ push1 (f, h) y = (f ++ [y], h ++ [y]) ∧ hasK (f.map e) (e y) = false ∧ addK (f.map e) (e y) = (f ++ [y]).map e) := by
  by_cases hm : y ∈ f
  · exact .inl ⟨hm, by unfold push1; rw [if_pos hm], by rw [E.has]; simpa using hm⟩
  · exact .inr ⟨hm, by unfold push1; rw [if_neg hm], by rw [E.has]; simpa using hm, E.add f y hm⟩
/-! ### lots_of -/
section
variable {e : α → PyData} {t : Bool} {leads : α → List α} {U : List α} {F : PyData → Option PyData} {x0 : PyData} {left found : List PyData}
def layL (e : α → PyData) (t : Bool) (F : PyData → Option PyData) (x0 : PyData) (left found : List PyData) (U f h : List α) (w6 : SV) (ρ : List SV) : Prop :=
  ∃ w7, nbr w7 ∧ ρ = [.d x0, .fn F, .ls left, .ls found, .dc t (f.map e), .ls (h.map e), w6, w7] ∧ Mid U f h
theorem lots_turn2 (E : Enc e t) (hU : U.length ≤ sizeLine) {s : List α × List α} {y : α} {w6 : SV} {ρ : List SV} (hy : y ∈ U) (l : layL e t F x0 left found U s.1 s.2 w6 ρ) : ∃ ρ1 ρ', gN 7 (e y) ρ = some ρ1 ∧ L_lots_of_2 ρ1 = .ok .nx ρ' ∧ layL e t F x0 left found U (push1 s y).1 (push1 s y).2 w6 ρ' := by
  obtain ⟨f, h⟩ := s
  obtain ⟨w7, h7, rfl, m⟩ := l
  have m' := m.push hy
  refine ⟨[.d x0, .fn F, .ls left, .ls found, .dc t (f.map e), .ls (h.map e), w6, .d (e y)], ?_⟩
  have eg : gN 7 (e y) [.d x0, .fn F, .ls left, .ls found, .dc t (f.map e), .ls (h.map e), w6, w7] = some [.d x0, .fn F, .ls left, .ls found, .dc t (f.map e), .ls (h.map e), w6, .d (e y)] := setO_of (u := w7) rfl h7
  have et : (tstM (inN true (getD 7) 4)) [.d x0, .fn F, .ls left, .ls found, .dc t (f.map e), .ls (h.map e), w6, .d (e y)] = .ok (!hasK (f.map e) (e y)) [.d x0, .fn F, .ls left, .ls found, .dc t (f.map e), .ls (h.map e), w6, .d (e y)] := by
    have : (inN true (getD 7) 4) [.d x0, .fn F, .ls left, .ls found, .dc t (f.map e), .ls (h.map e), w6, .d (e y)] = (gM (keyT t (e y) = true) (ret (.d (.bool (inB true (hasK (f.map e) (e y))))))) [.d x0, .fn F, .ls left, .ls found, .dc t (f.map e), .ls (h.map e), w6, .d (e y)] := rfl
    rw [tstM_ap, this, gM_ap, if_pos (E.key y)]; rfl
  rcases push_eq E (f := f) (h := h) (y := y) with ⟨hm, ep, hk⟩ | ⟨hm, ep, hk, ha⟩
  · refine ⟨[.d x0, .fn F, .ls left, .ls found, .dc t (f.map e), .ls (h.map e), w6, .d (e y)], eg, ?_, .d (e y), nbr_d _, by rw [ep], m'⟩
    unfold L_lots_of_2
    rw [ifM_ap, et, hk]; rfl
  · have hr := room_new m.nd m.sub hy hm hU
    refine ⟨[.d x0, .fn F, .ls left, .ls found, .dc t ((f ++ [y]).map e), .ls ((h ++ [y]).map e), w6, .d (e y)], eg, ?_, .d (e y), nbr_d _, by rw [ep], m'⟩
    unfold L_lots_of_2
    rw [ifM_ap, et, hk, rb_ok]
    show (seqM (stoM 4 (getD 7) (ret (.bool true))) (dropM (appM 5 (getD 7)))) [.d x0, .fn F, .ls left, .ls found, .dc t (f.map e), .ls (h.map e), w6, .d (e y)] = _
    have es : stoI 4 (e y) (.bool true) [.d x0, .fn F, .ls left, .ls found, .dc t (f.map e), .ls (h.map e), w6, .d (e y)] = .ok () [.d x0, .fn F, .ls left, .ls found, .dc t ((f ++ [y]).map e), .ls (h.map e), w6, .d (e y)] := by
      have : stoW (e y) (.bool true) (.dc t (f.map e)) = some (.dc t (addK (f.map e) (e y))) := if_pos ⟨E.key y, by rw [List.length_map]; exact hr⟩
      unfold stoI
      simp only [List.getElem?_cons_succ, List.getElem?_cons_zero, this, ha]; rfl
    have ea : mutM 5 (appF (e y)) [.d x0, .fn F, .ls left, .ls found, .dc t ((f ++ [y]).map e), .ls (h.map e), w6, .d (e y)] = .ok (.d .none) [.d x0, .fn F, .ls left, .ls found, .dc t ((f ++ [y]).map e), .ls ((h ++ [y]).map e), w6, .d (e y)] := by
      have hl : h.length < sizeLine := Nat.lt_of_le_of_lt m.le hr
      rw [mutM_of (w := .ls (h.map e)) rfl rfl (show appF (e y) (h.map e) = some (.d .none, h.map e ++ [e y]) from if_pos (by rw [List.length_map]; exact hl)), show (h ++ [y]).map e = h.map e ++ [e y] from by simp]; rfl
    rw [seqM_ap, stoM_ap]
    show ((stoI 4 (e y) (.bool true) [.d x0, .fn F, .ls left, .ls found, .dc t (f.map e), .ls (h.map e), w6, .d (e y)]).bind (fun _ => ret Fl.nx)).bind _ = _
    rw [es]
    show (mutM 5 (appF (e y)) [.d x0, .fn F, .ls left, .ls found, .dc t ((f ++ [y]).map e), .ls (h.map e), w6, .d (e y)]).bind _ = _
    rw [ea]; rfl
theorem lots_turn1 (E : Enc e t) (hU : U.length ≤ sizeLine) (hc : ∀ x ∈ U, ∀ y ∈ leads x, y ∈ U) (hF : ∀ x ∈ U, F (e x) = some (.list ((leads x).map e))) {a : α} {f h : List α} {one : α} {ρ : List SV} (i : Pm.Inv leads a U f (h ++ [one])) (l : ∃ w6, nbr w6 ∧ layL e t F x0 left found U f (h ++ [one]) w6 ρ) :
    ∃ ρ', L_lots_of_1 ρ = .ok .nx ρ' ∧ ∃ w6, nbr w6 ∧ layL e t F x0 left found U (visit (f, h) (leads one)).1 (visit (f, h) (leads one)).2 w6 ρ' := by
  obtain ⟨w6, h6, w7, h7, rfl, m⟩ := l
  have h1 : one ∈ U := i.sub one (i.hin one (by simp))
  have m0 : Mid U f h := ⟨m.nd, m.sub, by have := m.le; simp at this; omega⟩
  obtain ⟨ρ', e1, r⟩ := for_fold (g := gN 7) (body := L_lots_of_2) (enc := e) (step := push1) (P := fun y => y ∈ U) (R := fun s ρ => layL e t F x0 left found U s.1 s.2 (.d (e one)) ρ)
    (fun s y ρ hy l => lots_turn2 E hU hy l) (leads one) (f, h) [.d x0, .fn F, .ls left, .ls found, .dc t (f.map e), .ls (h.map e), .d (e one), w7] (fun y hy => hc one h1 y hy) ⟨w7, h7, rfl, m0⟩
  refine ⟨ρ', ?_, .d (e one), nbr_d _, r⟩
  unfold L_lots_of_1
  rw [seqM_ap, setM_ap, popM_ap, mutM_of (w := .ls ((h ++ [one]).map e)) rfl rfl pop_last, rb_ok]
  show ((setS 6 (.d (e one)) [.d x0, .fn F, .ls left, .ls found, .dc t (f.map e), .ls (h.map e), w6, w7]).bind fun _ => ret Fl.nx).bind _ = _
  rw [setS_of (u := w6) rfl h6]
  show (forS (seqI (callF 1 (consM (getD 6) (ret [])))) (gN 7) L_lots_of_2) [.d x0, .fn F, .ls left, .ls found, .dc t (f.map e), .ls (h.map e), .d (e one), w7] = _
  have ec : (seqI (callF 1 (consM (getD 6) (ret [])))) [.d x0, .fn F, .ls left, .ls found, .dc t (f.map e), .ls (h.map e), .d (e one), w7] = .ok ((leads one).map e) [.d x0, .fn F, .ls left, .ls found, .dc t (f.map e), .ls (h.map e), .d (e one), w7] := by
    show ((ofO (F (e one)) [.d x0, .fn F, .ls left, .ls found, .dc t (f.map e), .ls (h.map e), .d (e one), w7]).bind fun x => ofO (seqO x)) = _
    rw [hF one h1]; rfl
  rw [forS_ap, ec, rb_ok, e1]
/-- the search for one lot -/
theorem lots_while (E : Enc e t) (hU : U.length ≤ sizeLine) (hc : ∀ x ∈ U, ∀ y ∈ leads x, y ∈ U) (hF : ∀ x ∈ U, F (e x) = some (.list ((leads x).map e))) {a : α} (ha : a ∈ U) {lot : List α} {w6 w7 : SV} (h6 : nbr w6) (h7 : nbr w7) (ed : dfs leads 20000000 ([a], [a]) = some lot) :
    ∃ w6' w7', nbr w6' ∧ nbr w7' ∧ whileM C_lots_of_1 L_lots_of_1 20000000 [.d x0, .fn F, .ls left, .ls found, .dc t [e a], .ls [e a], w6, w7] = .ok .nx [.d x0, .fn F, .ls left, .ls found, .dc t (lot.map e), .ls [], w6', w7'] := by
  obtain ⟨ρ', e1, w6', h6', w7', h7', rfl, m⟩ := while_dfs (a := a) hc (C := C_lots_of_1) (L := L_lots_of_1) (Lay := fun f h ρ => ∃ w6, nbr w6 ∧ layL e t F x0 left found U f h w6 ρ) (fun f h ρ ⟨w6, h6, w7, h7, er, m⟩ => by
      subst er
      unfold C_lots_of_1
      rw [truM_ap, peek_of (w := .ls (h.map e)) (x := .list (h.map e)) rfl rfl, rb_ok]
      have : truO (.list (h.map e)) = some (!h.isEmpty) := by show some (!(h.map e).isEmpty) = _; rw [List.isEmpty_map]
      rw [this]; rfl) (fun f h one ρ i l => lots_turn1 E hU hc hF i l) 20000000 [a] [a] _ lot (.start ha) ⟨w6, h6, w7, h7, rfl, ⟨by simp, by simpa using ha, Nat.le_refl _⟩⟩ ed
  exact ⟨w6', w7', h6', h7', e1⟩
end
end
end Nb

set_option Elab.async false
set_option linter.all false
set_option maxRecDepth 100000
set_option maxHeartbeats 4000000
namespace Nb
open PySem PySem.Spec L2 PyProof.Rows Pm
section
variable {α : Type} [DecidableEq α] {e : α → PyData} {t : Bool} {leads : α → List α} {U : List α} {F : PyData → Option PyData} {x0 : PyData}
def lotD (e : α → PyData) (lot : List α) : PyData := .tuple (sortD (lot.map e))
theorem nbr_isBr {w : SV} (h : nbr w) : isBr (some w) = false := by cases w <;> first | rfl | exact absurd rfl (h _)
theorem small_sz : 1000 ≤ sizeLine := by decide
theorem lots_outer (E : Enc e t) (hU : U.length ≤ sizeLine) (hc : ∀ x ∈ U, ∀ y ∈ leads x, y ∈ U) (hF : ∀ x ∈ U, F (e x) = some (.list ((leads x).map e))) (hs : ∀ l : List α, (∀ x ∈ l, x ∈ U) → srtN (l.map e) = true) (hN : U.length < 20000000) :
    ∀ (n : Nat) (left : List α) (acc L : List (List α)) (w4 w5 w6 w7 : SV), nbr w4 → nbr w5 → nbr w6 → nbr w7 → (∀ x ∈ left, x ∈ U) → acc.length + left.length ≤ 1000 → lotsF leads 20000000 n left acc = some L →
      ∃ u4 u5 u6 u7, whileM C_lots_of_0 L_lots_of_0 n [.d x0, .fn F, .ls (left.map e), .ls (acc.map (lotD e)), w4, w5, w6, w7] = .ok .nx [.d x0, .fn F, .ls [], .ls (L.map (lotD e)), u4, u5, u6, u7]
  | 0, _, _, _, _, _, _, _, _, _, _, _, _, _, z => by cases z
  | n + 1, left, acc, L, w4, w5, w6, w7, h4, h5, h6, h7, hl, hz, z => by
    have eC : ∀ (left : List α) (w4 : SV), C_lots_of_0 [.d x0, .fn F, .ls (left.map e), .ls (acc.map (lotD e)), w4, w5, w6, w7] = .ok (!left.isEmpty) [.d x0, .fn F, .ls (left.map e), .ls (acc.map (lotD e)), w4, w5, w6, w7] := fun left w4 => by
      unfold C_lots_of_0
      rw [truM_ap, peek_of (w := .ls (left.map e)) (x := .list (left.map e)) rfl rfl, rb_ok]
      have : truO (.list (left.map e)) = some (!left.isEmpty) := by show some (!(left.map e).isEmpty) = _; rw [List.isEmpty_map]
      rw [this]; rfl
    have e00 : ∀ ρ, whileM C_lots_of_0 L_lots_of_0 (n + 1) ρ = (C_lots_of_0 ρ).bind fun b => if b then loopM L_lots_of_0 (whileM C_lots_of_0 L_lots_of_0 n) else ret .nx := fun ρ => rfl
    cases left with
    | nil =>
      unfold lotsF at z
      cases z
      refine ⟨w4, w5, w6, w7, ?_⟩
      rw [e00, eC]; rfl
    | cons x r =>
      unfold lotsF at z
      have hx : x ∈ U := hl x List.mem_cons_self
      obtain ⟨lot, ed, nd, mem, sub⟩ := dfs_ok hc hx hN
      simp only [ed] at z
      obtain ⟨w6', w7', k6, k7, ew⟩ := lots_while (x0 := x0) (left := (x :: r).map e) (found := acc.map (lotD e)) E hU hc hF hx h6 h7 ed
      have hxl : x ∈ lot := (mem x).mpr .refl
      have lf : ((x :: r).filter fun y => decide (y ∉ lot)).length ≤ r.length := by
        rw [List.filter_cons_of_neg (by simpa using hxl)]
        exact List.length_filter_le _ _
      obtain ⟨v4, v5, v6, v7, er⟩ := lots_outer E hU hc hF hs hN n ((x :: r).filter fun y => decide (y ∉ lot)) (acc ++ [lot]) L (.dc t (lot.map e)) (.ls []) .un w7' (nbr_dc _ _) (nbr_ls _) nbr_un k7
        (fun y hy => hl y (List.mem_filter.mp hy).1) (by simp only [List.length_append, List.length_cons, List.length_nil] at *; omega) z
      refine ⟨v4, v5, v6, v7, ?_⟩
      rw [e00, eC, rb_ok]
      show (L_lots_of_0 _).bind _ = _
      -- the turn
      have e1 : (parM 4 5 (disp1M (toD (binP idxM 2 (ret (.int 0)))) (ret (.bool true))) (lstM (consM (toD (binP idxM 2 (ret (.int 0)))) (ret [])))) [.d x0, .fn F, .ls ((x :: r).map e), .ls (acc.map (lotD e)), w4, w5, w6, w7] = .ok .nx [.d x0, .fn F, .ls ((x :: r).map e), .ls (acc.map (lotD e)), .dc t [e x], .ls [e x], w6, w7] := by
        have ei : ∀ w4 w5, (binP idxM 2 (ret (.int 0))) [.d x0, .fn F, .ls ((x :: r).map e), .ls (acc.map (lotD e)), w4, w5, w6, w7] = .ok (.d (e x)) [.d x0, .fn F, .ls ((x :: r).map e), .ls (acc.map (lotD e)), w4, w5, w6, w7] := fun w4 w5 => idx_lst (xs := (x :: r).map e) (i := 0) rfl _
        have ed1 : (disp1M (toD (binP idxM 2 (ret (.int 0)))) (ret (.bool true))) [.d x0, .fn F, .ls ((x :: r).map e), .ls (acc.map (lotD e)), w4, w5, w6, w7] = .ok (.dc t [e x]) [.d x0, .fn F, .ls ((x :: r).map e), .ls (acc.map (lotD e)), w4, w5, w6, w7] := by
          show ((toD (binP idxM 2 (ret (.int 0)))) _).bind _ = _
          rw [toD_ap, ei]
          show (gM (keyT (isT (e x)) (e x) = true) (ret (SV.dc (isT (e x)) [e x]))) _ = _
          rw [gM_ap, E.isT, if_pos (E.key x)]; rfl
        rw [parM_ap, ed1, rb_ok, lstM_ap, consM_ap, toD_ap, ei]
        show ((fits [e x] (ret (SV.ls [e x]))) _).bind _ = _
        rw [fits_ap, if_pos (show ([e x] : List PyData).length ≤ sizeLine from (show 1 ≤ sizeLine by decide))]
        show (setS 4 (.dc t [e x]) _).bind _ = _
        rw [setS_of (u := w4) rfl h4, rb_ok]
        show (setS 5 (.ls [e x]) _).bind _ = _
        rw [setS_of (u := w5) rfl h5]; rfl
      have e2 : (dropM (appM 3 (toD (M.bind (toD (slotM 4 srtS)) tupcM)))) [.d x0, .fn F, .ls ((x :: r).map e), .ls (acc.map (lotD e)), .dc t (lot.map e), .ls [], w6', w7'] = .ok .nx [.d x0, .fn F, .ls ((x :: r).map e), .ls ((acc ++ [lot]).map (lotD e)), .dc t (lot.map e), .ls [], w6', w7'] := by
        have es : (slotM 4 srtS) [.d x0, .fn F, .ls ((x :: r).map e), .ls (acc.map (lotD e)), .dc t (lot.map e), .ls [], w6', w7'] = .ok (.ls (sortD (lot.map e))) [.d x0, .fn F, .ls ((x :: r).map e), .ls (acc.map (lotD e)), .dc t (lot.map e), .ls [], w6', w7'] := by
          show (gM (srtN (lot.map e) = true) (ret (SV.ls (sortD (lot.map e))))) _ = _
          rw [gM_ap, if_pos (hs lot sub)]; rfl
        rw [dropM_ap, appM_ap, hasL_of (w := .ls (acc.map (lotD e))) rfl rfl, rb_ok, toD_ap, bind_ap, toD_ap, es]
        have et : ∀ (ys : List PyData) (ρ : List SV), tupcM (.list ys) ρ = .ok (.d (.tuple ys)) ρ := fun _ _ => rfl
        simp only [rb_ok, toDO_ls, ofO_some, et, toDO_d]
        rw [show PyData.tuple (sortD (lot.map e)) = lotD e lot from rfl]
        rw [mutM_of (w := .ls (acc.map (lotD e))) rfl rfl (show appF (lotD e lot) (acc.map (lotD e)) = some (.d .none, acc.map (lotD e) ++ [lotD e lot]) from if_pos (by rw [List.length_map]; exact Nat.lt_of_lt_of_le (by simp only [List.length_cons] at hz; omega) small_sz)),
          show (acc ++ [lot]).map (lotD e) = acc.map (lotD e) ++ [lotD e lot] from by simp]; rfl
      have e3 : (setM 2 (lcM [6] (seqI (getD 2)) (gN 6) (tstM (inN true (getD 6) 4)) (getD 6))) [.d x0, .fn F, .ls ((x :: r).map e), .ls ((acc ++ [lot]).map (lotD e)), .dc t (lot.map e), .ls [], w6', w7'] = .ok .nx [.d x0, .fn F, .ls (((x :: r).filter fun y => decide (y ∉ lot)).map e), .ls ((acc ++ [lot]).map (lotD e)), .dc t (lot.map e), .ls [], .un, w7'] := by
        have hp : ∀ y : α, (!hasK (lot.map e) (e y)) = decide (y ∉ lot) := fun y => by rw [E.has]; simp
        have el := lcM_filter (vs := [6]) (it := seqI (getD 2)) (g := gN 6) (tt := tstM (inN true (getD 6) 4)) (te := getD 6) (p := fun d => !hasK (lot.map e) d) (f := fun d => d)
          (ρ := [.d x0, .fn F, .ls ((x :: r).map e), .ls ((acc ++ [lot]).map (lotD e)), .dc t (lot.map e), .ls [], w6', w7']) (ρ' := [.d x0, .fn F, .d (.list ((x :: r).map e)), .ls ((acc ++ [lot]).map (lotD e)), .dc t (lot.map e), .ls [], w6', w7'])
          (ρ1 := [.d x0, .fn F, .d (.list ((x :: r).map e)), .ls ((acc ++ [lot]).map (lotD e)), .dc t (lot.map e), .ls [], .un, w7']) (xs := (x :: r).map e) rfl (by
            show (if [6].any (fun i => isBr ([SV.d x0, .fn F, .d (.list ((x :: r).map e)), .ls ((acc ++ [lot]).map (lotD e)), .dc t (lot.map e), .ls [], w6', w7'])[i]?) then none else some _) = _
            rw [show [6].any (fun i => isBr ([SV.d x0, .fn F, .d (.list ((x :: r).map e)), .ls ((acc ++ [lot]).map (lotD e)), .dc t (lot.map e), .ls [], w6', w7'])[i]?) = false from by
              show (isBr (some w6') || false) = false
              rw [nbr_isBr k6]; rfl]
            rfl) (by rw [List.length_map]; exact Nat.le_trans (by simp only [List.length_cons] at hz ⊢; omega) small_sz) fun d hd => by
            obtain ⟨y, hy, rfl⟩ := List.mem_map.mp hd
            refine ⟨[.d x0, .fn F, .d (.list ((x :: r).map e)), .ls ((acc ++ [lot]).map (lotD e)), .dc t (lot.map e), .ls [], .d (e y), w7'], rfl, ?_, rfl, rfl⟩
            have : (inN true (getD 6) 4) [.d x0, .fn F, .d (.list ((x :: r).map e)), .ls ((acc ++ [lot]).map (lotD e)), .dc t (lot.map e), .ls [], .d (e y), w7'] = (gM (keyT t (e y) = true) (ret (.d (.bool (inB true (hasK (lot.map e) (e y))))))) [.d x0, .fn F, .d (.list ((x :: r).map e)), .ls ((acc ++ [lot]).map (lotD e)), .dc t (lot.map e), .ls [], .d (e y), w7'] := rfl
            rw [tstM_ap, this, gM_ap, if_pos (E.key y)]; rfl
        have eq : ((((x :: r).map e).filter fun d => !hasK (lot.map e) d).map fun d => d) = ((x :: r).filter fun y => decide (y ∉ lot)).map e := by
          rw [List.map_id', List.filter_map]
          congr 1
          exact List.filter_congr fun y _ => hp y
        rw [eq] at el
        rw [setM_ap, el, rb_ok]
        show (setS 2 _ _).bind _ = _
        rw [setS_of (u := .d (.list ((x :: r).map e))) rfl (nbr_d _)]; rfl
      have e0 : L_lots_of_0 [.d x0, .fn F, .ls ((x :: r).map e), .ls (acc.map (lotD e)), w4, w5, w6, w7] = .ok .nx [.d x0, .fn F, .ls (((x :: r).filter fun y => decide (y ∉ lot)).map e), .ls ((acc ++ [lot]).map (lotD e)), .dc t (lot.map e), .ls [], .un, w7'] := by
        unfold L_lots_of_0
        rw [seqM_ap, e1, rb_ok]
        show (seqM (whileM C_lots_of_1 L_lots_of_1 20000000) _) _ = _
        rw [seqM_ap, ew, rb_ok]
        show (seqM (dropM (appM 3 (toD (M.bind (toD (slotM 4 srtS)) tupcM)))) _) _ = _
        rw [seqM_ap, e2, rb_ok]
        exact e3
      rw [e0, rb_ok]
      exact er
theorem lots_of_ok (E : Enc e t) (hU : U.length ≤ sizeLine) (hc : ∀ x ∈ U, ∀ y ∈ leads x, y ∈ U) (hF : ∀ x ∈ U, F (e x) = some (.list ((leads x).map e))) (hs : ∀ l : List α, (∀ x ∈ l, x ∈ U) → srtN (l.map e) = true) (hN : U.length < 20000000)
    {things : List α} {L : List (List α)} (ht : ∀ x ∈ things, x ∈ U) (hz : things.length ≤ 1000) (el : lotsF leads 20000000 20000000 things [] = some L) (hs2 : srtN (L.map (lotD e)) = true) :
    ∃ ρ', bodyM 2 8 B_lots_of [.d (.list (things.map e)), .fn F] = .ok (.ls (sortD (L.map (lotD e)))) ρ' := by
  obtain ⟨w4, w5, w6, w7, ew⟩ := lots_outer (x0 := .list (things.map e)) E hU hc hF hs hN 20000000 things [] L .un .un .un .un nbr_un nbr_un nbr_un nbr_un ht (by simpa using hz) el
  refine ⟨_, bodyM_of (ρ' := [.d (.list (things.map e)), .fn F, .ls [], .ls (L.map (lotD e)), w4, w5, w6, w7]) rfl ?_⟩
  show B_lots_of [.d (.list (things.map e)), .fn F, .un, .un, .un, .un, .un, .un] = _
  unfold B_lots_of
  rw [seqM_ap]
  show (seqM (whileM C_lots_of_0 L_lots_of_0 20000000) (retM (slotM 3 srtS))) [.d (.list (things.map e)), .fn F, .ls (things.map e), .ls ([].map (lotD e)), .un, .un, .un, .un] = _
  rw [seqM_ap, ew, rb_ok]
  show (retM (slotM 3 srtS)) [.d (.list (things.map e)), .fn F, .ls [], .ls (L.map (lotD e)), w4, w5, w6, w7] = _
  rw [retM_ap]
  show ((gM (srtN (L.map (lotD e)) = true) (ret (SV.ls (sortD (L.map (lotD e)))))) _).bind _ = _
  rw [gM_ap, if_pos hs2]; rfl
end
end Nb

set_option Elab.async false
set_option linter.all false
set_option maxRecDepth 100000
set_option maxHeartbeats 4000000
namespace Nb
open PySem PySem.Spec L2 PyProof.Rows Pm
def itemD (i : Nat) : PyData → PyData
  | .tuple ys => ys.getD i .none
  | _ => .none
theorem item_trD {g : List Nat} {i : Nat} (h : i < g.length) : itemD i (trD g) = nuD (g.getD i 0) := by
  show (g.map fun n => PyData.int (n : Nat)).getD i .none = _
  rw [List.getD_eq_getElem?_getD, at_trD h]; rfl
theorem callLam_of {N i : Nat} {B : M Fl} {te : M PyData} {vs : List Nat} {fe : M PyData} {ρ ρ1 ρ'' : List SV} {x : PyData} {xs : List PyData} (hf : fe ρ = .ok x ρ1) (hB : bodyM 2 N B [.d x, .fn (lamF te vs i ρ1)] = .ok (.ls xs) ρ'') : callLamM N B te vs i fe ρ = .ok (.ls xs) ρ1 := by
  unfold callLamM
  rw [bind_ap, hf, rb_ok, hB]
theorem house_at0 {n : Nat} {gens : List (List Nat)} {ρ : List SV} {i : Nat} (h : ρ[i]? = some (.d (hoD n gens))) : (binP idxM i (ret (.int 0))) ρ = .ok (.d (nuD n)) ρ := by
  rw [binP_ap, peek_of h rfl, rb_ok, ret_ap, rb_ok, peek_of h rfl, rb_ok]
  exact idx_tup (xs := [nuD n, .tuple (gens.map trD)]) (i := 0) rfl ρ
theorem house_at1 {n : Nat} {gens : List (List Nat)} {ρ : List SV} {i : Nat} (h : ρ[i]? = some (.d (hoD n gens))) : (binP idxM i (ret (.int 1))) ρ = .ok (.d (.tuple (gens.map trD))) ρ := by
  rw [binP_ap, peek_of h rfl, rb_ok, ret_ap, rb_ok, peek_of h rfl, rb_ok]
  exact idx_tup (xs := [nuD n, .tuple (gens.map trD)]) (i := 1) rfl ρ
theorem gens_at {n : Nat} {gens : List (List Nat)} {ρ : List SV} {i : Nat} (h : ρ[i]? = some (.d (hoD n gens))) : (seqI (toD (binP idxM i (ret (.int 1))))) ρ = .ok (gens.map trD) ρ := by
  rw [seqI_ap, toD_ap, house_at1 h]; rfl
theorem small_gens {gens : List (List Nat)} (h : gens.length ≤ 6) : (gens.map trD).length ≤ sizeLine := by rw [List.length_map]; exact Nat.le_trans h (by decide)
/-! sorting: all of these sort -/
theorem homo_nuD (l : List Nat) : (l.map nuD).all (homo 0) = true := by rw [List.all_map]; exact List.all_eq_true.mpr fun _ _ => rfl
theorem homo_trD (t : List Nat) : homo 1 (trD t) = true := by
  show (t.map fun n => PyData.int (n : Nat)).all (homo 0) = true
  exact homo_nuD t
theorem srt_nuD (l : List Nat) : srtN (l.map nuD) = true := by
  unfold srtN srtOk
  rw [homo_nuD]; rfl
theorem srt_trD {l : List (List Nat)} (h : ∀ t ∈ l, t ≠ []) : srtN (l.map trD) = true := by
  have h1 : (l.map trD).all (homo 1) = true := by rw [List.all_map]; exact List.all_eq_true.mpr fun t _ => homo_trD t
  have h2 : (l.map trD).all nonE = true := by
    rw [List.all_map]
    refine List.all_eq_true.mpr fun t ht => ?_
    cases t with
    | nil => exact absurd rfl (h _ ht)
    | cons x t => rfl
  unfold srtN srtOk
  simp [h1, h2]
theorem all_sortD {p : PyData → Bool} {l : List PyData} (h : l.all p = true) : (sortD l).all p = true := List.all_eq_true.mpr fun x hx => List.all_eq_true.mp h x ((isort_mem ltD x l).mp hx)
theorem sortD_ne {l : List PyData} (h : l ≠ []) : sortD l ≠ [] := fun e => h (by
  have := isort_len ltD l
  unfold sortD at e
  rw [e] at this
  exact List.length_eq_zero_iff.mp this.symm)
theorem nonE_lot {l : List PyData} (h : l ≠ []) : nonE (.tuple (sortD l)) = true := by
  have := sortD_ne h
  cases e : sortD l with
  | nil => exact absurd e this
  | cons x r => rfl
theorem srt_lots_nu {L : List (List Nat)} (h : ∀ l ∈ L, l ≠ []) : srtN (L.map (lotD nuD)) = true := by
  have h1 : (L.map (lotD nuD)).all (homo 1) = true := by rw [List.all_map]; exact List.all_eq_true.mpr fun l _ => all_sortD (homo_nuD l)
  have h2 : (L.map (lotD nuD)).all nonE = true := by rw [List.all_map]; exact List.all_eq_true.mpr fun l hl => nonE_lot (by simpa using h l hl)
  unfold srtN srtOk
  simp [h1, h2]
theorem srt_lots_tr {L : List (List (List Nat))} (h : ∀ l ∈ L, l ≠ []) : srtN (L.map (lotD trD)) = true := by
  have h1 : (L.map (lotD trD)).all (homo 2) = true := by
    rw [List.all_map]
    refine List.all_eq_true.mpr fun l _ => ?_
    show (sortD (l.map trD)).all (homo 1) = true
    exact all_sortD (by rw [List.all_map]; exact List.all_eq_true.mpr fun t _ => homo_trD t)
  have h2 : (L.map (lotD trD)).all nonE = true := by rw [List.all_map]; exact List.all_eq_true.mpr fun l hl => nonE_lot (by simpa using h l hl)
  unfold srtN srtOk
  simp [h1, h2]
theorem LotsOk.ne {α : Type} [DecidableEq α] {leads : α → List α} {things : List α} {L : List (List α)} (h : LotsOk leads things L) : ∀ l ∈ L, l ≠ [] := fun l hl e => by
  obtain ⟨_, x, _, mx⟩ := h.lot l hl
  have := (mx x).mpr .refl
  rw [e] at this
  cases this
/-! parts -/
section
variable {n : Nat} {gens : List (List Nat)}
theorem lots_halls (H : IsH n gens) : ∃ L, lotsF (leadsH gens) 20000000 20000000 (List.range n) [] = some L ∧ LotsOk (leadsH gens) (List.range n) L :=
  lots_ok (U := List.range n) (leadsH_lt H.gt) (fun _ h => h) (fun x hx y r => hall_sym H.gt hx r) (by rw [List.length_range]; have := H.n8; omega) (by rw [List.length_range]; have := H.n8; omega)
theorem lrg_at {n i : Nat} {gens : List (List Nat)} {ρ : List SV} (hn : n ≤ 1000) (h : ρ[i]? = some (.d (hoD n gens))) : (toD (M.bind (toD (binP idxM i (ret (.int 0)))) lrgM)) ρ = .ok (.list ((List.range n).map nuD)) ρ := by
  have e : lrgM (nuD n) ρ = .ok (.ls ((List.range n).map nuD)) ρ := lrg_ok hn ρ
  rw [toD_ap, bind_ap, toD_ap, house_at0 h, rb_ok, toDO_d, ofO_some, rb_ok, e, rb_ok, toDO_ls, ofO_some]
abbrev teP : M PyData := toD (lcM [2] (seqI (toD (binP idxM 0 (ret (.int 1))))) (gN 2) yesM (toD (binP idxM 2 (getD 1))))
theorem lam_parts (H : IsH n gens) : ∀ x ∈ List.range n, lamF teP [1] 1 [.d (hoD n gens), .un, .un] (nuD x) = some (.list ((leadsH gens x).map nuD)) := fun x hx => by
  have hx' := List.mem_range.mp hx
  have el := lcM_map (vs := [2]) (it := seqI (toD (binP idxM 0 (ret (.int 1))))) (g := gN 2) (te := toD (binP idxM 2 (getD 1))) (f := itemD x) (ρ := [.d (hoD n gens), .d (nuD x), .un]) (ρ' := [.d (hoD n gens), .d (nuD x), .un]) (ρ1 := [.d (hoD n gens), .d (nuD x), .un])
    (xs := gens.map trD) (gens_at rfl) rfl (small_gens H.g6) fun d hd => by
    obtain ⟨g, hg, rfl⟩ := List.mem_map.mp hd
    have hl : x < g.length := by rw [(H.gt g hg).len]; exact hx'
    refine ⟨[.d (hoD n gens), .d (nuD x), .d (trD g)], rfl, ?_, rfl⟩
    have : (binP idxM 2 (getD 1)) [.d (hoD n gens), .d (nuD x), .d (trD g)] = .ok (.d (nuD (g.getD x 0))) [.d (hoD n gens), .d (nuD x), .d (trD g)] := idx_tup (xs := g.map fun n => PyData.int (n : Nat)) (i := x) (at_trD hl) _
    rw [toD_ap, this, item_trD hl]; rfl
  have em : (gens.map trD).map (itemD x) = (leadsH gens x).map nuD := by
    unfold leadsH
    rw [List.map_map, List.map_map]
    exact List.map_congr_left fun g hg => item_trD (by rw [(H.gt g hg).len]; exact hx')
  rw [em] at el
  have et : teP [.d (hoD n gens), .d (nuD x), .un] = .ok (.list ((leadsH gens x).map nuD)) (unAll [2] [.d (hoD n gens), .d (nuD x), .un]) := by
    unfold teP
    rw [toD_ap, el]; rfl
  unfold lamF
  rw [show (frzR [1] [.d (hoD n gens), .un, .un]).set 1 (.d (nuD x)) = [.d (hoD n gens), .d (nuD x), .un] from rfl, et]
theorem parts_of_ok (H : IsH n gens) {L : List (List Nat)} (el : lotsF (leadsH gens) 20000000 20000000 (List.range n) [] = some L) (hL : LotsOk (leadsH gens) (List.range n) L) : ∃ ρ', F_parts_of [.d (hoD n gens)] = .ok (.ls (sortD (L.map (lotD nuD)))) ρ' := by
  have n8 := H.n8
  have l0 : (List.range n).length ≤ 8 := by rw [List.length_range]; exact n8
  obtain ⟨ρ', eb⟩ := lots_of_ok (U := List.range n) (F := lamF teP [1] 1 [.d (hoD n gens), .un, .un]) enc_nuD (Nat.le_trans l0 (by decide)) (leadsH_lt H.gt) (lam_parts H)
    (fun l _ => srt_nuD l) (Nat.lt_of_le_of_lt l0 (by decide)) (fun _ h => h) (Nat.le_trans l0 (by decide)) el (srt_lots_nu (LotsOk.ne hL))
  have hfe := lrg_at (n := n) (i := 0) (gens := gens) (ρ := [.d (hoD n gens), .un, .un]) (by omega) rfl
  have e : B_parts_of [.d (hoD n gens), .un, .un] = .ok (.rt (.ls (sortD (L.map (lotD nuD))))) [.d (hoD n gens), .un, .un] := by
    unfold B_parts_of
    rw [retM_ap, callLam_of hfe eb, rb_ok, ret_ap]
  exact ⟨_, bodyM_of rfl e⟩
end
end Nb

set_option Elab.async false
set_option linter.all false
set_option maxRecDepth 100000
set_option maxHeartbeats 4000000
namespace Nb
open PySem PySem.Spec L2 PyProof.Rows Pm
theorem lc2_map {vs vs1 : List Nat} {g : AG} {it1 : M (List PyData)} {g1 : AG} {te : M PyData} {ρ : List SV} {F : PyData → List PyData} : ∀ (xs acc : List PyData), acc.length + (xs.flatMap F).length ≤ sizeLine →
    (∀ x ∈ xs, ∃ (ρ1 ρ4 : List SV) (xs1 : List PyData) (f : PyData → PyData), g x ρ = some ρ1 ∧ it1 ρ1 = .ok xs1 ρ1 ∧ wipeR vs1 ρ1 = some ρ4 ∧ (∀ y ∈ xs1, ∃ ρ5, g1 y ρ4 = some ρ5 ∧ te ρ5 = .ok (f y) ρ5 ∧ wipeR vs1 ρ5 = some ρ4) ∧ wipeR vs ρ4 = some ρ ∧ F x = xs1.map f) →
    lcLoop2 vs vs1 g yesM it1 g1 yesM te xs acc ρ = some (acc ++ xs.flatMap F, ρ)
  | [], acc, _, _ => by simp [lcLoop2]
  | x :: xs, acc, hl, h => by
    obtain ⟨ρ1, ρ4, xs1, f, e1, e2, e3, e4, e5, e6⟩ := h x List.mem_cons_self
    rw [List.flatMap_cons, List.length_append] at hl
    have lm : (F x).length = xs1.length := by rw [e6, List.length_map]
    unfold lcLoop2
    simp only [e1, show yesM ρ1 = .ok true ρ1 from rfl, e2, e3, lc_map xs1 acc (by omega) e4, e5]
    rw [lc2_map xs (acc ++ xs1.map f) (by simp only [List.length_append, List.length_map]; omega) fun y hy => h y (List.mem_cons_of_mem _ hy), List.flatMap_cons, e6, List.append_assoc]
section
variable {n : Nat} {gens : List (List Nat)}
theorem words1 (n : Nat) : words n 1 = (List.range n).map fun a => [a] := by
  unfold words
  rw [List.flatMap_def]
  show ((List.range n).map fun a => [[a]]).flatten = _
  generalize List.range n = l
  induction l with
  | nil => rfl
  | cons a l ih => simp [ih]
theorem words2_tr (n : Nat) : (words n 2).map trD = ((List.range n).map nuD).flatMap fun x => ((List.range n).map nuD).map fun y => .tuple [x, y] := by
  show ((List.range n).flatMap fun a => (words n 1).map fun w => a :: w).map trD = _
  rw [words1, List.map_flatMap, List.flatMap_map]
  congr 1
  funext a
  rw [List.map_map, List.map_map, List.map_map]
  rfl
theorem lots_pairs (H : IsH n gens) : ∃ L, lotsF (leadsT gens) 20000000 20000000 (words n 2) [] = some L ∧ LotsOk (leadsT gens) (words n 2) L := by
  have hl : (words n 2).length ≤ 64 := by
    rw [words_len]
    exact Nat.le_trans (Nat.pow_le_pow_left H.n8 2) (by decide)
  exact lots_ok (U := words n 2) (words_closed H.gt) (fun _ h => h) (fun x hx y r => words_sym H.gt hx r) (Nat.lt_of_le_of_lt hl (by decide)) (Nat.lt_of_le_of_lt hl (by decide))
abbrev teQ : M PyData := toD (lcM [5] (seqI (toD (binP idxM 0 (ret (.int 1))))) (gN 5) yesM (tupM (consM (toD (binP idxM 5 (toD (binP idxM 4 (ret (.int 0)))))) (consM (toD (binP idxM 5 (toD (binP idxM 4 (ret (.int 1)))))) (ret [])))))
def pairD (a b : Nat) (d : PyData) : PyData := .tuple [itemD a d, itemD b d]
theorem lam_pairs (H : IsH n gens) {P : PyData} : ∀ w ∈ words n 2, lamF teQ [4] 4 [.d (hoD n gens), .d P, .un, .un, .un, .un] (trD w) = some (.list ((leadsT gens w).map trD)) := fun w hw => by
  obtain ⟨a, b, rfl, ha, hb⟩ := pair_of hw
  have el := lcM_map (vs := [5]) (it := seqI (toD (binP idxM 0 (ret (.int 1))))) (g := gN 5) (te := tupM (consM (toD (binP idxM 5 (toD (binP idxM 4 (ret (.int 0)))))) (consM (toD (binP idxM 5 (toD (binP idxM 4 (ret (.int 1)))))) (ret [])))) (f := pairD a b)
    (ρ := [.d (hoD n gens), .d P, .un, .un, .d (trD [a, b]), .un]) (ρ' := [.d (hoD n gens), .d P, .un, .un, .d (trD [a, b]), .un]) (ρ1 := [.d (hoD n gens), .d P, .un, .un, .d (trD [a, b]), .un])
    (xs := gens.map trD) (gens_at rfl) rfl (small_gens H.g6) fun d hd => by
    obtain ⟨g, hg, rfl⟩ := List.mem_map.mp hd
    have la : a < g.length := by rw [(H.gt g hg).len]; exact ha
    have lb : b < g.length := by rw [(H.gt g hg).len]; exact hb
    refine ⟨[.d (hoD n gens), .d P, .un, .un, .d (trD [a, b]), .d (trD g)], rfl, ?_, rfl⟩
    have e1 : (binP idxM 5 (toD (binP idxM 4 (ret (.int 0))))) [.d (hoD n gens), .d P, .un, .un, .d (trD [a, b]), .d (trD g)] = .ok (.d (nuD (g.getD a 0))) [.d (hoD n gens), .d P, .un, .un, .d (trD [a, b]), .d (trD g)] := idx_tup (xs := g.map fun n => PyData.int (n : Nat)) (i := a) (at_trD la) _
    have e2 : (binP idxM 5 (toD (binP idxM 4 (ret (.int 1))))) [.d (hoD n gens), .d P, .un, .un, .d (trD [a, b]), .d (trD g)] = .ok (.d (nuD (g.getD b 0))) [.d (hoD n gens), .d P, .un, .un, .d (trD [a, b]), .d (trD g)] := idx_tup (xs := g.map fun n => PyData.int (n : Nat)) (i := b) (at_trD lb) _
    rw [tupM_ap, consM_ap, toD_ap, e1, rb_ok, toDO_d, ofO_some, rb_ok, consM_ap, toD_ap, e2, rb_ok, toDO_d, ofO_some, rb_ok, ret_ap, rb_ok, ret_ap, rb_ok, ret_ap, rb_ok, fits_ap, if_pos (show ([nuD (g.getD a 0), nuD (g.getD b 0)] : List PyData).length ≤ sizeLine from (show 2 ≤ sizeLine by decide)), ret_ap]
    unfold pairD
    rw [item_trD la, item_trD lb]
  have em : (gens.map trD).map (pairD a b) = (leadsT gens [a, b]).map trD := by
    unfold leadsT
    rw [List.map_map, List.map_map]
    refine List.map_congr_left fun g hg => ?_
    show pairD a b (trD g) = trD [g.getD a 0, g.getD b 0]
    unfold pairD
    rw [item_trD (by rw [(H.gt g hg).len]; exact ha), item_trD (by rw [(H.gt g hg).len]; exact hb)]; rfl
  rw [em] at el
  have et : teQ [.d (hoD n gens), .d P, .un, .un, .d (trD [a, b]), .un] = .ok (.list ((leadsT gens [a, b]).map trD)) (unAll [5] [.d (hoD n gens), .d P, .un, .un, .d (trD [a, b]), .un]) := by
    unfold teQ
    rw [toD_ap, el]; rfl
  unfold lamF
  rw [show (frzR [4] [.d (hoD n gens), .d P, .un, .un, .un, .un]).set 4 (.d (trD [a, b])) = [.d (hoD n gens), .d P, .un, .un, .d (trD [a, b]), .un] from rfl, et]
theorem rg_at {n i : Nat} {gens : List (List Nat)} {ρ : List SV} (hn : n ≤ 1000) (h : ρ[i]? = some (.d (hoD n gens))) : (rgI1 (toD (binP idxM i (ret (.int 0))))) ρ = .ok ((List.range n).map nuD) ρ := by
  have e1 : (1000 : Int) < 2 ^ 62 := by decide
  have e2 : -(2 ^ 62) ≤ (0 : Int) := by decide
  rw [rgI1_ap, toD_ap, house_at0 h, rb_ok, toDO_d, ofO_some, rb_ok]
  unfold nuD
  dsimp only
  rw [if_pos ⟨Int.le_trans e2 (Int.natCast_nonneg n), Int.lt_of_le_of_lt (Int.ofNat_le.mpr hn) e1⟩, ret_ap, rgD_nat]
theorem flat_len (n : Nat) : (((List.range n).map nuD).flatMap fun x => ((List.range n).map nuD).map fun y => PyData.tuple [x, y]).length = n ^ 2 := by rw [← words2_tr, List.length_map, words_len]
theorem pair_lots_of_ok (H : IsH n gens) {L : List (List (List Nat))} (el : lotsF (leadsT gens) 20000000 20000000 (words n 2) [] = some L) (hL : LotsOk (leadsT gens) (words n 2) L) : ∃ ρ', F_pair_lots_of [.d (hoD n gens)] = .ok (.ls (sortD (L.map (lotD trD)))) ρ' := by
  have n8 := H.n8
  have l0 : (words n 2).length ≤ 64 := by
    rw [words_len]
    exact Nat.le_trans (Nat.pow_le_pow_left n8 2) (by decide)
  have lf := flat_len n
  rw [words_len] at l0
  have e1 : (lc2M [2, 3] [3] (rgI1 (toD (binP idxM 0 (ret (.int 0))))) (gN 2) yesM (rgI1 (toD (binP idxM 0 (ret (.int 0))))) (gN 3) yesM (tupM (consM (getD 2) (consM (getD 3) (ret []))))) [.d (hoD n gens), .un, .un, .un, .un, .un] = .ok (.ls ((words n 2).map trD)) [.d (hoD n gens), .un, .un, .un, .un, .un] := by
    have hl2 := lc2_map (vs := [2, 3]) (vs1 := [3]) (g := gN 2) (it1 := rgI1 (toD (binP idxM 0 (ret (.int 0))))) (g1 := gN 3) (te := tupM (consM (getD 2) (consM (getD 3) (ret [])))) (ρ := [.d (hoD n gens), .un, .un, .un, .un, .un]) (F := fun x => ((List.range n).map nuD).map fun y => .tuple [x, y])
      ((List.range n).map nuD) [] (by rw [lf]; exact Nat.le_trans (by simpa using l0) (by decide)) fun x hx => by
      refine ⟨[.d (hoD n gens), .un, .d x, .un, .un, .un], [.d (hoD n gens), .un, .d x, .un, .un, .un], (List.range n).map nuD, fun y => .tuple [x, y], rfl, rg_at (by omega) rfl, rfl, fun y hy => ⟨[.d (hoD n gens), .un, .d x, .d y, .un, .un], rfl, ?_, rfl⟩, rfl, rfl⟩
      show (fits [x, y] (ret (PyData.tuple [x, y]))) _ = _
      rw [fits_ap, if_pos (show ([x, y] : List PyData).length ≤ sizeLine from (show 2 ≤ sizeLine by decide))]; rfl
    unfold lc2M
    rw [bind_ap, rg_at (by omega) rfl, rb_ok, show wipeR [2, 3] [.d (hoD n gens), .un, .un, .un, .un, .un] = some [.d (hoD n gens), .un, .un, .un, .un, .un] from rfl]
    simp only [hl2]
    rw [words2_tr]; rfl
  have n16 : (words n 2).length ≤ 64 := by rw [words_len]; exact l0
  obtain ⟨ρ', eb⟩ := lots_of_ok (U := words n 2) (F := lamF teQ [4] 4 [.d (hoD n gens), .d (.list ((words n 2).map trD)), .un, .un, .un, .un]) enc_trD (Nat.le_trans n16 (by decide)) (words_closed H.gt) (lam_pairs H)
    (fun l hl => srt_trD fun t ht e => by
      have := (mem_words.mp (hl t ht)).1
      rw [e] at this
      cases this) (Nat.lt_of_le_of_lt n16 (by decide)) (fun _ h => h) (Nat.le_trans n16 (by decide)) el (srt_lots_tr (LotsOk.ne hL))
  have hfe : (getD 1) [.d (hoD n gens), .ls ((words n 2).map trD), .un, .un, .un, .un] = .ok (.list ((words n 2).map trD)) [.d (hoD n gens), .d (.list ((words n 2).map trD)), .un, .un, .un, .un] := rfl
  have e : B_pair_lots_of [.d (hoD n gens), .un, .un, .un, .un, .un] = .ok (.rt (.ls (sortD (L.map (lotD trD))))) [.d (hoD n gens), .d (.list ((words n 2).map trD)), .un, .un, .un, .un] := by
    unfold B_pair_lots_of
    rw [seqM_ap, setM_ap, e1, rb_ok, setS_of (u := .un) rfl nbr_un, rb_ok, ret_ap, rb_ok]
    show (retM _) [.d (hoD n gens), .ls ((words n 2).map trD), .un, .un, .un, .un] = _
    rw [retM_ap, callLam_of hfe eb, rb_ok, ret_ap]
  exact ⟨_, bodyM_of rfl e⟩
end
end Nb

set_option Elab.async false
set_option linter.all false
set_option maxRecDepth 100000
set_option maxHeartbeats 4000000
namespace Nb
open PySem PySem.Spec L2 PyProof.Rows Pm
/-! plain data -/
def okD : Nat → PyData → Bool
  | _, .none => true
  | _, .bool _ => true
  | _, .int _ => true
  | k + 1, .list xs => xs.all (okD k)
  | k + 1, .tuple xs => xs.all (okD k)
  | _, _ => false
theorem okD_all {k : Nat} : ∀ {xs : List PyData}, xs.all (okD k) = true → (∀ x ∈ xs, x.canLay0 = true ∧ x.depth ≤ k) → PyData.canLayAll0 xs = true ∧ PyData.depthAll xs ≤ k
  | [], _, _ => ⟨by simp [PyData.canLayAll0], by simp [PyData.depthAll]⟩
  | x :: xs, h, hx => by
    rw [List.all_cons, Bool.and_eq_true] at h
    obtain ⟨h1, h2⟩ := okD_all h.2 fun y hy => hx y (List.mem_cons_of_mem _ hy)
    obtain ⟨h3, h4⟩ := hx x List.mem_cons_self
    refine ⟨by simp [PyData.canLayAll0, h1, h3], ?_⟩
    simp only [PyData.depthAll]
    omega
theorem okD_lay : ∀ (k : Nat) (d : PyData), okD k d = true → d.canLay0 = true ∧ d.depth ≤ k
  | k, .none, _ => ⟨by simp [PyData.canLay0], by simp [PyData.depth]⟩
  | k, .bool _, _ => ⟨by simp [PyData.canLay0], by simp [PyData.depth]⟩
  | k, .int _, _ => ⟨by simp [PyData.canLay0], by simp [PyData.depth]⟩
  | k + 1, .list xs, h => by
    have h : xs.all (okD k) = true := h
    obtain ⟨h1, h2⟩ := okD_all h fun x hx => okD_lay k x (List.all_eq_true.mp h x hx)
    exact ⟨by simp [PyData.canLay0, h1], by simp only [PyData.depth]; omega⟩
  | k + 1, .tuple xs, h => by
    have h : xs.all (okD k) = true := h
    obtain ⟨h1, h2⟩ := okD_all h fun x hx => okD_lay k x (List.all_eq_true.mp h x hx)
    exact ⟨by simp [PyData.canLay0, h1], by simp only [PyData.depth]; omega⟩
  | 0, .list _, h => by cases h
  | 0, .tuple _, h => by cases h
  | 0, .str _, h => by cases h
  | _ + 1, .str _, h => by cases h
  | 0, .dict _, h => by cases h
  | _ + 1, .dict _, h => by cases h
theorem okD_shaped {k : Nat} {d : PyData} (h : okD k d = true) (hk : k ≤ 64) : SeqAt.shaped d = true := by
  obtain ⟨h1, h2⟩ := okD_lay k d h
  unfold SeqAt.shaped
  rw [h1, decide_eq_true (show d.depth ≤ 64 by omega)]; rfl
theorem eqvAll_refl : ∀ {xs : List PyData}, (∀ x ∈ xs, PyData.eqv x x = true) → PyData.eqvAll xs xs = true
  | [], _ => by simp [PyData.eqvAll]
  | x :: xs, h => by simp [PyData.eqvAll, h x List.mem_cons_self, eqvAll_refl fun y hy => h y (List.mem_cons_of_mem _ hy)]
theorem eqv_refl : ∀ (k : Nat) (d : PyData), okD k d = true → PyData.eqv d d = true
  | k, .none, _ => by simp [PyData.eqv]
  | k, .bool _, _ => by simp [PyData.eqv]
  | k, .int _, _ => by simp [PyData.eqv]
  | k + 1, .list xs, h => by
    have h : xs.all (okD k) = true := h
    simp only [PyData.eqv]
    exact eqvAll_refl fun x hx => eqv_refl k x (List.all_eq_true.mp h x hx)
  | k + 1, .tuple xs, h => by
    have h : xs.all (okD k) = true := h
    simp only [PyData.eqv]
    exact eqvAll_refl fun x hx => eqv_refl k x (List.all_eq_true.mp h x hx)
  | 0, .list _, h => by cases h
  | 0, .tuple _, h => by cases h
  | 0, .str _, h => by cases h
  | _ + 1, .str _, h => by cases h
  | 0, .dict _, h => by cases h
  | _ + 1, .dict _, h => by cases h
theorem eqM_of {x y : PyData} {b n : Bool} (hx : SeqAt.shaped x = true) (hy : SeqAt.shaped y = true) (e : PyData.eqv x y = b) (ρ : List SV) : eqM n x y ρ = .ok (.d (.bool (if n then !b else b))) ρ := by
  unfold eqM
  rw [gM_ap, if_pos (by rw [hx, hy]; rfl), ret_ap, e]
theorem shaped_int (i : Int) : SeqAt.shaped (.int i) = true := okD_shaped (k := 0) rfl (by decide)
theorem eqv_int (i j : Int) : PyData.eqv (.int i) (.int j) = decide (i = j) := by simp only [PyData.eqv]; exact beqD i j
theorem eq_int (n : Bool) (i j : Int) (ρ : List SV) : eqM n (.int i) (.int j) ρ = .ok (.d (.bool (if n then !decide (i = j) else decide (i = j)))) ρ := eqM_of (shaped_int i) (shaped_int j) (eqv_int i j) ρ
theorem eq_intF (i j : Int) (ρ : List SV) : eqM false (.int i) (.int j) ρ = .ok (.d (.bool (decide (i = j)))) ρ := eq_int false i j ρ
theorem eq_intT (i j : Int) (ρ : List SV) : eqM true (.int i) (.int j) ρ = .ok (.d (.bool (!decide (i = j)))) ρ := eq_int true i j ρ
theorem okD_nuD (k : Nat) (l : List Nat) : (l.map nuD).all (okD k) = true := by
  rw [List.all_map]
  exact List.all_eq_true.mpr fun x _ => by cases k <;> rfl
theorem okD_trD (k : Nat) (t : List Nat) : okD (k + 1) (trD t) = true := okD_nuD k t
/-! sorted -/
def ltN (a b : Nat) : Bool := decide (a < b)
section
variable {α : Type} {lt : α → α → Bool}
theorem insB_pw (tr : ∀ a b c, lt a b = true → lt b c = true → lt a c = true) {x : α} : ∀ {l : List α}, l.Pairwise (fun a b => lt a b = true) → (∀ y ∈ l, lt y x = true ∨ lt x y = true) → (insB lt x l).Pairwise fun a b => lt a b = true
  | [], _, _ => by simp [insB]
  | y :: l, h, ht => by
    rw [List.pairwise_cons] at h
    unfold insB
    by_cases hy : lt y x = true
    · rw [if_pos hy, List.pairwise_cons]
      refine ⟨fun z hz => ?_, insB_pw tr h.2 fun z hz => ht z (List.mem_cons_of_mem _ hz)⟩
      rcases (insB_mem lt x l z).mp hz with e | e
      · subst e; exact hy
      · exact h.1 z e
    · rw [if_neg hy, List.pairwise_cons]
      have hx : lt x y = true := (ht y List.mem_cons_self).resolve_left hy
      refine ⟨fun z hz => ?_, List.pairwise_cons.mpr h⟩
      rcases List.mem_cons.mp hz with e | e
      · subst e; exact hx
      · exact tr x y z hx (h.1 z e)
theorem isort_pw (tr : ∀ a b c, lt a b = true → lt b c = true → lt a c = true) : ∀ {l : List α}, (∀ x ∈ l, ∀ y ∈ l, x ≠ y → lt x y = true ∨ lt y x = true) → l.Nodup → (isort lt l).Pairwise fun a b => lt a b = true
  | [], _, _ => by simp [isort]
  | x :: l, ht, nd => by
    rw [List.nodup_cons] at nd
    refine insB_pw tr (isort_pw tr (fun a ha b hb => ht a (List.mem_cons_of_mem _ ha) b (List.mem_cons_of_mem _ hb)) nd.2) fun y hy => ?_
    have hy' := (isort_mem lt y l).mp hy
    exact ht y (List.mem_cons_of_mem _ hy') x List.mem_cons_self fun e => nd.1 (e ▸ hy')
theorem pw_uniq (irr : ∀ a, lt a a = false) (tr : ∀ a b c, lt a b = true → lt b c = true → lt a c = true) : ∀ {l1 l2 : List α}, l1.Pairwise (fun a b => lt a b = true) → l2.Pairwise (fun a b => lt a b = true) → (∀ x, x ∈ l1 ↔ x ∈ l2) → l1 = l2
  | [], [], _, _, _ => rfl
  | [], y :: l2, _, _, h => by have := (h y).mpr List.mem_cons_self; cases this
  | x :: l1, [], _, _, h => by have := (h x).mp List.mem_cons_self; cases this
  | x :: l1, y :: l2, h1, h2, h => by
    rw [List.pairwise_cons] at h1 h2
    have asym : ∀ a b, lt a b = true → lt b a = true → False := fun a b p q => by
      have := tr a b a p q
      rw [irr a] at this
      cases this
    have exy : x = y := by
      rcases List.mem_cons.mp ((h x).mp List.mem_cons_self) with e | e
      · exact e
      · rcases List.mem_cons.mp ((h y).mpr List.mem_cons_self) with e' | e'
        · exact e'.symm
        · exact (asym x y (h1.1 y e') (h2.1 x e)).elim
    subst exy
    have nx : ∀ l : List α, (∀ z ∈ l, lt x z = true) → x ∉ l := fun l hl hm => by
      have := hl x hm
      rw [irr x] at this
      cases this
    rw [pw_uniq irr tr h1.2 h2.2 fun z => ⟨fun hz => ?_, fun hz => ?_⟩]
    · rcases List.mem_cons.mp ((h z).mp (List.mem_cons_of_mem _ hz)) with e | e
      · exact absurd (e ▸ hz) (nx l1 h1.1)
      · exact e
    · rcases List.mem_cons.mp ((h z).mpr (List.mem_cons_of_mem _ hz)) with e | e
      · exact absurd (e ▸ hz) (nx l2 h2.1)
      · exact e
end
theorem sort_nuD (l : List Nat) : sortD (l.map nuD) = (isort ltN l).map nuD :=
  isort_map nuD l fun x _ y _ => by
    show ltD (.int (y : Nat)) (.int (x : Nat)) = decide (y < x)
    rw [lt_int]
    exact decide_eq_decide.mpr Int.ofNat_lt
theorem ltN_tr : ∀ a b c, ltN a b = true → ltN b c = true → ltN a c = true := fun a b c h1 h2 => by
  unfold ltN at *
  simp at *
  omega
theorem sort_range {n : Nat} {t : List Nat} (h : IsT n t) : sortD (t.map nuD) = (List.range n).map nuD := by
  rw [sort_nuD]
  congr 1
  refine pw_uniq (lt := ltN) (fun a => by simp [ltN]) ltN_tr (isort_pw ltN_tr (fun x _ y _ hxy => by unfold ltN; simp; omega) h.nd) ?_ fun x => ?_
  · refine List.Pairwise.imp (fun {a b} h => ?_) List.pairwise_lt_range
    unfold ltN
    simpa using h
  · rw [isort_mem, List.mem_range]
    exact ⟨fun hx => h.lt x hx, fun hx => range_sub h hx⟩
/-! is_turn .. -/
theorem turn_ok {n : Nat} {t : List Nat} (hn : n ≤ 8) (h : IsT n t) : ∃ ρ', F_is_turn [.d (nuD n), .d (trD t)] = .ok (.d (.bool true)) ρ' := by
  have e1 : (ifM (orT (notT (truM (toD (M.bind (getD 1) (isiM "tuple"))))) (orT (tstM (binM (eqM true) (toD (lenN 1)) (getD 0))) (notT (truM (allM [2] (seqI (getD 1)) (gN 2) (toD (callM 3 F_is_number (consM (getD 2) (consM (ret (.int 0)) (consM (toD (binM subM (getD 0) (ret (.int 1)))) (ret []))))))))))) (retM (toV (ret (.bool false)))) (ret .nx)) [.d (nuD n), .d (trD t), .un] = .ok .nx [.d (nuD n), .d (trD t), .un] := by
    have ea := allM_true (vs := [2]) (it := seqI (getD 1)) (g := gN 2) (te := toD (callM 3 F_is_number (consM (getD 2) (consM (ret (.int 0)) (consM (toD (binM subM (getD 0) (ret (.int 1)))) (ret [])))))) (ρ := [.d (nuD n), .d (trD t), .un]) (ρ' := [.d (nuD n), .d (trD t), .un]) (ρ1 := [.d (nuD n), .d (trD t), .un])
      (xs := t.map nuD) rfl rfl fun d hd => by
      obtain ⟨x, hx, rfl⟩ := List.mem_map.mp hd
      refine ⟨[.d (nuD n), .d (trD t), .d (nuD x)], rfl, ?_, rfl⟩
      obtain ⟨ρ'', en⟩ := num_ok (v := (x : Int)) (lo := 0) (hi := (n : Int) - 1)
      have hb : (decide ((0 : Int) ≤ x) && decide ((x : Int) ≤ (n : Int) - 1)) = true := by
        have := h.lt x hx
        simp; omega
      rw [hb] at en
      have ec : callM 3 F_is_number (consM (getD 2) (consM (ret (.int 0)) (consM (toD (binM subM (getD 0) (ret (.int 1)))) (ret [])))) [.d (nuD n), .d (trD t), .d (nuD x)] = .ok (.d (.bool true)) [.d (nuD n), .d (trD t), .d (nuD x)] :=
        callM_of (xs := [nuD x, .int 0, .int ((n : Int) - 1)]) rfl rfl en
      rw [toD_ap, ec]; rfl
    have el : (tstM (binM (eqM true) (toD (lenN 1)) (getD 0))) [.d (nuD n), .d (trD t), .un] = .ok false [.d (nuD n), .d (trD t), .un] := by
      have e2 : (binM (eqM true) (toD (lenN 1)) (getD 0)) [.d (nuD n), .d (trD t), .un] = eqM true (.int ((t.map fun n => PyData.int (n : Nat)).length : Nat)) (.int (n : Nat)) [.d (nuD n), .d (trD t), .un] := rfl
      rw [tstM_ap, e2, eq_int, List.length_map, h.len]; simp
    have e0 : (truM (toD (M.bind (getD 1) (isiM "tuple")))) [.d (nuD n), .d (trD t), .un] = .ok true [.d (nuD n), .d (trD t), .un] := rfl
    rw [ifM_ap, orT_ap, notT_ap, e0, rb_ok, ret_ap, rb_ok]
    show ((orT _ _) [.d (nuD n), .d (trD t), .un]).bind _ = _
    rw [orT_ap, el, rb_ok]
    show ((notT _) [.d (nuD n), .d (trD t), .un]).bind _ = _
    rw [notT_ap, truM_ap, ea]; rfl
  have e3 : (binM (eqM false) (toD (slotM 1 srtS)) (toD (M.bind (getD 0) lrgM))) [.d (nuD n), .d (trD t), .un] = .ok (.d (.bool true)) [.d (nuD n), .d (trD t), .un] := by
    have es : (slotM 1 srtS) [.d (nuD n), .d (trD t), .un] = .ok (.ls ((List.range n).map nuD)) [.d (nuD n), .d (trD t), .un] := by
      show (gM (srtN (t.map nuD) = true) (ret (SV.ls (sortD (t.map nuD))))) [.d (nuD n), .d (trD t), .un] = _
      rw [gM_ap, if_pos (srt_nuD t), ret_ap, sort_range h]
    have er : lrgM (nuD n) [.d (nuD n), .d (trD t), .un] = .ok (.ls ((List.range n).map nuD)) [.d (nuD n), .d (trD t), .un] := lrg_ok (by omega) _
    rw [binM_ap, toD_ap, es, rb_ok, toDO_ls, ofO_some, rb_ok, toD_ap, bind_ap, getD_d (x := nuD n) rfl, rb_ok, er, rb_ok, toDO_ls, ofO_some, rb_ok]
    have hk : okD 1 (.list ((List.range n).map nuD)) = true := okD_nuD 0 _
    exact eqM_of (okD_shaped hk (by decide)) (okD_shaped hk (by decide)) (eqv_refl 1 _ hk) _
  refine ⟨_, bodyM_of (ρ' := [.d (nuD n), .d (trD t), .un]) rfl ?_⟩
  show B_is_turn [.d (nuD n), .d (trD t), .un] = _
  unfold B_is_turn
  rw [seqM_ap, e1, rb_ok]
  show (retM _) [.d (nuD n), .d (trD t), .un] = _
  rw [retM_ap, e3, rb_ok, ret_ap]
end Nb

set_option Elab.async false
set_option linter.all false
set_option maxRecDepth 100000
set_option maxHeartbeats 4000000
namespace Nb
open PySem PySem.Spec L2 PyProof.Rows Pm
section
variable {ρ ρ1 : List SV} {A B : M Bool} {a b : M Fl} {f : M SV} {v : Bool}
theorem orT_f (h : A ρ = .ok false ρ1) : orT A B ρ = B ρ1 := by rw [orT_ap, h]; rfl
theorem orT_t (h : A ρ = .ok true ρ1) : orT A B ρ = .ok true ρ1 := by rw [orT_ap, h]; rfl
theorem andT_f (h : A ρ = .ok false ρ1) : andT A B ρ = .ok false ρ1 := by rw [andT_ap, h]; rfl
theorem andT_t (h : A ρ = .ok true ρ1) : andT A B ρ = B ρ1 := by rw [andT_ap, h]; rfl
theorem notT_of (h : A ρ = .ok v ρ1) : notT A ρ = .ok (!v) ρ1 := by rw [notT_ap, h]; rfl
theorem ifM_f (h : A ρ = .ok false ρ1) : ifM A a b ρ = b ρ1 := by rw [ifM_ap, h]; rfl
theorem ifM_t (h : A ρ = .ok true ρ1) : ifM A a b ρ = a ρ1 := by rw [ifM_ap, h]; rfl
theorem tstM_of (h : f ρ = .ok (.d (.bool v)) ρ1) : tstM f ρ = .ok v ρ1 := by rw [tstM_ap, h]; rfl
theorem truM_b {g : M PyData} (h : g ρ = .ok (.bool v) ρ1) : truM g ρ = .ok v ρ1 := by rw [truM_ap, h]; rfl
theorem toD_d {x : PyData} (h : f ρ = .ok (.d x) ρ1) : toD f ρ = .ok x ρ1 := by rw [toD_ap, h]; rfl
theorem toD_ls {x : List PyData} (h : f ρ = .ok (.ls x) ρ1) : toD f ρ = .ok (.list x) ρ1 := by rw [toD_ap, h]; rfl
theorem toV_of {g : M PyData} {x : PyData} (h : g ρ = .ok x ρ1) : toV g ρ = .ok (.d x) ρ1 := by rw [toV_ap, h]; rfl
theorem seq_nx (h : a ρ = .ok .nx ρ1) : seqM a b ρ = b ρ1 := by rw [seqM_ap, h]; rfl
theorem seq_rt {w : SV} (h : a ρ = .ok (.rt w) ρ1) : seqM a b ρ = .ok (.rt w) ρ1 := by rw [seqM_ap, h]; rfl
theorem retM_of {w : SV} (h : f ρ = .ok w ρ1) : retM f ρ = .ok (.rt w) ρ1 := by rw [retM_ap, h]; rfl
theorem dropM_of {w : SV} (h : f ρ = .ok w ρ1) : dropM f ρ = .ok .nx ρ1 := by rw [dropM_ap, h]; rfl
theorem setM_of {i : Nat} {w u : SV} (h : f ρ = .ok w ρ1) (hi : ρ1[i]? = some u) (hu : nbr u) : setM i f ρ = .ok .nx (ρ1.set i w) := by rw [setM_ap, h, rb_ok, setS_of hi hu]; rfl
theorem binM_of {o : Op2} {g1 g2 : M PyData} {x y : PyData} {ρ2 : List SV} (h1 : g1 ρ = .ok x ρ1) (h2 : g2 ρ1 = .ok y ρ2) : binM o g1 g2 ρ = o x y ρ2 := by rw [binM_ap, h1, rb_ok, h2, rb_ok]
theorem andV_t {g : M PyData} (h : g ρ = .ok (.bool true) ρ1) : andV g f ρ = f ρ1 := by rw [andV_ap, h]; rfl
theorem andV_f {g : M PyData} (h : g ρ = .ok (.bool false) ρ1) : andV g f ρ = .ok (.d (.bool false)) ρ1 := by rw [andV_ap, h]; rfl
theorem ord_of {p : Int → Int → Bool} {i j : Int} : ordM p (.int i) (.int j) ρ = .ok (.d (.bool (p i j))) ρ := rfl
end
section
variable {n : Nat} {gens : List (List Nat)}
theorem wrong_ok (H : IsH n gens) : ∃ ρ', F_wrong_part [.d (hoD n gens)] = .ok (.d .none) ρ' := by
  have e1 : (ifM (orT (notT (truM (toD (M.bind (getD 0) (isiM "tuple"))))) (tstM (binM (eqM true) (toD (lenN 0)) (ret (.int 2))))) (retM (toV (ret (.str "whole")))) (ret .nx)) [.d (hoD n gens), .un, .un, .un] = .ok .nx [.d (hoD n gens), .un, .un, .un] := by
    have e0 : (truM (toD (M.bind (getD 0) (isiM "tuple")))) [.d (hoD n gens), .un, .un, .un] = .ok true [.d (hoD n gens), .un, .un, .un] := rfl
    have el : (tstM (binM (eqM true) (toD (lenN 0)) (ret (.int 2)))) [.d (hoD n gens), .un, .un, .un] = .ok false [.d (hoD n gens), .un, .un, .un] := by
      have e2 : (binM (eqM true) (toD (lenN 0)) (ret (.int 2))) [.d (hoD n gens), .un, .un, .un] = eqM true (.int 2) (.int 2) [.d (hoD n gens), .un, .un, .un] := rfl
      rw [tstM_ap, e2, eq_int]; rfl
    rw [ifM_ap, orT_ap, notT_ap, e0, rb_ok, ret_ap, rb_ok]
    show ((tstM _) [.d (hoD n gens), .un, .un, .un]).bind _ = _
    rw [el]; rfl
  have e3 : (ifM (notT (truM (toD (callM 3 F_is_number (consM (getD 2) (consM (ret (.int 1)) (consM (ret (.int 8)) (ret [])))))))) (retM (toV (ret (.str "halls")))) (ret .nx)) [.d (hoD n gens), .d (.tuple (gens.map trD)), .d (nuD n), .un] = .ok .nx [.d (hoD n gens), .d (.tuple (gens.map trD)), .d (nuD n), .un] := by
    obtain ⟨ρ'', en⟩ := num_ok (v := (n : Int)) (lo := 1) (hi := 8)
    have hb : (decide ((1 : Int) ≤ n) && decide ((n : Int) ≤ 8)) = true := by
      have := H.n1
      have := H.n8
      simp; omega
    rw [hb] at en
    have ec : callM 3 F_is_number (consM (getD 2) (consM (ret (.int 1)) (consM (ret (.int 8)) (ret [])))) [.d (hoD n gens), .d (.tuple (gens.map trD)), .d (nuD n), .un] = .ok (.d (.bool true)) [.d (hoD n gens), .d (.tuple (gens.map trD)), .d (nuD n), .un] :=
      callM_of (xs := [nuD n, .int 1, .int 8]) rfl rfl en
    rw [ifM_ap, notT_ap, truM_ap, toD_ap, ec]; rfl
  have e4 : (ifM (orT (notT (truM (toD (M.bind (getD 1) (isiM "tuple"))))) (notT (tstM (chnV (ordM fun i j => decide (i ≤ j)) (ordM fun i j => decide (i ≤ j)) (ret (.int 1)) (toD (lenN 1)) (ret (.int 6)))))) (retM (toV (ret (.str "turns")))) (ret .nx)) [.d (hoD n gens), .d (.tuple (gens.map trD)), .d (nuD n), .un] = .ok .nx [.d (hoD n gens), .d (.tuple (gens.map trD)), .d (nuD n), .un] := by
    have e0 : (truM (toD (M.bind (getD 1) (isiM "tuple")))) [.d (hoD n gens), .d (.tuple (gens.map trD)), .d (nuD n), .un] = .ok true [.d (hoD n gens), .d (.tuple (gens.map trD)), .d (nuD n), .un] := rfl
    have eo : ∀ (i j : Int) (ρ : List SV), (ordM fun i j => decide (i ≤ j)) (.int i) (.int j) ρ = .ok (.d (.bool (decide (i ≤ j)))) ρ := fun _ _ _ => rfl
    have ll : (toD (lenN 1)) [.d (hoD n gens), .d (.tuple (gens.map trD)), .d (nuD n), .un] = .ok (.int ((gens.map trD).length : Nat)) [.d (hoD n gens), .d (.tuple (gens.map trD)), .d (nuD n), .un] := rfl
    have g1 := H.g1
    have g6 := H.g6
    have ec : (chnV (ordM fun i j => decide (i ≤ j)) (ordM fun i j => decide (i ≤ j)) (ret (.int 1)) (toD (lenN 1)) (ret (.int 6))) [.d (hoD n gens), .d (.tuple (gens.map trD)), .d (nuD n), .un] = .ok (.d (.bool true)) [.d (hoD n gens), .d (.tuple (gens.map trD)), .d (nuD n), .un] := by
      rw [chnV_ap, ret_ap, rb_ok, ll, rb_ok, eo, rb_ok, decide_eq_true (show (1 : Int) ≤ ((gens.map trD).length : Nat) by rw [List.length_map]; omega)]
      show (M.bind (ret (.int 6)) fun z' => (ordM fun i j => decide (i ≤ j)) (.int ((gens.map trD).length : Nat)) z') [.d (hoD n gens), .d (.tuple (gens.map trD)), .d (nuD n), .un] = _
      rw [bind_ap, ret_ap, rb_ok, eo, decide_eq_true (show (((gens.map trD).length : Nat) : Int) ≤ 6 by rw [List.length_map]; omega)]
    rw [ifM_ap, orT_ap, notT_ap, e0, rb_ok, ret_ap, rb_ok]
    show ((notT _) [.d (hoD n gens), .d (.tuple (gens.map trD)), .d (nuD n), .un]).bind _ = _
    rw [notT_ap, tstM_ap, ec]; rfl
  have e5 : (retM (iteV (truM (allM [3] (seqI (getD 1)) (gN 3) (toD (callM 2 F_is_turn (consM (getD 2) (consM (getD 3) (ret []))))))) (toV (ret (.none))) (toV (ret (.str "turns"))))) [.d (hoD n gens), .d (.tuple (gens.map trD)), .d (nuD n), .un] = .ok (.rt (.d .none)) [.d (hoD n gens), .d (.tuple (gens.map trD)), .d (nuD n), .un] := by
    have ea := allM_true (vs := [3]) (it := seqI (getD 1)) (g := gN 3) (te := toD (callM 2 F_is_turn (consM (getD 2) (consM (getD 3) (ret []))))) (ρ := [.d (hoD n gens), .d (.tuple (gens.map trD)), .d (nuD n), .un]) (ρ' := [.d (hoD n gens), .d (.tuple (gens.map trD)), .d (nuD n), .un]) (ρ1 := [.d (hoD n gens), .d (.tuple (gens.map trD)), .d (nuD n), .un])
      (xs := gens.map trD) rfl rfl fun d hd => by
      obtain ⟨g, hg, rfl⟩ := List.mem_map.mp hd
      refine ⟨[.d (hoD n gens), .d (.tuple (gens.map trD)), .d (nuD n), .d (trD g)], rfl, ?_, rfl⟩
      obtain ⟨ρ'', en⟩ := turn_ok H.n8 (H.gt g hg)
      have ec : callM 2 F_is_turn (consM (getD 2) (consM (getD 3) (ret []))) [.d (hoD n gens), .d (.tuple (gens.map trD)), .d (nuD n), .d (trD g)] = .ok (.d (.bool true)) [.d (hoD n gens), .d (.tuple (gens.map trD)), .d (nuD n), .d (trD g)] :=
        callM_of (xs := [nuD n, trD g]) rfl rfl en
      rw [toD_ap, ec]; rfl
    rw [retM_ap, iteV_ap, truM_ap, ea]; rfl
  refine ⟨_, bodyM_of (ρ' := [.d (hoD n gens), .d (.tuple (gens.map trD)), .d (nuD n), .un]) rfl ?_⟩
  show B_wrong_part [.d (hoD n gens), .un, .un, .un] = _
  unfold B_wrong_part
  rw [seqM_ap, e1, rb_ok]
  show (seqM (asgM (gTupM 2 (gsCons (gN 2) (gsCons (gN 1) gsNil))) (getD 0)) _) [.d (hoD n gens), .un, .un, .un] = _
  rw [seqM_ap, show (asgM (gTupM 2 (gsCons (gN 2) (gsCons (gN 1) gsNil))) (getD 0)) [.d (hoD n gens), .un, .un, .un] = .ok .nx [.d (hoD n gens), .d (.tuple (gens.map trD)), .d (nuD n), .un] from rfl, rb_ok]
  show (seqM _ _) [.d (hoD n gens), .d (.tuple (gens.map trD)), .d (nuD n), .un] = _
  rw [seqM_ap, e3, rb_ok]
  show (seqM _ _) [.d (hoD n gens), .d (.tuple (gens.map trD)), .d (nuD n), .un] = _
  rw [seqM_ap, e4, rb_ok]
  exact e5
theorem is_house_ok (H : IsH n gens) : ∃ ρ', F_is_house [.d (hoD n gens)] = .ok (.d (.bool true)) ρ' := by
  obtain ⟨ρ'', en⟩ := wrong_ok H
  have ec : callM 1 F_wrong_part (consM (getD 0) (ret [])) [.d (hoD n gens)] = .ok (.d .none) [.d (hoD n gens)] := callM_of (xs := [hoD n gens]) rfl rfl en
  refine ⟨_, bodyM_of (ρ' := [.d (hoD n gens)]) rfl ?_⟩
  show B_is_house [.d (hoD n gens)] = _
  unfold B_is_house
  rw [retM_ap, binM_ap, toD_ap, ec]; rfl
theorem need_house_ok (H : IsH n gens) : ∃ ρ', F_need_house [.d (hoD n gens)] = .ok (.d .none) ρ' := by
  obtain ⟨ρ'', en⟩ := wrong_ok H
  have ec : callM 1 F_wrong_part (consM (getD 0) (ret [])) [.d (hoD n gens), .un] = .ok (.d .none) [.d (hoD n gens), .un] := callM_of (xs := [hoD n gens]) rfl rfl en
  refine ⟨_, bodyM_nx (ρ' := [.d (hoD n gens), .d .none]) rfl ?_⟩
  show B_need_house [.d (hoD n gens), .un] = _
  unfold B_need_house
  rw [seqM_ap, setM_ap, ec]; rfl
theorem need_call (H : IsH n gens) {ρ : List SV} (h : ρ[0]? = some (.d (hoD n gens))) : (dropM (callM 1 F_need_house (consM (getD 0) (ret [])))) ρ = .ok .nx ρ := by
  obtain ⟨ρ'', en⟩ := need_house_ok H
  have ec : callM 1 F_need_house (consM (getD 0) (ret [])) ρ = .ok (.d .none) ρ := callM_of (xs := [hoD n gens]) (by rw [consM_ap, getD_d h, rb_ok, ret_ap, rb_ok, ret_ap]) rfl en
  rw [dropM_ap, ec]; rfl
theorem len_ls (xs : List PyData) (ρ : List SV) : lenS (.ls xs) ρ = .ok (.d (.int (xs.length : Nat))) ρ := rfl
theorem parts_len (H : IsH n gens) {L : List (List Nat)} (el : lotsF (leadsH gens) 20000000 20000000 (List.range n) [] = some L) (hL : LotsOk (leadsH gens) (List.range n) L) {ρ : List SV} (h : ρ[0]? = some (.d (hoD n gens))) :
    (toD (M.bind (callM 1 F_parts_of (consM (getD 0) (ret []))) lenS)) ρ = .ok (.int (L.length : Nat)) ρ := by
  obtain ⟨ρ'', en⟩ := parts_of_ok H el hL
  have ec : callM 1 F_parts_of (consM (getD 0) (ret [])) ρ = .ok (.ls (sortD (L.map (lotD nuD)))) ρ := callM_of (xs := [hoD n gens]) (by rw [consM_ap, getD_d h, rb_ok, ret_ap, rb_ok, ret_ap]) rfl en
  have hl : (sortD (L.map (lotD nuD))).length = L.length := by unfold sortD; rw [isort_len, List.length_map]
  rw [toD_ap, bind_ap, ec, rb_ok, len_ls, rb_ok, toDO_d, ofO_some, hl]
theorem pairs_len (H : IsH n gens) {L : List (List (List Nat))} (el : lotsF (leadsT gens) 20000000 20000000 (words n 2) [] = some L) (hL : LotsOk (leadsT gens) (words n 2) L) {ρ : List SV} (h : ρ[0]? = some (.d (hoD n gens))) :
    (toD (M.bind (callM 1 F_pair_lots_of (consM (getD 0) (ret []))) lenS)) ρ = .ok (.int (L.length : Nat)) ρ := by
  obtain ⟨ρ'', en⟩ := pair_lots_of_ok H el hL
  have ec : callM 1 F_pair_lots_of (consM (getD 0) (ret [])) ρ = .ok (.ls (sortD (L.map (lotD trD)))) ρ := callM_of (xs := [hoD n gens]) (by rw [consM_ap, getD_d h, rb_ok, ret_ap, rb_ok, ret_ap]) rfl en
  have hl : (sortD (L.map (lotD trD))).length = L.length := by unfold sortD; rw [isort_len, List.length_map]
  rw [toD_ap, bind_ap, ec, rb_ok, len_ls, rb_ok, toDO_d, ofO_some, hl]
theorem transitive_ok (H : IsH n gens) {L : List (List Nat)} (el : lotsF (leadsH gens) 20000000 20000000 (List.range n) [] = some L) (hL : LotsOk (leadsH gens) (List.range n) L) : ∃ ρ', F_is_transitive [.d (hoD n gens)] = .ok (.d (.bool (decide (L.length = 1)))) ρ' := by
  refine ⟨_, bodyM_of (ρ' := [.d (hoD n gens)]) rfl ?_⟩
  show B_is_transitive [.d (hoD n gens)] = _
  unfold B_is_transitive
  rw [seqM_ap, need_call H rfl, rb_ok]
  show (retM _) [.d (hoD n gens)] = _
  have e1 : (binM (eqM false) (toD (M.bind (callM 1 F_parts_of (consM (getD 0) (ret []))) lenS)) (ret (.int 1))) [.d (hoD n gens)] = .ok (.d (.bool (decide (L.length = 1)))) [.d (hoD n gens)] := by
    rw [binM_ap, parts_len H el hL rfl, rb_ok, ret_ap, rb_ok]
    have hd : decide (((L.length : Nat) : Int) = 1) = decide (L.length = 1) := decide_eq_decide.mpr (by omega)
    rw [← hd]
    exact eq_intF _ _ _
  rw [retM_ap, e1]; rfl
theorem need_whole_ok (H : IsH n gens) {L : List (List Nat)} (el : lotsF (leadsH gens) 20000000 20000000 (List.range n) [] = some L) (hL : LotsOk (leadsH gens) (List.range n) L) (n2 : 2 ≤ n) (h1 : L.length = 1) : ∃ ρ', F_need_whole [.d (hoD n gens)] = .ok (.d .none) ρ' := by
  refine ⟨_, bodyM_nx (ρ' := [.d (hoD n gens)]) rfl ?_⟩
  show B_need_whole [.d (hoD n gens)] = _
  unfold B_need_whole
  have e1 : (tstM (binM (ordM fun i j => decide (i < j)) (toD (binP idxM 0 (ret (.int 0)))) (ret (.int 2)))) [.d (hoD n gens)] = .ok false [.d (hoD n gens)] := by
    have e := binM_of (o := ordM fun i j => decide (i < j)) (toD_d (house_at0 (n := n) (gens := gens) (ρ := [.d (hoD n gens)]) (i := 0) rfl)) (ret_ap (ρ := [.d (hoD n gens)]) (PyData.int 2))
    have e' : (ordM fun i j => decide (i < j)) (nuD n) (.int 2) [.d (hoD n gens)] = .ok (.d (.bool false)) [.d (hoD n gens)] := by
      rw [show nuD n = .int (n : Nat) from rfl, ord_of, decide_eq_false (by omega)]
    exact tstM_of (e.trans e')
  have e2 : (tstM (binM (ordM fun i j => decide (j < i)) (toD (M.bind (callM 1 F_parts_of (consM (getD 0) (ret []))) lenS)) (ret (.int 1)))) [.d (hoD n gens)] = .ok false [.d (hoD n gens)] := by
    have e := binM_of (o := ordM fun i j => decide (j < i)) (parts_len H el hL (ρ := [.d (hoD n gens)]) rfl) (ret_ap (ρ := [.d (hoD n gens)]) (PyData.int 1))
    rw [h1] at e
    exact tstM_of e
  rw [seq_nx (need_call H rfl), ifM_f ((orT_f e1).trans e2)]; rfl
end
end Nb

set_option Elab.async false
set_option linter.all false
set_option maxRecDepth 100000
set_option maxHeartbeats 4000000
namespace Nb
open PySem PySem.Spec L2 PyProof.Rows Pm
theorem set_same {ρ : List SV} {i : Nat} {w : SV} (h : ρ[i]? = some w) : ρ.set i w = ρ := by
  have hi := (List.getElem?_eq_some_iff.mp h)
  obtain ⟨h1, h2⟩ := hi
  subst h2
  exact List.set_getElem_self h1
section
variable {α : Type} [DecidableEq α] {e : α → PyData} {t : Bool} {leads : α → List α} {U : List α}
theorem in_dc (E : Enc e t) {n : Bool} {ρ : List SV} {kf kl : Nat} {f : List α} {y : α} (hf : ρ[kf]? = some (.dc t (f.map e))) (hl : ρ[kl]? = some (.d (e y))) : inN n (getD kl) kf ρ = .ok (.d (.bool (inB n (decide (y ∈ f))))) ρ := by
  unfold inN
  rw [bind_ap, getD_d hl, rb_ok]
  unfold slotM
  simp only [hf]
  show (gM (keyT t (e y) = true) (ret (SV.d (.bool (inB n (hasK (f.map e) (e y))))))) ρ = _
  rw [gM_ap, if_pos (E.key y), ret_ap, E.has]
/-- if later not in found: found[later] = True; here.append(later) -/
theorem push_ok (E : Enc e t) {ρ : List SV} {kf kh kl : Nat} {f h : List α} {y : α} (hf : ρ[kf]? = some (.dc t (f.map e))) (hh : ρ[kh]? = some (.ls (h.map e))) (hl : ρ[kl]? = some (.d (e y))) (n1 : kf ≠ kh) (n2 : kf ≠ kl) (m : Mid U f h) (hy : y ∈ U) (hU : U.length ≤ sizeLine) :
    (ifM (tstM (inN true (getD kl) kf)) (seqM (stoM kf (getD kl) (ret (.bool true))) (dropM (appM kh (getD kl)))) (ret .nx)) ρ = .ok .nx ((ρ.set kf (.dc t ((push1 (f, h) y).1.map e))).set kh (.ls ((push1 (f, h) y).2.map e))) := by
  have et := tstM_of (in_dc E (n := true) hf hl)
  have lf := (List.getElem?_eq_some_iff.mp hf).1
  rcases push_eq E (f := f) (h := h) (y := y) with ⟨hm, ep, hk⟩ | ⟨hm, ep, hk, ha⟩
  · rw [show inB true (decide (y ∈ f)) = false by simp [inB, hm]] at et
    rw [ifM_f et, ep, set_same hf, set_same hh]; rfl
  · rw [show inB true (decide (y ∈ f)) = true by simp [inB, hm]] at et
    have hr := room_new m.nd m.sub hy hm hU
    have es : stoI kf (e y) (.bool true) ρ = .ok () (ρ.set kf (.dc t ((f ++ [y]).map e))) := by
      have : stoW (e y) (.bool true) (.dc t (f.map e)) = some (.dc t (addK (f.map e) (e y))) := if_pos ⟨E.key y, by rw [List.length_map]; exact hr⟩
      unfold stoI
      simp only [hf, this, ha]
    have e1 : (stoM kf (getD kl) (ret (.bool true))) ρ = .ok .nx (ρ.set kf (.dc t ((f ++ [y]).map e))) := by
      rw [stoM_ap, ret_ap, rb_ok, hasO_of hf rfl, rb_ok, getD_d hl, rb_ok, es, rb_ok, ret_ap]
    have hh' : (ρ.set kf (.dc t ((f ++ [y]).map e)))[kh]? = some (.ls (h.map e)) := by rw [List.getElem?_set_ne n1]; exact hh
    have hl' : (ρ.set kf (.dc t ((f ++ [y]).map e)))[kl]? = some (.d (e y)) := by rw [List.getElem?_set_ne n2]; exact hl
    have e2 : (dropM (appM kh (getD kl))) (ρ.set kf (.dc t ((f ++ [y]).map e))) = .ok .nx ((ρ.set kf (.dc t ((f ++ [y]).map e))).set kh (.ls ((h ++ [y]).map e))) := by
      have hlt : h.length < sizeLine := Nat.lt_of_le_of_lt m.le hr
      rw [dropM_ap, appM_ap, hasL_of hh' rfl, rb_ok, getD_d hl', rb_ok,
        mutM_of hh' rfl (show appF (e y) (h.map e) = some (.d .none, h.map e ++ [e y]) from if_pos (by rw [List.length_map]; exact hlt)), show (h ++ [y]).map e = h.map e ++ [e y] from by simp]; rfl
    rw [ifM_t et, seq_nx e1, e2, ep]
theorem while_dfsS {a : α} {most : Nat} (hU : ∀ x ∈ U, ∀ y ∈ leads x, y ∈ U) {C : M Bool} {L : M Fl} {Lay : List α → List α → List SV → Prop} (hC : ∀ f h ρ, Lay f h ρ → C ρ = .ok (!h.isEmpty && decide (f.length ≤ most)) ρ)
    (hL : ∀ f h one ρ, Pm.Inv leads a U f (h ++ [one]) → Lay f (h ++ [one]) ρ → ∃ ρ', L ρ = .ok .nx ρ' ∧ Lay (visit (f, h) (leads one)).1 (visit (f, h) (leads one)).2 ρ') :
    ∀ (n : Nat) (f h : List α) (ρ : List SV) (r : List α), Pm.Inv leads a U f h → Lay f h ρ → dfsS leads most n (f, h) = some r → ∃ ρ' h', whileM C L n ρ = .ok .nx ρ' ∧ Lay r h' ρ'
  | 0, f, h, ρ, r, _, _, e => by cases e
  | n + 1, f, h, ρ, r, i, l, e => by
    have e00 : whileM C L (n + 1) ρ = (C ρ).bind fun b => if b then loopM L (whileM C L n) else ret .nx := rfl
    rw [e00]
    unfold dfsS at e
    cases eh : h.getLast? with
    | none =>
      rw [eh] at e
      rw [List.getLast?_eq_none_iff] at eh
      subst eh
      cases e
      exact ⟨ρ, [], by rw [hC _ _ _ l]; rfl, l⟩
    | some one =>
      rw [eh] at e
      have e' : h = h.dropLast ++ [one] := by
        have hne : h ≠ [] := fun z => by rw [z] at eh; cases eh
        have z := List.getLast?_eq_some_getLast hne
        rw [eh] at z
        have z' := Option.some.inj z
        rw [z', List.dropLast_concat_getLast]
      simp only at e
      by_cases hm : f.length ≤ most
      · rw [if_pos hm] at e
        have i' := i
        have l' := l
        rw [e'] at i' l'
        obtain ⟨ρ1, e1, l1⟩ := hL _ _ _ _ i' l'
        obtain ⟨ρ2, h', e2, l2⟩ := while_dfsS hU hC hL n _ _ ρ1 r (i'.turn hU).1 l1 e
        refine ⟨ρ2, h', ?_, l2⟩
        rw [hC _ _ _ l, e', rb_ok, decide_eq_true hm, show (!(h.dropLast ++ [one]).isEmpty && true) = true by simp]
        show (L ρ).bind _ = _
        rw [e1]
        exact e2
      · rw [if_neg hm] at e
        cases e
        refine ⟨ρ, h, ?_, l⟩
        rw [hC _ _ _ l, rb_ok, decide_eq_false hm, Bool.and_false]; rfl
end
section
variable {n : Nat} {gens : List (List Nat)}
theorem words_n8 (h : n ≤ 8) : (words n n).length ≤ 16777216 := by
  rw [words_len]
  exact Nat.le_trans (Nat.pow_le_pow_left h n) (Nat.le_trans (Nat.pow_le_pow_right (by decide) h) (by decide))
theorem visit_foldl (one : List Nat) : ∀ (gs : List (List Nat)) (s : List (List Nat) × List (List Nat)), gs.foldl (fun s g => push1 s (thenT one g)) s = visit s (gs.map fun g => thenT one g)
  | [], _ => rfl
  | g :: gs, s => visit_foldl one gs _
/-! is_small -/
def layS (n : Nat) (gens : List (List Nat)) (most : Nat) (w2 : SV) (f h : List (List Nat)) (ρ : List SV) : Prop :=
  ∃ w5 w6 w7, nbr w5 ∧ nbr w6 ∧ nbr w7 ∧ ρ = [.d (hoD n gens), .d (nuD most), w2, .dc true (f.map trD), .ls (h.map trD), w5, w6, w7] ∧ Mid (words n n) f h
theorem small_turn1 (H : IsH n gens) {most : Nat} {w2 : SV} {f h : List (List Nat)} {one : List Nat} {ρ : List SV} (i : Pm.Inv (leadsT gens) (List.range n) (words n n) f (h ++ [one])) (l : layS n gens most w2 f (h ++ [one]) ρ) :
    ∃ ρ', L_is_small_0 ρ = .ok .nx ρ' ∧ layS n gens most w2 (visit (f, h) (leadsT gens one)).1 (visit (f, h) (leadsT gens one)).2 ρ' := by
  obtain ⟨w5, w6, w7, h5, h6, h7, rfl, m⟩ := l
  have h1 : one ∈ words n n := i.sub one (i.hin one (by simp))
  obtain ⟨o1, o2⟩ := mem_words.mp h1
  have m0 : Mid (words n n) f h := ⟨m.nd, m.sub, by have := m.le; simp at this; omega⟩
  obtain ⟨ρ', e1, w6', w7', k6, k7, er, m'⟩ := for_fold (g := gN 6) (body := L_is_small_1) (enc := trD) (step := fun s g => push1 s (thenT one g)) (P := fun g => g ∈ gens)
    (R := fun s ρ => ∃ w6 w7, nbr w6 ∧ nbr w7 ∧ ρ = [.d (hoD n gens), .d (nuD most), w2, .dc true (s.1.map trD), .ls (s.2.map trD), .d (trD one), w6, w7] ∧ Mid (words n n) s.1 s.2)
    (fun s g ρ hg ⟨w6, w7, k6, k7, er, m⟩ => by
      obtain ⟨f, h⟩ := s
      subst er
      have hy : thenT one g ∈ words n n := words_closed H.gt one h1 _ (List.mem_map.mpr ⟨g, hg, rfl⟩)
      refine ⟨_, _, setO_of (u := w6) rfl k6, ?_, .d (trD g), .d (trD (thenT one g)), nbr_d _, nbr_d _, rfl, m.push hy⟩
      obtain ⟨ρ'', et⟩ := then_ok (a := one) (b := g) (fun x hx => by rw [(H.gt g hg).len]; exact o2 x hx) (by have := H.n8; omega)
      have ec : callM 2 F_then (consM (getD 5) (consM (getD 6) (ret []))) [.d (hoD n gens), .d (nuD most), w2, .dc true (f.map trD), .ls (h.map trD), .d (trD one), .d (trD g), w7] = .ok (.d (trD (thenT one g))) [.d (hoD n gens), .d (nuD most), w2, .dc true (f.map trD), .ls (h.map trD), .d (trD one), .d (trD g), w7] :=
        callM_of (xs := [trD one, trD g]) rfl rfl et
      unfold L_is_small_1
      show (seqM _ _) [.d (hoD n gens), .d (nuD most), w2, .dc true (f.map trD), .ls (h.map trD), .d (trD one), .d (trD g), w7] = _
      rw [seq_nx (setM_of ec (u := w7) rfl k7)]
      exact push_ok enc_trD (ρ := [.d (hoD n gens), .d (nuD most), w2, .dc true (f.map trD), .ls (h.map trD), .d (trD one), .d (trD g), .d (trD (thenT one g))]) rfl rfl rfl (by decide) (by decide) m hy (words_n8 H.n8)) gens (f, h)
    [.d (hoD n gens), .d (nuD most), w2, .dc true (f.map trD), .ls (h.map trD), .d (trD one), w6, w7] (fun g hg => hg) ⟨w6, w7, h6, h7, rfl, m0⟩
  rw [visit_foldl] at er m'
  refine ⟨ρ', ?_, .d (trD one), w6', w7', nbr_d _, k6, k7, er, m'⟩
  unfold L_is_small_0
  have e0 : (setM 5 (popM 4)) [.d (hoD n gens), .d (nuD most), w2, .dc true (f.map trD), .ls ((h ++ [one]).map trD), w5, w6, w7] = .ok .nx [.d (hoD n gens), .d (nuD most), w2, .dc true (f.map trD), .ls (h.map trD), .d (trD one), w6, w7] := by
    have ep : (popM 4) [.d (hoD n gens), .d (nuD most), w2, .dc true (f.map trD), .ls ((h ++ [one]).map trD), w5, w6, w7] = .ok (.d (trD one)) [.d (hoD n gens), .d (nuD most), w2, .dc true (f.map trD), .ls (h.map trD), w5, w6, w7] := by
      rw [popM_ap]
      exact mutM_of (w := .ls ((h ++ [one]).map trD)) rfl rfl pop_last
    exact setM_of ep (u := w5) rfl h5
  rw [seq_nx e0, forS_ap, gens_at rfl, rb_ok, e1]
theorem is_small_ok (H : IsH n gens) (most : Nat) {G : List (List Nat)} (hG : IsG n gens G) : ∃ ρ', F_is_small [.d (hoD n gens), .d (nuD most)] = .ok (.d (.bool (decide (G.length ≤ most)))) ρ' := by
  have hid : List.range n ∈ words n n := mem_words.mpr ⟨by simp, fun x hx => List.mem_range.mp hx⟩
  obtain ⟨r, ed, nd, sub, iff⟩ := dfsS_ok (most := most) (words_closed H.gt) hid (n := 20000000) (Nat.lt_of_le_of_lt (words_n8 H.n8) (by decide)) hG.nd hG.mem
  have eC : ∀ f h ρ, layS n gens most (.d (trD (List.range n))) f h ρ → C_is_small_0 ρ = .ok (!h.isEmpty && decide (f.length ≤ most)) ρ := fun f h ρ ⟨w5, w6, w7, h5, h6, h7, er, m⟩ => by
    subst er
    unfold C_is_small_0
    have e1 : (truM (peek 4)) [.d (hoD n gens), .d (nuD most), .d (trD (List.range n)), .dc true (f.map trD), .ls (h.map trD), w5, w6, w7] = .ok (!h.isEmpty) [.d (hoD n gens), .d (nuD most), .d (trD (List.range n)), .dc true (f.map trD), .ls (h.map trD), w5, w6, w7] := by
      rw [truM_ap, peek_of (w := .ls (h.map trD)) (x := .list (h.map trD)) rfl rfl, rb_ok]
      have : truO (.list (h.map trD)) = some (!h.isEmpty) := by show some (!(h.map trD).isEmpty) = _; rw [List.isEmpty_map]
      rw [this]; rfl
    have e2 : (tstM (binM (ordM fun i j => decide (i ≤ j)) (toD (lenN 3)) (getD 1))) [.d (hoD n gens), .d (nuD most), .d (trD (List.range n)), .dc true (f.map trD), .ls (h.map trD), w5, w6, w7] = .ok (decide (f.length ≤ most)) [.d (hoD n gens), .d (nuD most), .d (trD (List.range n)), .dc true (f.map trD), .ls (h.map trD), w5, w6, w7] := by
      have el : (toD (lenN 3)) [.d (hoD n gens), .d (nuD most), .d (trD (List.range n)), .dc true (f.map trD), .ls (h.map trD), w5, w6, w7] = .ok (.int ((f.map trD).length : Nat)) [.d (hoD n gens), .d (nuD most), .d (trD (List.range n)), .dc true (f.map trD), .ls (h.map trD), w5, w6, w7] := rfl
      have eb := binM_of (o := ordM fun i j => decide (i ≤ j)) el (getD_d (x := nuD most) (i := 1) rfl)
      rw [show nuD most = .int (most : Nat) from rfl, ord_of, List.length_map, show decide ((f.length : Int) ≤ (most : Int)) = decide (f.length ≤ most) from decide_eq_decide.mpr (by omega)] at eb
      exact tstM_of eb
    cases h with
    | nil => exact andT_f e1
    | cons x r => exact (andT_t e1).trans e2
  obtain ⟨ρ', h', ew, w5, w6, w7, h5, h6, h7, er, m⟩ := while_dfsS (a := List.range n) (most := most) (words_closed H.gt) (C := C_is_small_0) (L := L_is_small_0) (Lay := layS n gens most (.d (trD (List.range n)))) eC (fun f h one ρ i l => small_turn1 H i l) 20000000 [List.range n] [List.range n]
    [.d (hoD n gens), .d (nuD most), .d (trD (List.range n)), .dc true ([List.range n].map trD), .ls ([List.range n].map trD), .un, .un, .un] r (.start hid) ⟨.un, .un, .un, nbr_un, nbr_un, nbr_un, rfl, ⟨by simp, by simpa using hid, Nat.le_refl _⟩⟩ ed
  subst er
  obtain ⟨ρs, es⟩ := still_ok (n := n) (by have := H.n8; omega)
  have ec : callM 1 F_still (consM (toD (binP idxM 0 (ret (.int 0)))) (ret [])) [.d (hoD n gens), .d (nuD most), .un, .un, .un, .un, .un, .un] = .ok (.d (trD (List.range n))) [.d (hoD n gens), .d (nuD most), .un, .un, .un, .un, .un, .un] :=
    callM_of (xs := [nuD n]) (by rw [consM_ap, toD_d (house_at0 rfl), rb_ok, ret_ap, rb_ok, ret_ap]) rfl es
  have ep : (parM 3 4 (disp1M (getD 2) (ret (.bool true))) (lstM (consM (getD 2) (ret [])))) [.d (hoD n gens), .d (nuD most), .d (trD (List.range n)), .un, .un, .un, .un, .un] = .ok .nx [.d (hoD n gens), .d (nuD most), .d (trD (List.range n)), .dc true [trD (List.range n)], .ls [trD (List.range n)], .un, .un, .un] := by
    have e1 : (disp1M (getD 2) (ret (.bool true))) [.d (hoD n gens), .d (nuD most), .d (trD (List.range n)), .un, .un, .un, .un, .un] = .ok (.dc true [trD (List.range n)]) [.d (hoD n gens), .d (nuD most), .d (trD (List.range n)), .un, .un, .un, .un, .un] := by
      show (gM (keyT true (trD (List.range n)) = true) (ret (SV.dc true [trD (List.range n)]))) _ = _
      rw [gM_ap, if_pos (enc_trD.key _)]; rfl
    have e2 : (lstM (consM (getD 2) (ret []))) [.d (hoD n gens), .d (nuD most), .d (trD (List.range n)), .un, .un, .un, .un, .un] = .ok (.ls [trD (List.range n)]) [.d (hoD n gens), .d (nuD most), .d (trD (List.range n)), .un, .un, .un, .un, .un] := by
      show (fits [trD (List.range n)] (ret (SV.ls [trD (List.range n)]))) _ = _
      rw [fits_ap, if_pos (show ([trD (List.range n)] : List PyData).length ≤ sizeLine from (show 1 ≤ sizeLine by decide))]; rfl
    rw [parM_ap, e1, rb_ok, e2, rb_ok]; rfl
  refine ⟨_, bodyM_of (ρ' := [.d (hoD n gens), .d (nuD most), .d (trD (List.range n)), .dc true (r.map trD), .ls (h'.map trD), w5, w6, w7]) rfl ?_⟩
  show B_is_small [.d (hoD n gens), .d (nuD most), .un, .un, .un, .un, .un, .un] = _
  unfold B_is_small
  rw [seq_nx (setM_of ec (u := .un) rfl nbr_un)]
  show (seqM _ _) [.d (hoD n gens), .d (nuD most), .d (trD (List.range n)), .un, .un, .un, .un, .un] = _
  rw [seq_nx ep]
  show (seqM _ _) [.d (hoD n gens), .d (nuD most), .d (trD (List.range n)), .dc true ([List.range n].map trD), .ls ([List.range n].map trD), .un, .un, .un] = _
  rw [seq_nx ew]
  have el : (toD (lenN 3)) [.d (hoD n gens), .d (nuD most), .d (trD (List.range n)), .dc true (r.map trD), .ls (h'.map trD), w5, w6, w7] = .ok (.int ((r.map trD).length : Nat)) [.d (hoD n gens), .d (nuD most), .d (trD (List.range n)), .dc true (r.map trD), .ls (h'.map trD), w5, w6, w7] := rfl
  have eb := binM_of (o := ordM fun i j => decide (i ≤ j)) el (getD_d (x := nuD most) (i := 1) rfl)
  rw [show nuD most = .int (most : Nat) from rfl, ord_of, List.length_map, show decide ((r.length : Int) ≤ (most : Int)) = decide (G.length ≤ most) from decide_eq_decide.mpr (by omega)] at eb
  exact retM_of eb
end
end Nb

set_option Elab.async false
set_option linter.all false
set_option maxRecDepth 100000
set_option maxHeartbeats 4000000
namespace Nb
open PySem PySem.Spec L2 PyProof.Rows Pm
theorem ifM_fn {ρ ρ1 : List SV} {A : M Bool} {a : M Fl} (h : A ρ = .ok false ρ1) : ifM A a (ret .nx) ρ = .ok .nx ρ1 := by rw [ifM_ap, h]; rfl
section
variable {n : Nat} {gens : List (List Nat)}
theorem group_ok (H : IsH n gens) : ∃ G, dfs (leadsT gens) 20000000 ([List.range n], [List.range n]) = some G ∧ IsG n gens G ∧ ∀ x ∈ G, x ∈ words n n := by
  have hid : List.range n ∈ words n n := mem_words.mpr ⟨by simp, fun x hx => List.mem_range.mp hx⟩
  obtain ⟨r, ed, nd, mem, sub⟩ := dfs_ok (leads := leadsT gens) (words_closed H.gt) hid (n := 20000000) (Nat.lt_of_le_of_lt (words_n8 H.n8) (by decide))
  exact ⟨r, ed, ⟨nd, mem⟩, sub⟩
theorem nn1 {n : Nat} (h : 1 ≤ n) : (n : Int) * ((n : Int) - 1) = ((n * (n - 1) : Nat) : Int) := by
  rw [Int.natCast_mul, Int.natCast_sub h]; rfl
theorem mul_ok {i j : Int} (h : -(2 ^ 64) < i ∧ i < 2 ^ 64) (ρ : List SV) : mulM (.int i) (.int j) ρ = .ok (.d (.int (i * j))) ρ := by
  show (gM ((-(2 ^ 64) < i ∧ i < 2 ^ 64) ∨ (-(2 ^ 64) < j ∧ j < 2 ^ 64)) (ret (SV.d (.int (i * j))))) ρ = _
  rw [gM_ap, if_pos (.inl h), ret_ap]
theorem small64 {n : Nat} (h : n ≤ 1000) : -(2 ^ 64) < ((n : Nat) : Int) ∧ ((n : Nat) : Int) < 2 ^ 64 := by
  have e1 : (1000 : Int) < 2 ^ 64 := by decide
  have e2 : -(2 ^ 64) < (0 : Int) := by decide
  exact ⟨Int.lt_of_lt_of_le e2 (Int.natCast_nonneg n), Int.lt_of_le_of_lt (Int.ofNat_le.mpr h) e1⟩
/-- halls * (halls - 1) -/
theorem nn1_at {ρ : List SV} (h1 : 1 ≤ n) (h8 : n ≤ 1000) {i : Nat} (h : ρ[i]? = some (.d (hoD n gens))) : (toD (binM mulM (toD (binP idxM i (ret (.int 0)))) (toD (binM subM (toD (binP idxM i (ret (.int 0)))) (ret (.int 1)))))) ρ = .ok (nuD (n * (n - 1))) ρ := by
  have e0 := toD_d (house_at0 h)
  have e1 : (toD (binM subM (toD (binP idxM i (ret (.int 0)))) (ret (.int 1)))) ρ = .ok (.int ((n : Int) - 1)) ρ := toD_d ((binM_of e0 (ret_ap (PyData.int 1))).trans (sub_i _ _))
  have e2 := (binM_of (o := mulM) e0 e1).trans (mul_ok (i := (n : Int)) (j := (n : Int) - 1) (small64 h8) ρ)
  rw [nn1 h1] at e2
  exact toD_d e2
theorem is_sharp_ok (H : IsH n gens) (n2 : 2 ≤ n) {LH : List (List Nat)} {LP : List (List (List Nat))} {G : List (List Nat)} (el : lotsF (leadsH gens) 20000000 20000000 (List.range n) [] = some LH) (hL : LotsOk (leadsH gens) (List.range n) LH)
    (el2 : lotsF (leadsT gens) 20000000 20000000 (words n 2) [] = some LP) (hL2 : LotsOk (leadsT gens) (words n 2) LP) (hG : IsG n gens G) (h1 : LH.length = 1) :
    ∃ ρ', F_is_sharp [.d (hoD n gens)] = .ok (.d (.bool (decide (LP.length = 2) && decide (G.length ≤ n * (n - 1))))) ρ' := by
  obtain ⟨ρ1, en⟩ := need_whole_ok H el hL n2 h1
  have ec : callM 1 F_need_whole (consM (getD 0) (ret [])) [.d (hoD n gens)] = .ok (.d .none) [.d (hoD n gens)] := callM_of (xs := [hoD n gens]) rfl rfl en
  obtain ⟨ρ2, es⟩ := is_small_ok H (n * (n - 1)) hG
  have ec2 : callM 2 F_is_small (consM (getD 0) (consM (toD (binM mulM (toD (binP idxM 0 (ret (.int 0)))) (toD (binM subM (toD (binP idxM 0 (ret (.int 0)))) (ret (.int 1)))))) (ret []))) [.d (hoD n gens)] = .ok (.d (.bool (decide (G.length ≤ n * (n - 1))))) [.d (hoD n gens)] :=
    callM_of (xs := [hoD n gens, nuD (n * (n - 1))]) (by rw [consM_ap, getD_d (x := hoD n gens) rfl, rb_ok, consM_ap, nn1_at (by omega) (by have := H.n8; omega) rfl, rb_ok, ret_ap, rb_ok, ret_ap, rb_ok, ret_ap]) rfl es
  have e1 : (toD (binM (eqM false) (toD (M.bind (callM 1 F_pair_lots_of (consM (getD 0) (ret []))) lenS)) (ret (.int 2)))) [.d (hoD n gens)] = .ok (.bool (decide (LP.length = 2))) [.d (hoD n gens)] := by
    have e := (binM_of (o := eqM false) (pairs_len H el2 hL2 (ρ := [.d (hoD n gens)]) rfl) (ret_ap (PyData.int 2))).trans (eq_intF _ _ _)
    rw [show decide (((LP.length : Nat) : Int) = 2) = decide (LP.length = 2) from decide_eq_decide.mpr (by omega)] at e
    exact toD_d e
  have e2 : (retM (andV (toD (binM (eqM false) (toD (M.bind (callM 1 F_pair_lots_of (consM (getD 0) (ret []))) lenS)) (ret (.int 2)))) (callM 2 F_is_small (consM (getD 0) (consM (toD (binM mulM (toD (binP idxM 0 (ret (.int 0)))) (toD (binM subM (toD (binP idxM 0 (ret (.int 0)))) (ret (.int 1)))))) (ret [])))))) [.d (hoD n gens)] = .ok (.rt (.d (.bool (decide (LP.length = 2) && decide (G.length ≤ n * (n - 1)))))) [.d (hoD n gens)] := by
    by_cases h2 : LP.length = 2
    · rw [decide_eq_true h2] at e1
      rw [decide_eq_true h2, Bool.true_and]
      exact retM_of ((andV_t e1).trans ec2)
    · rw [decide_eq_false h2] at e1
      rw [decide_eq_false h2, Bool.false_and]
      exact retM_of (andV_f e1)
  refine ⟨_, bodyM_of (ρ' := [.d (hoD n gens)]) rfl ?_⟩
  show B_is_sharp [.d (hoD n gens)] = _
  unfold B_is_sharp
  rw [seq_nx (dropM_of ec)]
  exact e2
/-- sharp, by the lots of pairs and the group's order -/
def Shp (n : Nat) (LP : List (List (List Nat))) (G : List (List Nat)) : Bool := decide (LP.length = 2) && decide (G.length = n * (n - 1))
theorem shp_iff (H : IsH n gens) (n2 : 2 ≤ n) {LH : List (List Nat)} {LP : List (List (List Nat))} {G : List (List Nat)} (hL : LotsOk (leadsH gens) (List.range n) LH) (hL2 : LotsOk (leadsT gens) (words n 2) LP) (hG : IsG n gens G) :
    Shp n LP G = (decide (LH.length = 1) && (decide (LP.length = 2) && decide (G.length ≤ n * (n - 1)))) := by
  unfold Shp
  by_cases h2 : LP.length = 2
  · have t := (two_lots H.gt n2 hL2).mp h2
    have h1 : LH.length = 1 := (hL.one (a := 0) (List.mem_range.mpr (by omega)) (fun x hx y r => hall_sym H.gt hx r)).mpr fun x hx => t.diag x (List.mem_range.mp hx)
    have hb := t.big H.gt n2 H.n8 hG
    rw [decide_eq_true h2, decide_eq_true h1, Bool.true_and, Bool.true_and, Bool.true_and]
    exact decide_eq_decide.mpr ⟨fun h => by omega, fun h => by omega⟩
  · rw [decide_eq_false h2]; simp
theorem need_halls_ok (n2 : 2 ≤ n) (n8 : n ≤ 8) : ∃ ρ', F_need_halls [.d (nuD n)] = .ok (.d .none) ρ' := by
  obtain ⟨ρ'', en⟩ := num_ok (v := (n : Int)) (lo := 2) (hi := 8)
  have hb : (decide ((2 : Int) ≤ n) && decide ((n : Int) ≤ 8)) = true := by simp; omega
  rw [hb] at en
  have ec : callM 3 F_is_number (consM (getD 0) (consM (ret (.int 2)) (consM (ret (.int 8)) (ret [])))) [.d (nuD n)] = .ok (.d (.bool true)) [.d (nuD n)] := callM_of (xs := [nuD n, .int 2, .int 8]) rfl rfl en
  refine ⟨_, bodyM_nx (ρ' := [.d (nuD n)]) rfl ?_⟩
  show B_need_halls [.d (nuD n)] = _
  unfold B_need_halls
  rw [ifM_f (notT_of (truM_b (toD_d ec)))]; rfl
theorem shows_ok (H : IsH n gens) (n2 : 2 ≤ n) {LP : List (List (List Nat))} {G : List (List Nat)} (el2 : lotsF (leadsT gens) 20000000 20000000 (words n 2) [] = some LP) (hL2 : LotsOk (leadsT gens) (words n 2) LP) (hG : IsG n gens G) :
    ∃ ρ', F_shows_sharp [.d (nuD n), .d (hoD n gens)] = .ok (.d (.bool (Shp n LP G))) ρ' := by
  obtain ⟨LH, el, hL⟩ := lots_halls H
  rw [shp_iff H n2 hL hL2 hG]
  obtain ⟨ρ1, e1⟩ := need_halls_ok (n := n) n2 H.n8
  have c1 : callM 1 F_need_halls (consM (getD 0) (ret [])) [.d (nuD n), .d (hoD n gens)] = .ok (.d .none) [.d (nuD n), .d (hoD n gens)] := callM_of (xs := [nuD n]) rfl rfl e1
  have c2 : (tstM (binM (isNM false) (getD 1) (ret (.none)))) [.d (nuD n), .d (hoD n gens)] = .ok false [.d (nuD n), .d (hoD n gens)] := rfl
  obtain ⟨ρ2, e2⟩ := is_house_ok H
  have c3 : callM 1 F_is_house (consM (getD 1) (ret [])) [.d (nuD n), .d (hoD n gens)] = .ok (.d (.bool true)) [.d (nuD n), .d (hoD n gens)] := callM_of (xs := [hoD n gens]) rfl rfl e2
  have c4 : (tstM (binM (eqM true) (toD (binP idxM 1 (ret (.int 0)))) (getD 0))) [.d (nuD n), .d (hoD n gens)] = .ok false [.d (nuD n), .d (hoD n gens)] := by
    have e := (binM_of (o := eqM true) (toD_d (house_at0 (n := n) (gens := gens) (ρ := [.d (nuD n), .d (hoD n gens)]) (i := 1) rfl)) (getD_d (x := nuD n) (i := 0) rfl)).trans (eq_intT _ _ _)
    rw [decide_eq_true rfl] at e
    exact tstM_of e
  obtain ⟨ρ3, e3⟩ := transitive_ok H el hL
  have c5 : callM 1 F_is_transitive (consM (getD 1) (ret [])) [.d (nuD n), .d (hoD n gens)] = .ok (.d (.bool (decide (LH.length = 1)))) [.d (nuD n), .d (hoD n gens)] := callM_of (xs := [hoD n gens]) rfl rfl e3
  have c6 : (orT (notT (truM (toD (callM 1 F_is_house (consM (getD 1) (ret [])))))) (orT (tstM (binM (eqM true) (toD (binP idxM 1 (ret (.int 0)))) (getD 0))) (notT (truM (toD (callM 1 F_is_transitive (consM (getD 1) (ret [])))))))) [.d (nuD n), .d (hoD n gens)] = .ok (!decide (LH.length = 1)) [.d (nuD n), .d (hoD n gens)] :=
    (orT_f (notT_of (truM_b (toD_d c3)))).trans ((orT_f c4).trans (notT_of (truM_b (toD_d c5))))
  refine ⟨_, bodyM_of (ρ' := [.d (nuD n), .d (hoD n gens)]) rfl ?_⟩
  show B_shows_sharp [.d (nuD n), .d (hoD n gens)] = _
  unfold B_shows_sharp
  rw [seq_nx (dropM_of c1), seq_nx (ifM_fn c2)]
  by_cases h1 : LH.length = 1
  · rw [decide_eq_true h1] at c6 ⊢
    rw [seq_nx (ifM_fn c6), Bool.true_and]
    obtain ⟨ρ4, e4⟩ := is_sharp_ok H n2 el hL el2 hL2 hG h1
    exact retM_of (callM_of (xs := [hoD n gens]) rfl rfl e4)
  · rw [decide_eq_false h1] at c6 ⊢
    rw [seq_rt ((ifM_t c6).trans (retM_of (toV_of (ret_ap _)))), Bool.false_and]
end
end Nb

set_option Elab.async false
set_option linter.all false
set_option maxRecDepth 100000
set_option maxHeartbeats 4000000
namespace Nb
open PySem PySem.Spec L2 PyProof.Rows Pm
theorem eqv_nil (xs : List PyData) : PyData.eqv (.list xs) (.list []) = xs.isEmpty := by cases xs <;> simp [PyData.eqv, PyData.eqvAll]
theorem nil_lst (ρ : List SV) : (toD (lstM (ret []))) ρ = .ok (.list []) ρ := by
  rw [toD_ap, lstM_ap, ret_ap, rb_ok, fits_ap, if_pos (show ([] : List PyData).length ≤ sizeLine from Nat.zero_le _), ret_ap, rb_ok, toDO_ls, ofO_some]
theorem listne_ok {ρ : List SV} {i : Nat} {xs : List PyData} (h : ρ[i]? = some (.ls xs)) (hk : xs.all (okD 5) = true) : (tstM (binP (eqM true) i (toD (lstM (ret []))))) ρ = .ok (!xs.isEmpty) ρ := by
  have e1 : (binP (eqM true) i (toD (lstM (ret [])))) ρ = eqM true (.list xs) (.list []) ρ := by
    rw [binP_ap, peek_of (w := .ls xs) h rfl, rb_ok, nil_lst, rb_ok, peek_of (w := .ls xs) h rfl, rb_ok]
  have e2 : eqM true (.list xs) (.list []) ρ = .ok (.d (.bool (!xs.isEmpty))) ρ :=
    eqM_of (n := true) (okD_shaped (k := 6) (d := .list xs) hk (by decide)) (okD_shaped (k := 6) (d := .list []) rfl (by decide)) (eqv_nil xs) ρ
  exact tstM_of (e1.trans e2)
theorem ok_trs (h : List (List Nat)) : (h.map trD).all (okD 5) = true := by
  rw [List.all_map]
  exact List.all_eq_true.mpr fun t _ => okD_trD 4 t
theorem one_lst {g : M PyData} {x : PyData} {ρ ρ1 : List SV} (h : g ρ = .ok x ρ1) : (lstM (consM g (ret []))) ρ = .ok (.ls [x]) ρ1 := by
  rw [lstM_ap, consM_ap, h, rb_ok, ret_ap, rb_ok, ret_ap, rb_ok, fits_ap, if_pos (show ([x] : List PyData).length ≤ sizeLine from (show 1 ≤ sizeLine by decide)), ret_ap]
section
variable {n : Nat} {gens : List (List Nat)}
def layM (n : Nat) (gens f h : List (List Nat)) (ρ : List SV) : Prop :=
  ∃ w4 w5 w6, nbr w4 ∧ nbr w5 ∧ nbr w6 ∧ ρ = [.d (.tuple (gens.map trD)), .d (nuD n), .dc true (f.map trD), .ls (h.map trD), w4, w5, w6, .un] ∧ Mid (words n n) f h
theorem mem_then {a b : List Nat} (h : ∀ x ∈ a, x < b.length) (hl : a.length ≤ 1000) {x0 x1 x2 x3 w6 : SV} :
    (M.bind (toD (lcM [7] (seqI (getD 4)) (gN 7) yesM (toD (binP idxM 5 (getD 7))))) tupcM) [x0, x1, x2, x3, .d (trD a), .d (trD b), w6, .un] = .ok (.d (trD (thenT a b))) [x0, x1, x2, x3, .d (trD a), .d (trD b), w6, .un] := by
  have e := lcM_map (vs := [7]) (it := seqI (getD 4)) (g := gN 7) (te := toD (binP idxM 5 (getD 7))) (f := fun x => .int (b.getD (intN x) 0 : Nat)) (ρ := [x0, x1, x2, x3, .d (trD a), .d (trD b), w6, .un]) (ρ' := [x0, x1, x2, x3, .d (trD a), .d (trD b), w6, .un]) (ρ1 := [x0, x1, x2, x3, .d (trD a), .d (trD b), w6, .un]) (xs := a.map fun n => PyData.int (n : Nat)) rfl rfl
    (small_len hl) fun x hx => by
      obtain ⟨n, hn, rfl⟩ := List.mem_map.mp hx
      refine ⟨[x0, x1, x2, x3, .d (trD a), .d (trD b), w6, .d (.int (n : Nat))], rfl, ?_, rfl⟩
      have e : (binP idxM 5 (getD 7)) [x0, x1, x2, x3, .d (trD a), .d (trD b), w6, .d (.int (n : Nat))] = .ok (.d (.int (b.getD n 0 : Nat))) [x0, x1, x2, x3, .d (trD a), .d (trD b), w6, .d (.int (n : Nat))] := idx_tup (at_trD (h n hn)) _
      exact toD_d e
  rw [then_lc h hl _ (fun n => rfl)] at e
  rw [bind_ap, toD_ls e, rb_ok]; rfl
theorem mem_turn1 (H : IsH n gens) {f h : List (List Nat)} {one : List Nat} {ρ : List SV} (i : Pm.Inv (leadsT gens) (List.range n) (words n n) f (h ++ [one])) (l : layM n gens f (h ++ [one]) ρ) :
    ∃ ρ', L__law_members_0 ρ = .ok .nx ρ' ∧ layM n gens (visit (f, h) (leadsT gens one)).1 (visit (f, h) (leadsT gens one)).2 ρ' := by
  obtain ⟨w4, w5, w6, h4, h5, h6, rfl, m⟩ := l
  have h1 : one ∈ words n n := i.sub one (i.hin one (by simp))
  obtain ⟨o1, o2⟩ := mem_words.mp h1
  have m0 : Mid (words n n) f h := ⟨m.nd, m.sub, by have := m.le; simp at this; omega⟩
  obtain ⟨ρ', e1, w5', w6', k5, k6, er, m'⟩ := for_fold (g := gN 5) (body := L__law_members_1) (enc := trD) (step := fun s g => push1 s (thenT one g)) (P := fun g => g ∈ gens)
    (R := fun s ρ => ∃ w5 w6, nbr w5 ∧ nbr w6 ∧ ρ = [.d (.tuple (gens.map trD)), .d (nuD n), .dc true (s.1.map trD), .ls (s.2.map trD), .d (trD one), w5, w6, .un] ∧ Mid (words n n) s.1 s.2)
    (fun s g ρ hg ⟨w5, w6, k5, k6, er, m⟩ => by
      obtain ⟨f, h⟩ := s
      subst er
      have hy : thenT one g ∈ words n n := words_closed H.gt one h1 _ (List.mem_map.mpr ⟨g, hg, rfl⟩)
      refine ⟨_, _, setO_of (u := w5) rfl k5, ?_, .d (trD g), .d (trD (thenT one g)), nbr_d _, nbr_d _, rfl, m.push hy⟩
      unfold L__law_members_1
      show (seqM _ _) [.d (.tuple (gens.map trD)), .d (nuD n), .dc true (f.map trD), .ls (h.map trD), .d (trD one), .d (trD g), w6, .un] = _
      rw [seq_nx (setM_of (mem_then (fun x hx => by rw [(H.gt g hg).len]; exact o2 x hx) (by have := H.n8; omega)) (u := w6) rfl k6)]
      exact push_ok enc_trD (ρ := [.d (.tuple (gens.map trD)), .d (nuD n), .dc true (f.map trD), .ls (h.map trD), .d (trD one), .d (trD g), .d (trD (thenT one g)), .un]) rfl rfl rfl (by decide) (by decide) m hy (words_n8 H.n8)) gens (f, h)
    [.d (.tuple (gens.map trD)), .d (nuD n), .dc true (f.map trD), .ls (h.map trD), .d (trD one), w5, w6, .un] (fun g hg => hg) ⟨w5, w6, h5, h6, rfl, m0⟩
  rw [visit_foldl] at er m'
  refine ⟨ρ', ?_, .d (trD one), w5', w6', nbr_d _, k5, k6, er, m'⟩
  unfold L__law_members_0
  have e0 : (setM 4 (popM 3)) [.d (.tuple (gens.map trD)), .d (nuD n), .dc true (f.map trD), .ls ((h ++ [one]).map trD), w4, w5, w6, .un] = .ok .nx [.d (.tuple (gens.map trD)), .d (nuD n), .dc true (f.map trD), .ls (h.map trD), .d (trD one), w5, w6, .un] := by
    have ep : (popM 3) [.d (.tuple (gens.map trD)), .d (nuD n), .dc true (f.map trD), .ls ((h ++ [one]).map trD), w4, w5, w6, .un] = .ok (.d (trD one)) [.d (.tuple (gens.map trD)), .d (nuD n), .dc true (f.map trD), .ls (h.map trD), w4, w5, w6, .un] := by
      rw [popM_ap]
      exact mutM_of (w := .ls ((h ++ [one]).map trD)) rfl rfl pop_last
    exact setM_of ep (u := w4) rfl h4
  rw [seq_nx e0, forS_ap, show (seqI (getD 0)) [.d (.tuple (gens.map trD)), .d (nuD n), .dc true (f.map trD), .ls (h.map trD), .d (trD one), w5, w6, .un] = .ok (gens.map trD) [.d (.tuple (gens.map trD)), .d (nuD n), .dc true (f.map trD), .ls (h.map trD), .d (trD one), w5, w6, .un] from rfl, rb_ok, e1]
theorem members_ok (H : IsH n gens) : ∃ G, IsG n gens G ∧ ∃ ρ', F__law_members [.d (.tuple (gens.map trD)), .d (nuD n)] = .ok (.ls (G.map trD)) ρ' := by
  have hid : List.range n ∈ words n n := mem_words.mpr ⟨by simp, fun x hx => List.mem_range.mp hx⟩
  obtain ⟨r, ed, hG, sub⟩ := group_ok H
  refine ⟨r, hG, ?_⟩
  have eC : ∀ f h ρ, layM n gens f h ρ → C__law_members_0 ρ = .ok (!h.isEmpty) ρ := fun f h ρ ⟨w4, w5, w6, h4, h5, h6, er, m⟩ => by
    subst er
    unfold C__law_members_0
    rw [listne_ok (xs := h.map trD) rfl (ok_trs h), List.isEmpty_map]
  obtain ⟨ρ', ew, w4, w5, w6, h4, h5, h6, er, m⟩ := while_dfs (a := List.range n) (words_closed H.gt) (C := C__law_members_0) (L := L__law_members_0) (Lay := layM n gens) eC (fun f h one ρ i l => mem_turn1 H i l) 20000000 [List.range n] [List.range n]
    [.d (.tuple (gens.map trD)), .d (nuD n), .dc true ([List.range n].map trD), .ls ([List.range n].map trD), .un, .un, .un, .un] r (.start hid) ⟨.un, .un, .un, nbr_un, nbr_un, nbr_un, rfl, ⟨by simp, by simpa using hid, Nat.le_refl _⟩⟩ ed
  subst er
  have et : (toD (M.bind (getD 1) trgM)) [.d (.tuple (gens.map trD)), .d (nuD n), .un, .un, .un, .un, .un, .un] = .ok (trD (List.range n)) [.d (.tuple (gens.map trD)), .d (nuD n), .un, .un, .un, .un, .un, .un] := by
    refine toD_d ?_
    rw [bind_ap, getD_d (x := nuD n) rfl, rb_ok]
    exact trg_ok (by have := H.n8; omega) _
  have ep : (parM 2 3 (disp1M (toD (M.bind (getD 1) trgM)) (ret (.bool true))) (lstM (consM (toD (M.bind (getD 1) trgM)) (ret [])))) [.d (.tuple (gens.map trD)), .d (nuD n), .un, .un, .un, .un, .un, .un] = .ok .nx [.d (.tuple (gens.map trD)), .d (nuD n), .dc true [trD (List.range n)], .ls [trD (List.range n)], .un, .un, .un, .un] := by
    have e1 : (disp1M (toD (M.bind (getD 1) trgM)) (ret (.bool true))) [.d (.tuple (gens.map trD)), .d (nuD n), .un, .un, .un, .un, .un, .un] = .ok (.dc true [trD (List.range n)]) [.d (.tuple (gens.map trD)), .d (nuD n), .un, .un, .un, .un, .un, .un] := by
      unfold disp1M
      rw [bind_ap, et, rb_ok]
      show (gM (keyT true (trD (List.range n)) = true) (ret (SV.dc true [trD (List.range n)]))) _ = _
      rw [gM_ap, if_pos (enc_trD.key _)]; rfl
    rw [parM_ap, e1, rb_ok, one_lst et, rb_ok]; rfl
  refine ⟨_, bodyM_of (ρ' := [.d (.tuple (gens.map trD)), .d (nuD n), .dc true (r.map trD), .ls [], w4, w5, w6, .un]) rfl ?_⟩
  show B__law_members [.d (.tuple (gens.map trD)), .d (nuD n), .un, .un, .un, .un, .un, .un] = _
  unfold B__law_members
  rw [seq_nx ep]
  show (seqM _ _) [.d (.tuple (gens.map trD)), .d (nuD n), .dc true ([List.range n].map trD), .ls ([List.range n].map trD), .un, .un, .un, .un] = _
  rw [seq_nx ew]
  exact retM_of rfl
end
end Nb

set_option Elab.async false
set_option linter.all false
set_option maxRecDepth 100000
set_option maxHeartbeats 4000000
namespace Nb
open PySem PySem.Spec L2 PyProof.Rows Pm
theorem eqvAll_nu : ∀ a b : List Nat, PyData.eqvAll (a.map nuD) (b.map nuD) = decide (a = b)
  | [], [] => by simp [PyData.eqvAll]
  | [], y :: b => by simp [PyData.eqvAll]
  | x :: a, [] => by simp [PyData.eqvAll]
  | x :: a, y :: b => by
    have e : PyData.eqv (nuD x) (nuD y) = decide (x = y) := (eqv_int _ _).trans (decide_eq_decide.mpr (by omega))
    simp only [List.map_cons, PyData.eqvAll, e, eqvAll_nu a b]
    by_cases h1 : x = y
    · by_cases h2 : a = b <;> simp [h1, h2]
    · simp [h1]
theorem eqv_trD (a b : List Nat) : PyData.eqv (trD a) (trD b) = decide (a = b) := by
  show PyData.eqv (.tuple (a.map nuD)) (.tuple (b.map nuD)) = _
  simp only [PyData.eqv]
  exact eqvAll_nu a b
theorem in_trD (l : List (List Nat)) (a : List Nat) : ((l.map trD).any fun y => PyData.eqv y (trD a)) = decide (a ∈ l) := by
  rw [List.any_map]
  refine Eq.trans ?_ ((any_dec l a).trans (decide_eq_decide.mpr Iff.rfl))
  congr 1
  funext y
  exact eqv_trD y a
theorem inS_ls {n : Bool} {l : List (List Nat)} {a : List Nat} {ρ : List SV} : inM n (trD a) (.list (l.map trD)) ρ = .ok (.d (.bool (inB n (decide (a ∈ l))))) ρ := by
  have e : inM n (trD a) (.list (l.map trD)) ρ = (gM ((SeqAt.shaped (trD a) && SeqAt.shaped (.list (l.map trD))) = true) (ret (SV.d (.bool (inB n ((l.map trD).any fun y => PyData.eqv y (trD a))))))) ρ := rfl
  rw [e, gM_ap, if_pos (by rw [okD_shaped (k := 6) (d := trD a) (okD_trD 5 a) (by decide), okD_shaped (k := 6) (d := .list (l.map trD)) (ok_trs l) (by decide)]; rfl), ret_ap, in_trD]
theorem in_ls {n : Bool} {ρ : List SV} {kf kl : Nat} {f : List (List Nat)} {y : List Nat} (hf : ρ[kf]? = some (.ls (f.map trD))) (hl : ρ[kl]? = some (.d (trD y))) : inN n (getD kl) kf ρ = .ok (.d (.bool (inB n (decide (y ∈ f))))) ρ := by
  unfold inN
  rw [bind_ap, getD_d hl, rb_ok]
  unfold slotM
  simp only [hf]
  exact inS_ls
theorem in_dl {n : Bool} {ρ : List SV} {kf kl : Nat} {f : List (List Nat)} {y : List Nat} (hf : ρ[kf]? = some (.d (.list (f.map trD)))) (hl : ρ[kl]? = some (.d (trD y))) : inN n (getD kl) kf ρ = .ok (.d (.bool (inB n (decide (y ∈ f))))) ρ := by
  unfold inN
  rw [bind_ap, getD_d hl, rb_ok]
  unfold slotM
  simp only [hf]
  exact inS_ls
theorem app_ls {ρ : List SV} {k : Nat} {xs : List PyData} {x : PyData} {f : M PyData} {ρ1 : List SV} (h : ρ[k]? = some (.ls xs)) (hf : f ρ = .ok x ρ1) (h1 : ρ1[k]? = some (.ls xs)) (hl : xs.length < sizeLine) : (dropM (appM k f)) ρ = .ok .nx (ρ1.set k (.ls (xs ++ [x]))) := by
  rw [dropM_ap, appM_ap, hasL_of h rfl, rb_ok, hf, rb_ok, mutM_of h1 rfl (show appF x xs = some (.d .none, xs ++ [x]) from if_pos hl)]; rfl
theorem push_ls {ρ : List SV} {kf kh kl : Nat} {U f h : List (List Nat)} {y : List Nat} (hf : ρ[kf]? = some (.ls (f.map trD))) (hh : ρ[kh]? = some (.ls (h.map trD))) (hl : ρ[kl]? = some (.d (trD y))) (n1 : kf ≠ kh) (n2 : kf ≠ kl) (m : Mid U f h) (hy : y ∈ U) (hU : U.length ≤ sizeLine) :
    (ifM (tstM (inN true (getD kl) kf)) (seqM (dropM (appM kf (getD kl))) (dropM (appM kh (getD kl)))) (ret .nx)) ρ = .ok .nx ((ρ.set kf (.ls ((push1 (f, h) y).1.map trD))).set kh (.ls ((push1 (f, h) y).2.map trD))) := by
  have et := tstM_of (in_ls (n := true) hf hl)
  rcases push_eq enc_trD (f := f) (h := h) (y := y) with ⟨hm, ep, hk⟩ | ⟨hm, ep, hk, ha⟩
  · rw [show inB true (decide (y ∈ f)) = false by simp [inB, hm]] at et
    rw [ifM_f et, ep, set_same hf, set_same hh]; rfl
  · rw [show inB true (decide (y ∈ f)) = true by simp [inB, hm]] at et
    have hr := room_new m.nd m.sub hy hm hU
    have e1 := app_ls hf (getD_d hl) hf (by rw [List.length_map]; exact hr)
    have hh' : (ρ.set kf (.ls (f.map trD ++ [trD y])))[kh]? = some (.ls (h.map trD)) := by rw [List.getElem?_set_ne n1]; exact hh
    have hl' : (ρ.set kf (.ls (f.map trD ++ [trD y])))[kl]? = some (.d (trD y)) := by rw [List.getElem?_set_ne n2]; exact hl
    have e2 := app_ls hh' (getD_d hl') hh' (by rw [List.length_map]; exact Nat.lt_of_le_of_lt m.le hr)
    rw [ifM_t et, seq_nx e1, e2, ep, List.map_append, List.map_append]; rfl
section
variable {α : Type} [DecidableEq α]
def leftF (lot l : List α) : List α := l.filter fun y => decide (y ∉ lot)
theorem leftF_le {lot r : List α} {x : α} (h : x ∈ lot) : (leftF lot (x :: r)).length ≤ r.length := by
  unfold leftF
  rw [List.filter_cons_of_neg (by simpa using h)]
  exact List.length_filter_le _ _
theorem leftF_sub {lot l : List α} : ∀ y ∈ leftF lot l, y ∈ l := fun y hy => (List.mem_filter.mp hy).1
theorem leftF_map {lot l : List α} {e : α → PyData} {p : PyData → Bool} (h : ∀ y, p (e y) = !decide (y ∈ lot)) : (((l.map e).filter p).map fun d => d) = (leftF lot l).map e := by
  unfold leftF
  rw [List.map_id', List.filter_map]
  congr 1
  exact List.filter_congr fun y _ => by
    show p (e y) = _
    rw [h]; simp
end
section
variable {n : Nat} {gens : List (List Nat)}
def lotL (lot : List (List Nat)) : PyData := .list (lot.map trD)
def layP (n : Nat) (gens : List (List Nat)) (l1 l2 w3 : SV) (f h : List (List Nat)) (ρ : List SV) : Prop :=
  ∃ w4 w7 w8, nbr w4 ∧ nbr w7 ∧ nbr w8 ∧ ρ = [.d (hoD n gens), l1, l2, w3, w4, .ls (f.map trD), .ls (h.map trD), w7, w8] ∧ Mid (words n 2) f h
theorem words2_n8 (h : n ≤ 8) : (words n 2).length ≤ 64 := by
  rw [words_len]
  exact Nat.le_trans (Nat.pow_le_pow_left h 2) (by decide)
theorem pair_turn (H : IsH n gens) {l1 l2 w3 : SV} {a : List Nat} {f h : List (List Nat)} {one : List Nat} {ρ : List SV} (i : Pm.Inv (leadsT gens) a (words n 2) f (h ++ [one])) (l : layP n gens l1 l2 w3 f (h ++ [one]) ρ) :
    ∃ ρ', L__law_pairs_2 ρ = .ok .nx ρ' ∧ layP n gens l1 l2 w3 (visit (f, h) (leadsT gens one)).1 (visit (f, h) (leadsT gens one)).2 ρ' := by
  obtain ⟨w4, w7, w8, h4, h7, h8, rfl, m⟩ := l
  have h1 : one ∈ words n 2 := i.sub one (i.hin one (by simp))
  obtain ⟨x, y, rfl, hx, hy⟩ := pair_of h1
  have m0 : Mid (words n 2) f h := ⟨m.nd, m.sub, by have := m.le; simp at this; omega⟩
  obtain ⟨ρ', e1, w4', w8', k4, k8, er, m'⟩ := for_fold (g := gN 8) (body := L__law_pairs_3) (enc := trD) (step := fun s g => push1 s (thenT [x, y] g)) (P := fun g => g ∈ gens)
    (R := fun s ρ => ∃ w4 w8, nbr w4 ∧ nbr w8 ∧ ρ = [.d (hoD n gens), l1, l2, w3, w4, .ls (s.1.map trD), .ls (s.2.map trD), .d (trD [x, y]), w8] ∧ Mid (words n 2) s.1 s.2)
    (fun s g ρ hg ⟨w4, w8, k4, k8, er, m⟩ => by
      obtain ⟨f, h⟩ := s
      subst er
      have hz : thenT [x, y] g ∈ words n 2 := words_closed H.gt _ h1 _ (List.mem_map.mpr ⟨g, hg, rfl⟩)
      refine ⟨_, _, setO_of (u := w8) rfl k8, ?_, .d (trD (thenT [x, y] g)), .d (trD g), nbr_d _, nbr_d _, rfl, m.push hz⟩
      have lx : x < g.length := by rw [(H.gt g hg).len]; exact hx
      have ly : y < g.length := by rw [(H.gt g hg).len]; exact hy
      have q1 : (toD (binP idxM 8 (toD (binP idxM 7 (ret (.int 0)))))) [.d (hoD n gens), l1, l2, w3, w4, .ls (f.map trD), .ls (h.map trD), .d (trD [x, y]), .d (trD g)] = .ok (nuD (g.getD x 0)) [.d (hoD n gens), l1, l2, w3, w4, .ls (f.map trD), .ls (h.map trD), .d (trD [x, y]), .d (trD g)] := toD_d (idx_tup (xs := g.map fun n => PyData.int (n : Nat)) (i := x) (at_trD lx) _)
      have q2 : (toD (binP idxM 8 (toD (binP idxM 7 (ret (.int 1)))))) [.d (hoD n gens), l1, l2, w3, w4, .ls (f.map trD), .ls (h.map trD), .d (trD [x, y]), .d (trD g)] = .ok (nuD (g.getD y 0)) [.d (hoD n gens), l1, l2, w3, w4, .ls (f.map trD), .ls (h.map trD), .d (trD [x, y]), .d (trD g)] := toD_d (idx_tup (xs := g.map fun n => PyData.int (n : Nat)) (i := y) (at_trD ly) _)
      have q3 : (setM 4 (toV (tupM (consM (toD (binP idxM 8 (toD (binP idxM 7 (ret (.int 0)))))) (consM (toD (binP idxM 8 (toD (binP idxM 7 (ret (.int 1)))))) (ret [])))))) [.d (hoD n gens), l1, l2, w3, w4, .ls (f.map trD), .ls (h.map trD), .d (trD [x, y]), .d (trD g)] = .ok .nx [.d (hoD n gens), l1, l2, w3, .d (trD (thenT [x, y] g)), .ls (f.map trD), .ls (h.map trD), .d (trD [x, y]), .d (trD g)] := by
        have q4 : (tupM (consM (toD (binP idxM 8 (toD (binP idxM 7 (ret (.int 0)))))) (consM (toD (binP idxM 8 (toD (binP idxM 7 (ret (.int 1)))))) (ret [])))) [.d (hoD n gens), l1, l2, w3, w4, .ls (f.map trD), .ls (h.map trD), .d (trD [x, y]), .d (trD g)] = .ok (trD (thenT [x, y] g)) [.d (hoD n gens), l1, l2, w3, w4, .ls (f.map trD), .ls (h.map trD), .d (trD [x, y]), .d (trD g)] := by
          rw [tupM_ap, consM_ap, q1, rb_ok, consM_ap, q2, rb_ok, ret_ap, rb_ok, ret_ap, rb_ok, ret_ap, rb_ok, fits_ap, if_pos (show ([nuD (g.getD x 0), nuD (g.getD y 0)] : List PyData).length ≤ sizeLine from (show 2 ≤ sizeLine by decide)), ret_ap]; rfl
        exact setM_of (toV_of q4) (u := w4) rfl k4
      unfold L__law_pairs_3
      show (seqM _ _) [.d (hoD n gens), l1, l2, w3, w4, .ls (f.map trD), .ls (h.map trD), .d (trD [x, y]), .d (trD g)] = _
      rw [seq_nx q3]
      exact push_ls (ρ := [.d (hoD n gens), l1, l2, w3, .d (trD (thenT [x, y] g)), .ls (f.map trD), .ls (h.map trD), .d (trD [x, y]), .d (trD g)]) rfl rfl rfl (by decide) (by decide) m hz (Nat.le_trans (words2_n8 H.n8) (by decide))) gens (f, h)
    [.d (hoD n gens), l1, l2, w3, w4, .ls (f.map trD), .ls (h.map trD), .d (trD [x, y]), w8] (fun g hg => hg) ⟨w4, w8, h4, h8, rfl, m0⟩
  rw [visit_foldl] at er m'
  refine ⟨ρ', ?_, w4', .d (trD [x, y]), w8', k4, nbr_d _, k8, er, m'⟩
  unfold L__law_pairs_2
  have e0 : (setM 7 (popM 6)) [.d (hoD n gens), l1, l2, w3, w4, .ls (f.map trD), .ls ((h ++ [[x, y]]).map trD), w7, w8] = .ok .nx [.d (hoD n gens), l1, l2, w3, w4, .ls (f.map trD), .ls (h.map trD), .d (trD [x, y]), w8] := by
    have ep : (popM 6) [.d (hoD n gens), l1, l2, w3, w4, .ls (f.map trD), .ls ((h ++ [[x, y]]).map trD), w7, w8] = .ok (.d (trD [x, y])) [.d (hoD n gens), l1, l2, w3, w4, .ls (f.map trD), .ls (h.map trD), w7, w8] := by
      rw [popM_ap]
      exact mutM_of (w := .ls ((h ++ [[x, y]]).map trD)) rfl rfl pop_last
    exact setM_of ep (u := w7) rfl h7
  rw [seq_nx e0, forS_ap, gens_at rfl, rb_ok, e1]
theorem pairs_outer (H : IsH n gens) : ∀ (m : Nat) (left : List (List Nat)) (acc L : List (List (List Nat))) (w3 w4 w5 w6 w7 w8 : SV), nbr w4 → nbr w5 → nbr w6 → nbr w7 → nbr w8 → (∀ x ∈ left, x ∈ words n 2) → acc.length + left.length ≤ 1000 → lotsF (leadsT gens) 20000000 m left acc = some L →
    ∃ v4 v5 v6 v7 v8, whileM C__law_pairs_1 L__law_pairs_1 m [.d (hoD n gens), .ls (left.map trD), .ls (acc.map lotL), w3, w4, w5, w6, w7, w8] = .ok .nx [.d (hoD n gens), .ls [], .ls (L.map lotL), w3, v4, v5, v6, v7, v8]
  | 0, _, _, _, _, _, _, _, _, _, _, _, _, _, _, _, _, z => by cases z
  | m + 1, left, acc, L, w3, w4, w5, w6, w7, w8, h4, h5, h6, h7, h8, hl, hz, z => by
    have eC : C__law_pairs_1 [.d (hoD n gens), .ls (left.map trD), .ls (acc.map lotL), w3, w4, w5, w6, w7, w8] = .ok (!left.isEmpty) [.d (hoD n gens), .ls (left.map trD), .ls (acc.map lotL), w3, w4, w5, w6, w7, w8] := by
      unfold C__law_pairs_1
      rw [listne_ok (xs := left.map trD) rfl (ok_trs left), List.isEmpty_map]
    have e00 : ∀ ρ, whileM C__law_pairs_1 L__law_pairs_1 (m + 1) ρ = (C__law_pairs_1 ρ).bind fun b => if b then loopM L__law_pairs_1 (whileM C__law_pairs_1 L__law_pairs_1 m) else ret .nx := fun ρ => rfl
    cases left with
    | nil =>
      unfold lotsF at z
      cases z
      refine ⟨w4, w5, w6, w7, w8, ?_⟩
      rw [e00, eC]; rfl
    | cons x r =>
      unfold lotsF at z
      have hx : x ∈ words n 2 := hl x List.mem_cons_self
      obtain ⟨lot, ed, nd, mem, sub⟩ := dfs_ok (leads := leadsT gens) (words_closed H.gt) hx (n := 20000000) (Nat.lt_of_le_of_lt (words2_n8 H.n8) (by decide))
      simp only [ed] at z
      have hxl : x ∈ lot := (mem x).mpr .refl
      have lf := leftF_le (r := r) hxl
      have eC2 : ∀ f h ρ, layP n gens (.ls ((x :: r).map trD)) (.ls (acc.map lotL)) w3 f h ρ → C__law_pairs_2 ρ = .ok (!h.isEmpty) ρ := fun f h ρ ⟨w4, w7, w8, h4, h7, h8, er, m⟩ => by
        subst er
        unfold C__law_pairs_2
        rw [listne_ok (xs := h.map trD) rfl (ok_trs h), List.isEmpty_map]
      obtain ⟨ρ', ew, w4', w7', w8', k4, k7, k8, er, mm⟩ := while_dfs (a := x) (words_closed H.gt) (C := C__law_pairs_2) (L := L__law_pairs_2) (Lay := layP n gens (.ls ((x :: r).map trD)) (.ls (acc.map lotL)) w3) eC2 (fun f h one ρ i l => pair_turn H i l) 20000000 [x] [x]
        [.d (hoD n gens), .ls ((x :: r).map trD), .ls (acc.map lotL), w3, w4, .ls ([x].map trD), .ls ([x].map trD), w7, w8] lot (.start hx) ⟨w4, w7, w8, h4, h7, h8, rfl, ⟨by simp, by simpa using hx, Nat.le_refl _⟩⟩ ed
      subst er
      obtain ⟨v4, v5, v6, v7, v8, er⟩ := pairs_outer H m (leftF lot (x :: r)) (acc ++ [lot]) L w3 w4' (.d (lotL lot)) (.ls []) .un w8' k4 (nbr_d _) (nbr_ls _) nbr_un k8
        (fun y hy => hl y (leftF_sub y hy)) (by simp only [List.length_append, List.length_cons, List.length_nil] at *; omega) z
      refine ⟨v4, v5, v6, v7, v8, ?_⟩
      rw [e00, eC, rb_ok]
      show (L__law_pairs_1 _).bind _ = _
      have ei : (toD (binP idxM 1 (ret (.int 0)))) [.d (hoD n gens), .ls ((x :: r).map trD), .ls (acc.map lotL), w3, w4, w5, w6, w7, w8] = .ok (trD x) [.d (hoD n gens), .ls ((x :: r).map trD), .ls (acc.map lotL), w3, w4, w5, w6, w7, w8] := toD_d (idx_lst (xs := (x :: r).map trD) (i := 0) rfl _)
      have e1 : (parM 5 6 (lstM (consM (toD (binP idxM 1 (ret (.int 0)))) (ret []))) (lstM (consM (toD (binP idxM 1 (ret (.int 0)))) (ret [])))) [.d (hoD n gens), .ls ((x :: r).map trD), .ls (acc.map lotL), w3, w4, w5, w6, w7, w8] = .ok .nx [.d (hoD n gens), .ls ((x :: r).map trD), .ls (acc.map lotL), w3, w4, .ls [trD x], .ls [trD x], w7, w8] := by
        rw [parM_ap, one_lst ei, rb_ok, one_lst ei, rb_ok, setS_of (u := w5) rfl h5, rb_ok]
        show (setS 6 (.ls [trD x]) [.d (hoD n gens), .ls ((x :: r).map trD), .ls (acc.map lotL), w3, w4, .ls [trD x], w6, w7, w8]).bind _ = _
        rw [setS_of (u := w6) rfl h6]; rfl
      have e2 : (dropM (appM 2 (getD 5))) [.d (hoD n gens), .ls ((x :: r).map trD), .ls (acc.map lotL), w3, w4', .ls (lot.map trD), .ls [], w7', w8'] = .ok .nx [.d (hoD n gens), .ls ((x :: r).map trD), .ls ((acc ++ [lot]).map lotL), w3, w4', .d (lotL lot), .ls [], w7', w8'] := by
        rw [app_ls (f := getD 5) (xs := acc.map lotL) (x := lotL lot) (ρ1 := [.d (hoD n gens), .ls ((x :: r).map trD), .ls (acc.map lotL), w3, w4', .d (lotL lot), .ls [], w7', w8']) rfl rfl rfl (by rw [List.length_map]; exact Nat.lt_of_lt_of_le (by simp only [List.length_cons] at hz; omega) small_sz),
          show (acc ++ [lot]).map lotL = acc.map lotL ++ [lotL lot] from by simp]; rfl
      have e3 : (setM 1 (lcM [7] (seqI (getD 1)) (gN 7) (tstM (inN true (getD 7) 5)) (getD 7))) [.d (hoD n gens), .ls ((x :: r).map trD), .ls ((acc ++ [lot]).map lotL), w3, w4', .d (lotL lot), .ls [], w7', w8'] = .ok .nx [.d (hoD n gens), .ls ((leftF lot (x :: r)).map trD), .ls ((acc ++ [lot]).map lotL), w3, w4', .d (lotL lot), .ls [], .un, w8'] := by
        have el := lcM_filter (vs := [7]) (it := seqI (getD 1)) (g := gN 7) (tt := tstM (inN true (getD 7) 5)) (te := getD 7) (p := fun d => !((lot.map trD).any fun y => PyData.eqv y d)) (f := fun d => d)
          (ρ := [.d (hoD n gens), .ls ((x :: r).map trD), .ls ((acc ++ [lot]).map lotL), w3, w4', .d (lotL lot), .ls [], w7', w8']) (ρ' := [.d (hoD n gens), .d (.list ((x :: r).map trD)), .ls ((acc ++ [lot]).map lotL), w3, w4', .d (lotL lot), .ls [], w7', w8'])
          (ρ1 := [.d (hoD n gens), .d (.list ((x :: r).map trD)), .ls ((acc ++ [lot]).map lotL), w3, w4', .d (lotL lot), .ls [], .un, w8']) (xs := (x :: r).map trD) rfl (by
            show (if [7].any (fun i => isBr ([SV.d (hoD n gens), .d (.list ((x :: r).map trD)), .ls ((acc ++ [lot]).map lotL), w3, w4', .d (lotL lot), .ls [], w7', w8'])[i]?) then none else some _) = _
            rw [show [7].any (fun i => isBr ([SV.d (hoD n gens), .d (.list ((x :: r).map trD)), .ls ((acc ++ [lot]).map lotL), w3, w4', .d (lotL lot), .ls [], w7', w8'])[i]?) = false from by
              show (isBr (some w7') || false) = false
              rw [nbr_isBr k7]; rfl]
            rfl) (by rw [List.length_map]; exact Nat.le_trans (by simp only [List.length_cons] at hz ⊢; omega) small_sz) fun d hd => by
            obtain ⟨y, hy, rfl⟩ := List.mem_map.mp hd
            refine ⟨[.d (hoD n gens), .d (.list ((x :: r).map trD)), .ls ((acc ++ [lot]).map lotL), w3, w4', .d (lotL lot), .ls [], .d (trD y), w8'], rfl, ?_, rfl, rfl⟩
            rw [in_trD]
            exact tstM_of (in_dl (n := true) (f := lot) (y := y) rfl rfl)
        rw [leftF_map (lot := lot) (fun y => congrArg (fun b => !b) ((in_trD lot y).trans (decide_eq_decide.mpr Iff.rfl)))] at el
        exact setM_of el (u := .d (.list ((x :: r).map trD))) rfl (nbr_d _)
      have e0 : L__law_pairs_1 [.d (hoD n gens), .ls ((x :: r).map trD), .ls (acc.map lotL), w3, w4, w5, w6, w7, w8] = .ok .nx [.d (hoD n gens), .ls ((leftF lot (x :: r)).map trD), .ls ((acc ++ [lot]).map lotL), w3, w4', .d (lotL lot), .ls [], .un, w8'] := by
        unfold L__law_pairs_1
        rw [seq_nx e1]
        show (seqM (whileM C__law_pairs_2 L__law_pairs_2 20000000) _) [.d (hoD n gens), .ls ((x :: r).map trD), .ls (acc.map lotL), w3, w4, .ls ([x].map trD), .ls ([x].map trD), w7, w8] = _
        rw [seq_nx ew]
        show (seqM (dropM (appM 2 (getD 5))) _) [.d (hoD n gens), .ls ((x :: r).map trD), .ls (acc.map lotL), w3, w4', .ls (lot.map trD), .ls [], w7', w8'] = _
        rw [seq_nx e2]
        exact e3
      rw [e0, rb_ok]
      exact er
end
end Nb

set_option Elab.async false
set_option linter.all false
set_option maxRecDepth 100000
set_option maxHeartbeats 4000000
namespace Nb
open PySem PySem.Spec L2 PyProof.Rows Pm
theorem add_ls {xs ys : List PyData} (h : xs.length + ys.length ≤ 1000) (ρ : List SV) : addM (.list xs) (.list ys) ρ = .ok (.ls (xs ++ ys)) ρ := by
  have e : addM (.list xs) (.list ys) ρ = (gM (xs.length + ys.length ≤ sizeLine) (ret (SV.ls (xs ++ ys)))) ρ := rfl
  rw [e, gM_ap, if_pos (Nat.le_trans h small_sz), ret_ap]
theorem forM_go {g : AG} {b : M Fl} {x : PyData} {xs : List PyData} {ρ ρ1 ρ2 : List SV} (h1 : g x ρ = some ρ1) (h2 : b ρ1 = .ok .nx ρ2) : forM g b (x :: xs) ρ = forM g b xs ρ2 := by
  show (match g x ρ with
    | some ρ' => loopM b (forM g b xs) ρ'
    | none => .fail) = _
  rw [h1]
  show (b ρ1).bind _ = _
  rw [h2]; rfl
section
variable {n : Nat} {gens : List (List Nat)}
def rowT (n : Nat) (x : PyData) : List PyData := ((List.range n).map nuD).map fun y => .tuple [x, y]
theorem rowT_len (n : Nat) (x : PyData) : (rowT n x).length = n := by simp [rowT]
theorem pairs_for (hn : n ≤ 8) : ∀ (xs : List Nat) (acc : List PyData) (w3 : SV), nbr w3 → acc.length + xs.length * n ≤ 1000 →
    ∃ v3, nbr v3 ∧ forM (gN 3) L__law_pairs_0 (xs.map nuD) [.d (hoD n gens), .ls acc, .ls [], w3, .un, .un, .un, .un, .un] = .ok .nx [.d (hoD n gens), .ls (acc ++ (xs.map nuD).flatMap (rowT n)), .ls [], v3, .un, .un, .un, .un, .un]
  | [], acc, w3, h3, _ => ⟨w3, h3, by simp [forM]⟩
  | x :: xs, acc, w3, h3, hl => by
    simp only [List.length_cons, Nat.succ_mul] at hl
    have el := lcM_map (vs := [4]) (it := rgI1 (toD (binP idxM 0 (ret (.int 0))))) (g := gN 4) (te := tupM (consM (getD 3) (consM (getD 4) (ret [])))) (f := fun y => .tuple [nuD x, y]) (ρ := [.d (hoD n gens), .d (.list acc), .ls [], .d (nuD x), .un, .un, .un, .un, .un]) (ρ' := [.d (hoD n gens), .d (.list acc), .ls [], .d (nuD x), .un, .un, .un, .un, .un])
      (ρ1 := [.d (hoD n gens), .d (.list acc), .ls [], .d (nuD x), .un, .un, .un, .un, .un]) (xs := (List.range n).map nuD) (rg_at (by omega) rfl) rfl (by rw [List.length_map, List.length_range]; exact Nat.le_trans hn (by decide)) fun y hy => by
      refine ⟨[.d (hoD n gens), .d (.list acc), .ls [], .d (nuD x), .d y, .un, .un, .un, .un], rfl, ?_, rfl⟩
      rw [tupM_ap, consM_ap, getD_d (x := nuD x) rfl, rb_ok, consM_ap, getD_d (x := y) rfl, rb_ok, ret_ap, rb_ok, ret_ap, rb_ok, ret_ap, rb_ok, fits_ap, if_pos (show ([nuD x, y] : List PyData).length ≤ sizeLine from (show 2 ≤ sizeLine by decide)), ret_ap]
    have e1 : (setM 1 (binM addM (getD 1) (toD (lcM [4] (rgI1 (toD (binP idxM 0 (ret (.int 0))))) (gN 4) yesM (tupM (consM (getD 3) (consM (getD 4) (ret [])))))))) [.d (hoD n gens), .ls acc, .ls [], .d (nuD x), .un, .un, .un, .un, .un] = .ok .nx [.d (hoD n gens), .ls (acc ++ rowT n (nuD x)), .ls [], .d (nuD x), .un, .un, .un, .un, .un] := by
      have eb := (binM_of (o := addM) (g1 := getD 1) (ρ := [.d (hoD n gens), .ls acc, .ls [], .d (nuD x), .un, .un, .un, .un, .un]) (x := .list acc) (ρ1 := [.d (hoD n gens), .d (.list acc), .ls [], .d (nuD x), .un, .un, .un, .un, .un]) rfl (toD_ls el)).trans (add_ls (by rw [List.length_map, List.length_map, List.length_range]; omega) _)
      exact setM_of eb (u := .d (.list acc)) rfl (nbr_d _)
    obtain ⟨v3, k3, er⟩ := pairs_for hn xs (acc ++ rowT n (nuD x)) (.d (nuD x)) (nbr_d _) (by rw [List.length_append, rowT_len]; omega)
    refine ⟨v3, k3, ?_⟩
    have eg : gN 3 (nuD x) [.d (hoD n gens), .ls acc, .ls [], w3, .un, .un, .un, .un, .un] = some [.d (hoD n gens), .ls acc, .ls [], .d (nuD x), .un, .un, .un, .un, .un] := setO_of (u := w3) rfl h3
    rw [List.map_cons, List.flatMap_cons, ← List.append_assoc]
    exact (forM_go (b := L__law_pairs_0) eg e1).trans er
theorem law_pairs_ok (H : IsH n gens) {L : List (List (List Nat))} (el : lotsF (leadsT gens) 20000000 20000000 (words n 2) [] = some L) : ∃ ρ', F__law_pairs [.d (hoD n gens)] = .ok (.d (.list (L.map lotL))) ρ' := by
  have n8 := H.n8
  have hl := words2_n8 n8
  obtain ⟨v3, k3, ef⟩ := pairs_for (n := n) (gens := gens) n8 (List.range n) [] .un nbr_un (by
    rw [words_len, Nat.pow_two] at hl
    simp only [List.length_nil, List.length_range]; omega)
  have ew2 : (words n 2).map trD = [] ++ ((List.range n).map nuD).flatMap (rowT n) := words2_tr n
  rw [← ew2] at ef
  obtain ⟨v4, v5, v6, v7, v8, ew⟩ := pairs_outer H 20000000 (words n 2) [] L v3 .un .un .un .un .un nbr_un nbr_un nbr_un nbr_un nbr_un (fun _ h => h) (by simp only [List.length_nil]; omega) el
  rw [List.map_nil] at ew
  have ep : (parM 1 2 (lstM (ret [])) (lstM (ret []))) [.d (hoD n gens), .un, .un, .un, .un, .un, .un, .un, .un] = .ok .nx [.d (hoD n gens), .ls [], .ls [], .un, .un, .un, .un, .un, .un] := by
    have e : ∀ ρ : List SV, (lstM (ret [])) ρ = .ok (.ls []) ρ := fun ρ => by rw [lstM_ap, ret_ap, rb_ok, fits_ap, if_pos (show ([] : List PyData).length ≤ sizeLine from Nat.zero_le _), ret_ap]
    rw [parM_ap, e, rb_ok, e, rb_ok]; rfl
  refine ⟨_, bodyM_of (ρ' := [.d (hoD n gens), .ls [], .d (.list (L.map lotL)), v3, v4, v5, v6, v7, v8]) rfl ?_⟩
  show B__law_pairs [.d (hoD n gens), .un, .un, .un, .un, .un, .un, .un, .un] = _
  unfold B__law_pairs
  rw [seq_nx ep]
  have e3 : (forS (rgI1 (toD (binP idxM 0 (ret (.int 0))))) (gN 3) L__law_pairs_0) [.d (hoD n gens), .ls [], .ls [], .un, .un, .un, .un, .un, .un] = .ok .nx [.d (hoD n gens), .ls ((words n 2).map trD), .ls [], v3, .un, .un, .un, .un, .un] := by
    rw [forS_ap, rg_at (by omega) rfl, rb_ok, ef]
  rw [seq_nx e3, seq_nx ew]
  exact retM_of rfl
theorem law_sharp_ok (H : IsH n gens) (n2 : 2 ≤ n) {LP : List (List (List Nat))} {G : List (List Nat)} (el2 : lotsF (leadsT gens) 20000000 20000000 (words n 2) [] = some LP) (hG : IsG n gens G) :
    ∃ ρ', F__law_is_sharp [.d (hoD n gens)] = .ok (.d (.bool (Shp n LP G))) ρ' := by
  obtain ⟨G', hG', ρm, em⟩ := members_ok H
  have eG := hG.len_eq hG'
  have e1 : (parM 1 2 (binP idxM 0 (ret (.int 0))) (callM 2 F__law_members (consM (toD (binP idxM 0 (ret (.int 1)))) (consM (toD (binP idxM 0 (ret (.int 0)))) (ret []))))) [.d (hoD n gens), .un, .un] = .ok .nx [.d (hoD n gens), .d (nuD n), .ls (G'.map trD)] := by
    have h1 : (binP idxM 0 (ret (.int 1))) [.d (hoD n gens), .un, .un] = .ok (.d (.tuple (gens.map trD))) [.d (hoD n gens), .un, .un] := idx_tup (xs := [nuD n, .tuple (gens.map trD)]) (i := 1) rfl _
    have ec : callM 2 F__law_members (consM (toD (binP idxM 0 (ret (.int 1)))) (consM (toD (binP idxM 0 (ret (.int 0)))) (ret []))) [.d (hoD n gens), .un, .un] = .ok (.ls (G'.map trD)) [.d (hoD n gens), .un, .un] :=
      callM_of (xs := [.tuple (gens.map trD), nuD n]) (by rw [consM_ap, toD_d h1, rb_ok, consM_ap, toD_d (house_at0 rfl), rb_ok, ret_ap, rb_ok, ret_ap, rb_ok, ret_ap]) rfl em
    rw [parM_ap, house_at0 (n := n) (gens := gens) rfl, rb_ok, ec, rb_ok]; rfl
  have c1 : (toD (binM (ordM fun i j => decide (j < i)) (getD 1) (ret (.int 1)))) [.d (hoD n gens), .d (nuD n), .ls (G'.map trD)] = .ok (.bool true) [.d (hoD n gens), .d (nuD n), .ls (G'.map trD)] := by
    have e := binM_of (o := ordM fun i j => decide (j < i)) (getD_d (x := nuD n) (i := 1) (ρ := [.d (hoD n gens), .d (nuD n), .ls (G'.map trD)]) rfl) (ret_ap (PyData.int 1))
    rw [show nuD n = .int (n : Nat) from rfl, ord_of, decide_eq_true (show (1 : Int) < n by omega)] at e
    exact toD_d e
  obtain ⟨ρp, epp⟩ := law_pairs_ok H el2
  have ecp : callM 1 F__law_pairs (consM (getD 0) (ret [])) [.d (hoD n gens), .d (nuD n), .ls (G'.map trD)] = .ok (.d (.list (LP.map lotL))) [.d (hoD n gens), .d (nuD n), .ls (G'.map trD)] := callM_of (xs := [hoD n gens]) rfl rfl epp
  have c2 : (toD (binM (eqM false) (toD (M.bind (callM 1 F__law_pairs (consM (getD 0) (ret []))) lenS)) (ret (.int 2)))) [.d (hoD n gens), .d (nuD n), .ls (G'.map trD)] = .ok (.bool (decide (LP.length = 2))) [.d (hoD n gens), .d (nuD n), .ls (G'.map trD)] := by
    have el : (toD (M.bind (callM 1 F__law_pairs (consM (getD 0) (ret []))) lenS)) [.d (hoD n gens), .d (nuD n), .ls (G'.map trD)] = .ok (.int ((LP.map lotL).length : Nat)) [.d (hoD n gens), .d (nuD n), .ls (G'.map trD)] := by
      rw [toD_ap, bind_ap, ecp, rb_ok]; rfl
    have e := (binM_of (o := eqM false) el (ret_ap (PyData.int 2))).trans (eq_intF _ _ _)
    rw [List.length_map, show decide (((LP.length : Nat) : Int) = 2) = decide (LP.length = 2) from decide_eq_decide.mpr (by omega)] at e
    exact toD_d e
  have c3 : (binM (eqM false) (toD (lenN 2)) (toD (binM mulM (getD 1) (toD (binM subM (getD 1) (ret (.int 1))))))) [.d (hoD n gens), .d (nuD n), .ls (G'.map trD)] = .ok (.d (.bool (decide (G.length = n * (n - 1))))) [.d (hoD n gens), .d (nuD n), .ls (G'.map trD)] := by
    have el : (toD (lenN 2)) [.d (hoD n gens), .d (nuD n), .ls (G'.map trD)] = .ok (.int ((G'.map trD).length : Nat)) [.d (hoD n gens), .d (nuD n), .ls (G'.map trD)] := rfl
    have es : (toD (binM subM (getD 1) (ret (.int 1)))) [.d (hoD n gens), .d (nuD n), .ls (G'.map trD)] = .ok (.int ((n : Int) - 1)) [.d (hoD n gens), .d (nuD n), .ls (G'.map trD)] := toD_d ((binM_of (o := subM) (getD_d (x := nuD n) (i := 1) rfl) (ret_ap (PyData.int 1))).trans (sub_i _ _))
    have em := (binM_of (o := mulM) (getD_d (x := nuD n) (i := 1) (ρ := [.d (hoD n gens), .d (nuD n), .ls (G'.map trD)]) rfl) es).trans (mul_ok (i := (n : Int)) (j := (n : Int) - 1) (small64 (by have := H.n8; omega)) _)
    rw [nn1 (by omega)] at em
    have e := (binM_of (o := eqM false) el (toD_d em)).trans (eq_intF _ _ _)
    rw [List.length_map, show decide (((G'.length : Nat) : Int) = ((n * (n - 1) : Nat) : Int)) = decide (G.length = n * (n - 1)) from decide_eq_decide.mpr (by omega)] at e
    exact e
  refine ⟨_, bodyM_of (ρ' := [.d (hoD n gens), .d (nuD n), .ls (G'.map trD)]) rfl ?_⟩
  show B__law_is_sharp [.d (hoD n gens), .un, .un] = _
  unfold B__law_is_sharp
  rw [seq_nx e1]
  unfold Shp
  refine retM_of ((andV_t c1).trans ?_)
  by_cases h2 : LP.length = 2
  · rw [decide_eq_true h2] at c2
    rw [decide_eq_true h2, Bool.true_and]
    exact (andV_t c2).trans c3
  · rw [decide_eq_false h2] at c2
    rw [decide_eq_false h2, Bool.false_and]
    exact andV_f c2
end
end Nb

set_option Elab.async false
set_option linter.all false
set_option maxRecDepth 100000
set_option maxHeartbeats 4000000
namespace Nb
open PySem PySem.Spec L2 PyProof.Rows Pm
def isRow (ns : List Int) (xs : List PyData) : Prop := ∃ (i : Nat) (st rest : Int), xs = rowD ns i st rest
theorem callR_of {n : Nat} {F : Mir} {i : Nat} {g : M (List PyData)} {ρ ρ1 : List SV} {xs ys0 ys ys' : List PyData} {w0 w u : SV} {ρ'' : List SV} (h0 : ρ[i]? = some w0) (hw0 : mutO w0 = some ys0) (hg : g ρ = .ok xs ρ1) (h1 : ρ1[i]? = some w) (hw : mutO w = some ys) (hn : xs.length + 1 = n) (hF : F (.br ys :: xs.map SV.d) = .ok u (.br ys' :: ρ'')) :
    callR n F i g ρ = .ok u (ρ1.set i (w.relist ys')) := by
  rw [callR_ap, hasL_of h0 hw0, rb_ok, hg, rb_ok]
  simp only [h1, hw, hn, if_true, hF, List.getElem?_cons_zero, brO_b]
theorem one_arg {f : M PyData} {x : PyData} {ρ ρ1 : List SV} (h : f ρ = .ok x ρ1) : (consM f (ret [])) ρ = .ok [x] ρ1 := by rw [consM_ap, h, rb_ok, ret_ap, rb_ok, ret_ap]
theorem taken_call {ns : List Int} {xs : List PyData} (hr : isRow ns xs) {ρ ρ1 : List SV} {k many : Nat} {w0 w : SV} {ys0 : List PyData} {f : M PyData} (h0 : ρ[k]? = some w0) (hw0 : mutO w0 = some ys0) (hf : f ρ = .ok (nuD many) ρ1) (h1 : ρ1[k]? = some w) (hw : mutO w = some xs) (m0 : 0 < many) (m1 : many < 1073741824) :
    ∃ v : Nat, v < many ∧ ∃ xs', isRow ns xs' ∧ callR 2 F__law_taken k (consM f (ret [])) ρ = .ok (.d (nuD v)) (ρ1.set k (w.relist xs')) := by
  obtain ⟨i, st, rest, rfl⟩ := hr
  obtain ⟨v, i', st', rest', v0, v1, ρt, et⟩ := taken_ok ns i st rest (many : Int) (by omega) (by omega)
  obtain ⟨u, rfl⟩ := Int.eq_ofNat_of_zero_le v0
  exact ⟨u, by omega, _, ⟨i', st', rest', rfl⟩, callR_of h0 hw0 (one_arg hf) h1 hw rfl et⟩
theorem alike_ok (a b : Bool) : ∃ ρ', F__law_alike 6 [.d (.bool a), .d (.bool b)] = .ok (.d (.bool (decide (a = b)))) ρ' := by
  cases a <;> cases b
  · exact vl_ok (by kernel_rfl)
  · exact vl_ok (by kernel_rfl)
  · exact vl_ok (by kernel_rfl)
  · exact vl_ok (by kernel_rfl)
/-! ### turn -/
theorem erase_perm : ∀ (l : List Nat) (i : Nat), i < l.length → (l.getD i 0 :: l.eraseIdx i).Perm l
  | [], i, h => by simp at h
  | x :: l, 0, h => .refl _
  | x :: l, i + 1, h => by
    have ih := erase_perm l i (by simpa using h)
    show (l.getD i 0 :: x :: l.eraseIdx i).Perm (x :: l)
    exact (List.Perm.swap x (l.getD i 0) (l.eraseIdx i)).trans (ih.cons x)
theorem seq_nat {v k : Nat} (h : v < k) : seqIndex? (v : Int) k = some v := by
  have : ixN k (v : Int) = some v := by
    unfold ixN
    rw [if_pos (Int.natCast_nonneg v), if_pos (by omega)]; rfl
  exact (ixN_seq this).1
theorem map_erase {α β : Type} (f : α → β) : ∀ (l : List α) (i : Nat), (l.map f).eraseIdx i = (l.eraseIdx i).map f
  | [], _ => rfl
  | x :: l, 0 => rfl
  | x :: l, i + 1 => congrArg (f x :: ·) (map_erase f l i)
theorem popAt_nu {l : List Nat} {v : Nat} (h : v < l.length) (hl : l.length ≤ 1000) : popAtF (nuD v) (l.map nuD) = some (.d (nuD (l.getD v 0)), (l.eraseIdx v).map nuD) := by
  have e1 : (1000 : Int) < 2 ^ 63 := by decide
  have e2 : -(2 ^ 63) ≤ (0 : Int) := by decide
  have hc : -(2 ^ 63) ≤ ((v : Nat) : Int) ∧ ((v : Nat) : Int) < 2 ^ 63 := ⟨Int.le_trans e2 (Int.natCast_nonneg v), Int.lt_of_le_of_lt (Int.ofNat_le.mpr (show v ≤ 1000 by omega)) e1⟩
  have hx : (l.map nuD)[v]? = some (nuD (l.getD v 0)) := by rw [List.getElem?_map, List.getElem?_eq_getElem h, List.getD_eq_getElem?_getD, List.getElem?_eq_getElem h]; rfl
  have hs : seqIndex? (v : Int) (l.map nuD).length = some v := seq_nat (by rw [List.length_map]; exact h)
  have e : popAtF (nuD v) (l.map nuD) = if -(2 ^ 63) ≤ ((v : Nat) : Int) ∧ ((v : Nat) : Int) < 2 ^ 63 then match seqIndex? (v : Int) (l.map nuD).length with
    | some j => match (l.map nuD)[j]? with
      | some y => some (.d y, (l.map nuD).eraseIdx j)
      | none => none
    | none => none else none := rfl
  rw [e, if_pos hc, hs]
  simp only [hx]
  rw [map_erase]
theorem ok_nus (h : List Nat) : (h.map nuD).all (okD 5) = true := okD_nuD 5 h
theorem add_tp {a b : List PyData} (h : a.length + b.length ≤ 1000) (ρ : List SV) : addM (.tuple a) (.tuple b) ρ = .ok (.d (.tuple (a ++ b))) ρ := by
  have e : addM (.tuple a) (.tuple b) ρ = (gM (a.length + b.length ≤ sizeLine) (ret (SV.d (.tuple (a ++ b))))) ρ := rfl
  rw [e, gM_ap, if_pos (Nat.le_trans h small_sz), ret_ap]
theorem one_tup {g : M PyData} {x : PyData} {ρ ρ1 : List SV} (h : g ρ = .ok x ρ1) : (tupM (consM g (ret []))) ρ = .ok (.tuple [x]) ρ1 := by
  rw [tupM_ap, one_arg h, rb_ok, fits_ap, if_pos (show ([x] : List PyData).length ≤ sizeLine from (show 1 ≤ sizeLine by decide)), ret_ap]
theorem turn_while {ns : List Int} {n : Nat} (hn : n ≤ 8) : ∀ (m : Nat) (done left : List Nat) (xs : List PyData), left.length < m → isRow ns xs → (done ++ left).Perm (List.range n) →
    ∃ p xs', IsT n p ∧ isRow ns xs' ∧ whileM C__law_turn_0 L__law_turn_0 m [.br xs, .d (nuD n), .d (trD done), .ls (left.map nuD)] = .ok .nx [.br xs', .d (nuD n), .d (trD p), .ls []]
  | 0, _, _, _, h, _, _ => by omega
  | m + 1, done, left, xs, hm, hr, hp => by
    have eC : C__law_turn_0 [.br xs, .d (nuD n), .d (trD done), .ls (left.map nuD)] = .ok (!left.isEmpty) [.br xs, .d (nuD n), .d (trD done), .ls (left.map nuD)] := by
      unfold C__law_turn_0
      rw [listne_ok (xs := left.map nuD) rfl (ok_nus left), List.isEmpty_map]
    have e00 : ∀ ρ, whileM C__law_turn_0 L__law_turn_0 (m + 1) ρ = (C__law_turn_0 ρ).bind fun b => if b then loopM L__law_turn_0 (whileM C__law_turn_0 L__law_turn_0 m) else ret .nx := fun ρ => rfl
    cases left with
    | nil =>
      rw [List.append_nil] at hp
      refine ⟨done, xs, ⟨by rw [hp.length_eq]; simp, hp.nodup_iff.mpr List.nodup_range, fun x hx => List.mem_range.mp (hp.mem_iff.mp hx)⟩, hr, ?_⟩
      rw [e00, eC]; rfl
    | cons y r =>
      have hlen : done.length + (r.length + 1) = n := by have := hp.length_eq; simpa using this
      have hlf : (toD (lenN 3)) [.br xs, .d (nuD n), .d (trD done), .ls ((y :: r).map nuD)] = .ok (nuD (y :: r).length) [.br xs, .d (nuD n), .d (trD done), .ls ((y :: r).map nuD)] := by
        have : (toD (lenN 3)) [.br xs, .d (nuD n), .d (trD done), .ls ((y :: r).map nuD)] = .ok (.int (((y :: r).map nuD).length : Nat)) [.br xs, .d (nuD n), .d (trD done), .ls ((y :: r).map nuD)] := rfl
        rw [this, List.length_map]; rfl
      obtain ⟨v, hv, xs', hr', et⟩ := taken_call hr (k := 0) (w0 := .br xs) (ys0 := xs) rfl rfl hlf (w := .br xs) rfl rfl (by simp) (by simp only [List.length_cons]; omega)
      have ep : (popAtM 3 (toD (callR 2 F__law_taken 0 (consM (toD (lenN 3)) (ret []))))) [.br xs, .d (nuD n), .d (trD done), .ls ((y :: r).map nuD)] = .ok (.d (nuD ((y :: r).getD v 0))) [.br xs', .d (nuD n), .d (trD done), .ls (((y :: r).eraseIdx v).map nuD)] := by
        rw [popAtM_ap, hasL_of (w := .ls ((y :: r).map nuD)) rfl rfl, rb_ok, toD_d et, rb_ok]
        exact mutM_of (w := .ls ((y :: r).map nuD)) rfl rfl (popAt_nu hv (by simp only [List.length_cons]; omega))
      have e1 : L__law_turn_0 [.br xs, .d (nuD n), .d (trD done), .ls ((y :: r).map nuD)] = .ok .nx [.br xs', .d (nuD n), .d (trD (done ++ [(y :: r).getD v 0])), .ls (((y :: r).eraseIdx v).map nuD)] := by
        unfold L__law_turn_0
        have eb := (binM_of (o := addM) (getD_d (x := trD done) (i := 2) (ρ := [.br xs, .d (nuD n), .d (trD done), .ls ((y :: r).map nuD)]) rfl) (one_tup (toD_d ep))).trans (add_tp (a := done.map nuD) (b := [nuD ((y :: r).getD v 0)]) (by rw [List.length_map]; simp only [List.length_cons, List.length_nil]; omega) _)
        have ev : (PyData.tuple (done.map nuD ++ [nuD ((y :: r).getD v 0)])) = trD (done ++ [(y :: r).getD v 0]) := by
          show _ = PyData.tuple ((done ++ [(y :: r).getD v 0]).map nuD)
          rw [List.map_append]; rfl
        rw [ev] at eb
        exact setM_of eb (u := .d (trD done)) rfl (nbr_d _)
      have hperm : ((done ++ [(y :: r).getD v 0]) ++ (y :: r).eraseIdx v).Perm (List.range n) := by
        rw [List.append_assoc]
        exact ((erase_perm (y :: r) v hv).append_left done).trans hp
      obtain ⟨p, xs'', hp', hr'', ew⟩ := turn_while hn m (done ++ [(y :: r).getD v 0]) ((y :: r).eraseIdx v) xs' (by
        rw [List.length_eraseIdx]
        simp only [List.length_cons] at hm hv ⊢
        split <;> omega) hr' hperm
      refine ⟨p, xs'', hp', hr'', ?_⟩
      rw [e00, eC, rb_ok]
      show (L__law_turn_0 _).bind _ = _
      rw [e1, rb_ok]
      exact ew
theorem law_turn_ok {ns : List Int} {n : Nat} (hn : n ≤ 8) {xs : List PyData} (hr : isRow ns xs) : ∃ p xs', IsT n p ∧ isRow ns xs' ∧ ∃ ρ', F__law_turn [.br xs, .d (nuD n)] = .ok (.d (trD p)) (.br xs' :: ρ') := by
  obtain ⟨p, xs', hp, hr', ew⟩ := turn_while (ns := ns) hn 20000000 [] (List.range n) xs (by rw [List.length_range]; omega) hr (.refl _)
  have e1 : (parM 2 3 (toV (tupM (ret []))) (M.bind (getD 1) lrgM)) [.br xs, .d (nuD n), .un, .un] = .ok .nx [.br xs, .d (nuD n), .d (trD []), .ls ((List.range n).map nuD)] := by
    have et : (tupM (ret [])) [.br xs, .d (nuD n), .un, .un] = .ok (trD []) [.br xs, .d (nuD n), .un, .un] := by
      rw [tupM_ap, ret_ap, rb_ok, fits_ap, if_pos (show ([] : List PyData).length ≤ sizeLine from Nat.zero_le _), ret_ap]; rfl
    have el : (M.bind (getD 1) lrgM) [.br xs, .d (nuD n), .un, .un] = .ok (.ls ((List.range n).map nuD)) [.br xs, .d (nuD n), .un, .un] := by
      rw [bind_ap, getD_d (x := nuD n) rfl, rb_ok]
      exact lrg_ok (by omega) _
    rw [parM_ap, toV_of et, rb_ok, el, rb_ok]; rfl
  have e : B__law_turn [.br xs, .d (nuD n), .un, .un] = .ok (.rt (.d (trD p))) [.br xs', .d (nuD n), .d (trD p), .ls []] := by
    unfold B__law_turn
    rw [seq_nx e1, seq_nx ew]
    exact retM_of rfl
  have hb := bodyM_of (n := 2) (N := 4) (B := B__law_turn) (ρ := [.br xs, .d (nuD n)]) (ρ' := [.br xs', .d (nuD n), .d (trD p), .ls []]) rfl e
  exact ⟨p, xs', hp, hr', [.un], hb⟩
end Nb

set_option Elab.async false
set_option linter.all false
set_option maxRecDepth 100000
set_option maxHeartbeats 4000000
namespace Nb
open PySem PySem.Spec L2 PyProof.Rows Pm
/-! a turn relabeled -/
def setF (p g : List Nat) (m : List Nat) (h : Nat) : List Nat := m.set (p.getD h 0) (p.getD (g.getD h 0) 0)
theorem getD_set {m : List Nat} {i j v : Nat} (hi : i < m.length) : (m.set i v).getD j 0 = if i = j then v else m.getD j 0 := by
  rw [List.getD_eq_getElem?_getD, List.getElem?_set, List.getD_eq_getElem?_getD]
  by_cases h : i = j
  · rw [if_pos h, if_pos h, if_pos (h ▸ hi)]; rfl
  · rw [if_neg h, if_neg h]
theorem setF_get {n : Nat} {p g : List Nat} (hp : IsT n p) : ∀ (hs m : List Nat), m.length = n → (∀ h ∈ hs, h < n) → (hs.foldl (setF p g) m).length = n ∧ ∀ k, k < n → (k ∈ hs ∨ m.getD (p.getD k 0) 0 = p.getD (g.getD k 0) 0) → (hs.foldl (setF p g) m).getD (p.getD k 0) 0 = p.getD (g.getD k 0) 0
  | [], m, hm, _ => ⟨hm, fun k hk h => h.resolve_left (by simp)⟩
  | h :: hs, m, hm, hh => by
    have h0 := hh h List.mem_cons_self
    have hi : p.getD h 0 < m.length := by rw [hm]; exact hp.at h0
    obtain ⟨e1, e2⟩ := setF_get (g := g) hp hs (setF p g m h) (by unfold setF; rw [List.length_set, hm]) fun z hz => hh z (List.mem_cons_of_mem _ hz)
    refine ⟨e1, fun k hk hor => e2 k hk ?_⟩
    by_cases hkh : k = h
    · subst hkh
      right
      unfold setF
      rw [getD_set hi, if_pos rfl]
    · rcases hor with h1 | h1
      · rcases List.mem_cons.mp h1 with e | e
        · exact absurd e hkh
        · exact .inl e
      · right
        unfold setF
        rw [getD_set hi, if_neg fun e => hkh (getD_inj hp.nd (by rw [hp.len]; exact hk) (by rw [hp.len]; exact h0) e.symm), h1]
theorem setF_conj {n : Nat} {p g : List Nat} (hp : IsT n p) (hg : IsT n g) : (List.range n).foldl (setF p g) (List.replicate n 0) = conjT p g := by
  obtain ⟨e1, e2⟩ := setF_get (g := g) hp (List.range n) (List.replicate n 0) (by simp) fun h hh => List.mem_range.mp hh
  refine List.ext_getElem (by rw [e1, (conj_isT hp hg).len]) fun i h1 h2 => ?_
  have hi : i < n := by rw [e1] at h1; exact h1
  obtain ⟨a1, a2⟩ := at_idx hp hi
  have e3 := e2 (p.idxOf i) a1 (.inl (List.mem_range.mpr a1))
  have e4 := conj_at hp hg a1
  rw [a2] at e3 e4
  rw [List.getD_eq_getElem?_getD, List.getElem?_eq_getElem h1] at e3
  rw [List.getD_eq_getElem?_getD, List.getElem?_eq_getElem h2] at e4
  exact (show _ = _ from e3).trans (show _ = _ from e4).symm
theorem ix_nat {v k : Nat} (h : v < k) : ixN k (v : Int) = some v := by
  unfold ixN
  rw [if_pos (Int.natCast_nonneg v), if_pos (by omega)]; rfl
theorem sto_ls {ρ : List SV} {k j : Nat} {xs : List PyData} {v : PyData} (h : ρ[k]? = some (.ls xs)) (hj : j < xs.length) : stoI k (nuD j) v ρ = .ok () (ρ.set k (.ls (xs.set j v))) := by
  have e : stoW (nuD j) v (.ls xs) = (ixN xs.length (j : Int)).map fun n => .ls (xs.set n v) := rfl
  unfold stoI
  simp only [h, e, ix_nat hj, Option.map_some]
theorem rep0 (n : Nat) : (List.replicate n [PyData.int 0]).flatten = (List.replicate n 0).map nuD := by
  induction n with
  | zero => rfl
  | succ n ih => rw [List.replicate_succ, List.replicate_succ, List.flatten_cons, ih]; rfl
theorem mul_ls {n : Nat} (h : n ≤ 1000) (ρ : List SV) : mulM (.list [.int 0]) (nuD n) ρ = .ok (.ls ((List.replicate n 0).map nuD)) ρ := by
  have e1 : (1000 : Int) < 2 ^ 63 := by decide
  have e2 : -(2 ^ 63) ≤ (0 : Int) := by decide
  have e : mulM (.list [.int 0]) (nuD n) ρ = (gM (-(2 ^ 63) ≤ ((n : Nat) : Int) ∧ ((n : Nat) : Int) < 2 ^ 63 ∧ [PyData.int 0].length * ((n : Nat) : Int).toNat ≤ sizeLine) (ret (SV.ls (List.replicate ((n : Nat) : Int).toNat [PyData.int 0]).flatten))) ρ := rfl
  rw [e, gM_ap, if_pos ⟨Int.le_trans e2 (Int.natCast_nonneg n), Int.lt_of_le_of_lt (Int.ofNat_le.mpr h) e1, by rw [Int.toNat_natCast, List.length_singleton, Nat.one_mul]; exact Nat.le_trans h small_sz⟩, ret_ap, Int.toNat_natCast, rep0]
theorem at0 {N G : PyData} {ρ : List SV} {i : Nat} (h : ρ[i]? = some (.d (.tuple [N, G]))) : (binP idxM i (ret (.int 0))) ρ = .ok (.d N) ρ := by
  rw [binP_ap, peek_of (w := .d (.tuple [N, G])) h rfl, rb_ok, ret_ap, rb_ok, peek_of (w := .d (.tuple [N, G])) h rfl, rb_ok]
  exact idx_tup (xs := [N, G]) (i := 0) rfl _
theorem at1 {N G : PyData} {ρ : List SV} {i : Nat} (h : ρ[i]? = some (.d (.tuple [N, G]))) : (binP idxM i (ret (.int 1))) ρ = .ok (.d G) ρ := by
  rw [binP_ap, peek_of (w := .d (.tuple [N, G])) h rfl, rb_ok, ret_ap, rb_ok, peek_of (w := .d (.tuple [N, G])) h rfl, rb_ok]
  exact idx_tup (xs := [N, G]) (i := 1) rfl _
def hoQ (n : Nat) (qs : List (PyData × List Nat)) : PyData := .tuple [nuD n, .tuple (qs.map fun q => q.1)]
theorem hoQ0 {n : Nat} {qs : List (PyData × List Nat)} {ρ : List SV} {i : Nat} (h : ρ[i]? = some (.d (hoQ n qs))) : (binP idxM i (ret (.int 0))) ρ = .ok (.d (nuD n)) ρ := at0 h
theorem hoQ1 {n : Nat} {qs : List (PyData × List Nat)} {ρ : List SV} {i : Nat} (h : ρ[i]? = some (.d (hoQ n qs))) : (binP idxM i (ret (.int 1))) ρ = .ok (.d (.tuple (qs.map fun q => q.1))) ρ := at1 h
/-- data that is looked into as a turn is -/
def likeT (n : Nat) (gd : PyData) (g : List Nat) : Prop := ∀ h, h < n → ∀ ρ : List SV, idxM gd (nuD h) ρ = .ok (.d (nuD (g.getD h 0))) ρ
theorem like_tr {n : Nat} {g : List Nat} (hg : g.length = n) : likeT n (trD g) g := fun h hh ρ => idx_tup (xs := g.map fun n => PyData.int (n : Nat)) (i := h) (at_trD (by omega)) ρ
def kD (g : List Nat) : PyData := .dict [(.none, trD g)]
theorem like_k {n : Nat} {g : List Nat} (hg : g.length = n) : likeT n (kD g) g := fun h hh ρ => by
  show (M.bind (ofO (atI (g.map fun n => PyData.int (n : Nat)) (h : Int))) fun x => ret (SV.d x)) ρ = _
  rw [atI_nat (at_trD (show h < g.length by omega))]; rfl
section
variable {n : Nat} {gens : List (List Nat)}
theorem mixed_one {n : Nat} {x0 : SV} {p g : List Nat} {gd : PyData} (hgd : likeT n gd g) (hn : n ≤ 8) (hp : IsT n p) (hg : IsT n g) {xs : List PyData} {G : PyData} {acc : List PyData} {w5 w6 : SV} (h5 : nbr w5) (h6 : nbr w6) (ha : acc.length ≤ 100) :
    ∃ v5 v6, nbr v5 ∧ nbr v6 ∧ L__law_mixed_0 [x0, .d (.tuple [nuD n, G]), .d (trD p), .ls acc, .d gd, w5, w6] = .ok .nx [x0, .d (.tuple [nuD n, G]), .d (trD p), .ls (acc ++ [trD (conjT p g)]), .d gd, v5, v6] := by
  have i0 : ∀ w5 w6, (binP idxM 1 (ret (.int 0))) [x0, .d (.tuple [nuD n, G]), .d (trD p), .ls acc, .d gd, w5, w6] = .ok (.d (nuD n)) [x0, .d (.tuple [nuD n, G]), .d (trD p), .ls acc, .d gd, w5, w6] := fun w5 w6 => idx_tup (xs := [nuD n, G]) (i := 0) rfl _
  have e1 : (setM 5 (binM mulM (toD (lstM (consM (ret (.int 0)) (ret [])))) (toD (binP idxM 1 (ret (.int 0)))))) [x0, .d (.tuple [nuD n, G]), .d (trD p), .ls acc, .d gd, w5, w6] = .ok .nx [x0, .d (.tuple [nuD n, G]), .d (trD p), .ls acc, .d gd, .ls ((List.replicate n 0).map nuD), w6] := by
    have eb := (binM_of (o := mulM) (toD_ls (one_lst (ret_ap (ρ := [x0, .d (.tuple [nuD n, G]), .d (trD p), .ls acc, .d gd, w5, w6]) (PyData.int 0)))) (toD_d (i0 w5 w6))).trans (mul_ls (by omega) _)
    exact setM_of eb (u := w5) rfl h5
  obtain ⟨ρ', ef, v6, k6, er, hlen⟩ := for_fold (g := gN 6) (body := L__law_mixed_1) (enc := nuD) (step := setF p g) (P := fun h => h < n)
    (R := fun m ρ => ∃ w6, nbr w6 ∧ ρ = [x0, .d (.tuple [nuD n, G]), .d (trD p), .ls acc, .d gd, .ls (m.map nuD), w6] ∧ m.length = n)
    (fun m h ρ hh ⟨w6, k6, er, hm⟩ => by
      subst er
      refine ⟨_, _, setO_of (u := w6) rfl k6, ?_, .d (nuD h), nbr_d _, rfl, by unfold setF; rw [List.length_set, hm]⟩
      have hph : p.getD h 0 < n := hp.at hh
      have q1 : (toD (binP idxM 4 (getD 6))) [x0, .d (.tuple [nuD n, G]), .d (trD p), .ls acc, .d gd, .ls (m.map nuD), .d (nuD h)] = .ok (nuD (g.getD h 0)) [x0, .d (.tuple [nuD n, G]), .d (trD p), .ls acc, .d gd, .ls (m.map nuD), .d (nuD h)] := toD_d (hgd h hh _)
      have q2 : (toD (binP idxM 2 (toD (binP idxM 4 (getD 6))))) [x0, .d (.tuple [nuD n, G]), .d (trD p), .ls acc, .d gd, .ls (m.map nuD), .d (nuD h)] = .ok (nuD (p.getD (g.getD h 0) 0)) [x0, .d (.tuple [nuD n, G]), .d (trD p), .ls acc, .d gd, .ls (m.map nuD), .d (nuD h)] := by
        refine toD_d ?_
        rw [binP_ap, peek_of (w := .d (trD p)) rfl rfl, rb_ok, q1, rb_ok, peek_of (w := .d (trD p)) rfl rfl, rb_ok]
        exact idx_tup (xs := p.map fun n => PyData.int (n : Nat)) (i := g.getD h 0) (at_trD (by rw [hp.len]; exact hg.at hh)) _
      have q3 : (toD (binP idxM 2 (getD 6))) [x0, .d (.tuple [nuD n, G]), .d (trD p), .ls acc, .d gd, .ls (m.map nuD), .d (nuD h)] = .ok (nuD (p.getD h 0)) [x0, .d (.tuple [nuD n, G]), .d (trD p), .ls acc, .d gd, .ls (m.map nuD), .d (nuD h)] := toD_d (idx_tup (xs := p.map fun n => PyData.int (n : Nat)) (i := h) (at_trD (by rw [hp.len]; exact hh)) _)
      show L__law_mixed_1 [x0, .d (.tuple [nuD n, G]), .d (trD p), .ls acc, .d gd, .ls (m.map nuD), .d (nuD h)] = _
      unfold L__law_mixed_1
      rw [stoM_ap, q2, rb_ok, hasO_of (w := .ls (m.map nuD)) rfl rfl, rb_ok, q3, rb_ok, sto_ls (xs := m.map nuD) rfl (by rw [List.length_map, hm]; exact hph), rb_ok, ret_ap, ← List.map_set]; rfl) (List.range n) (List.replicate n 0)
    [x0, .d (.tuple [nuD n, G]), .d (trD p), .ls acc, .d gd, .ls ((List.replicate n 0).map nuD), w6] (fun h hh => List.mem_range.mp hh) ⟨w6, h6, rfl, by simp⟩
  rw [setF_conj hp hg] at er hlen
  subst er
  have e2 : (forS (rgI1 (toD (binP idxM 1 (ret (.int 0))))) (gN 6) L__law_mixed_1) [x0, .d (.tuple [nuD n, G]), .d (trD p), .ls acc, .d gd, .ls ((List.replicate n 0).map nuD), w6] = .ok .nx [x0, .d (.tuple [nuD n, G]), .d (trD p), .ls acc, .d gd, .ls ((conjT p g).map nuD), v6] := by
    have er : (rgI1 (toD (binP idxM 1 (ret (.int 0))))) [x0, .d (.tuple [nuD n, G]), .d (trD p), .ls acc, .d gd, .ls ((List.replicate n 0).map nuD), w6] = .ok ((List.range n).map nuD) [x0, .d (.tuple [nuD n, G]), .d (trD p), .ls acc, .d gd, .ls ((List.replicate n 0).map nuD), w6] := by
      have a1 : (1000 : Int) < 2 ^ 62 := by decide
      have a2 : -(2 ^ 62) ≤ (0 : Int) := by decide
      rw [rgI1_ap, toD_d (i0 _ _), rb_ok]
      unfold nuD
      dsimp only
      rw [if_pos ⟨Int.le_trans a2 (Int.natCast_nonneg n), Int.lt_of_le_of_lt (Int.ofNat_le.mpr (show n ≤ 1000 by omega)) a1⟩, ret_ap, rgD_nat]
    rw [forS_ap, er, rb_ok, ef]
  have e3 : (dropM (appM 3 (toD (M.bind (peek 5) tupcM)))) [x0, .d (.tuple [nuD n, G]), .d (trD p), .ls acc, .d gd, .ls ((conjT p g).map nuD), v6] = .ok .nx [x0, .d (.tuple [nuD n, G]), .d (trD p), .ls (acc ++ [trD (conjT p g)]), .d gd, .ls ((conjT p g).map nuD), v6] := by
    have q : (toD (M.bind (peek 5) tupcM)) [x0, .d (.tuple [nuD n, G]), .d (trD p), .ls acc, .d gd, .ls ((conjT p g).map nuD), v6] = .ok (trD (conjT p g)) [x0, .d (.tuple [nuD n, G]), .d (trD p), .ls acc, .d gd, .ls ((conjT p g).map nuD), v6] := by
      refine toD_d ?_
      rw [bind_ap, peek_of (w := .ls ((conjT p g).map nuD)) rfl rfl, rb_ok]; rfl
    exact app_ls (xs := acc) rfl q rfl (Nat.lt_of_lt_of_le (show acc.length < 1000 by omega) small_sz)
  refine ⟨.ls ((conjT p g).map nuD), v6, nbr_ls _, k6, ?_⟩
  unfold L__law_mixed_0
  rw [seq_nx e1, seq_nx e2, e3]
theorem mixed_for {n : Nat} {x0 : SV} {p : List Nat} (hn : n ≤ 8) (hp : IsT n p) {G : PyData} : ∀ (gs : List (PyData × List Nat)) (acc : List PyData) (w4 w5 w6 : SV), nbr w4 → nbr w5 → nbr w6 → acc.length + gs.length ≤ 100 → (∀ g ∈ gs, IsT n g.2 ∧ likeT n g.1 g.2) →
    ∃ v4 v5 v6, forM (gN 4) L__law_mixed_0 (gs.map fun q => q.1) [x0, .d (.tuple [nuD n, G]), .d (trD p), .ls acc, w4, w5, w6] = .ok .nx [x0, .d (.tuple [nuD n, G]), .d (trD p), .ls (acc ++ ((gs.map fun q => q.2).map (conjT p)).map trD), v4, v5, v6]
  | [], acc, w4, w5, w6, h4, h5, h6, hl, hg => ⟨w4, w5, w6, by simp [forM]⟩
  | g :: gs, acc, w4, w5, w6, h4, h5, h6, hl, hg => by
    simp only [List.length_cons] at hl
    obtain ⟨g1, g2⟩ := hg g List.mem_cons_self
    obtain ⟨v5, v6, k5, k6, e1⟩ := mixed_one (x0 := x0) (G := G) (xs := []) g2 hn hp g1 h5 h6 (acc := acc) (by omega)
    obtain ⟨u4, u5, u6, e2⟩ := mixed_for (x0 := x0) (G := G) hn hp gs (acc ++ [trD (conjT p g.2)]) (.d g.1) v5 v6 (nbr_d _) k5 k6 (by simp only [List.length_append, List.length_cons, List.length_nil]; omega) fun z hz => hg z (List.mem_cons_of_mem _ hz)
    refine ⟨u4, u5, u6, ?_⟩
    have eg : gN 4 g.1 [x0, .d (.tuple [nuD n, G]), .d (trD p), .ls acc, w4, w5, w6] = some [x0, .d (.tuple [nuD n, G]), .d (trD p), .ls acc, .d g.1, w5, w6] := setO_of (u := w4) rfl h4
    rw [List.map_cons]
    refine (forM_go (b := L__law_mixed_0) eg e1).trans (e2.trans ?_)
    rw [List.map_cons, List.map_cons, List.map_cons, List.append_assoc]; rfl
theorem mixed_any {ns : List Int} {qs : List (PyData × List Nat)} (H : IsH n (qs.map fun (q : PyData × List Nat) => q.2)) (hq : ∀ q ∈ qs, likeT n q.1 q.2) {xs : List PyData} (hr : isRow ns xs) : ∃ p xs', IsT n p ∧ isRow ns xs' ∧ ∃ ρ', F__law_mixed [.br xs, .d (hoQ n qs)] = .ok (.d (hoD n ((qs.map fun (q : PyData × List Nat) => q.2).map (conjT p)))) (.br xs' :: ρ') := by
  obtain ⟨p, xs', hp, hr', ρt, et⟩ := law_turn_ok (n := n) H.n8 hr
  have e1 : (parM 2 3 (callR 2 F__law_turn 0 (consM (toD (binP idxM 1 (ret (.int 0)))) (ret []))) (lstM (ret []))) [.br xs, .d (hoQ n qs), .un, .un, .un, .un, .un] = .ok .nx [.br xs', .d (hoQ n qs), .d (trD p), .ls [], .un, .un, .un] := by
    have ec : callR 2 F__law_turn 0 (consM (toD (binP idxM 1 (ret (.int 0)))) (ret [])) [.br xs, .d (hoQ n qs), .un, .un, .un, .un, .un] = .ok (.d (trD p)) [.br xs', .d (hoQ n qs), .un, .un, .un, .un, .un] :=
      callR_of (w0 := .br xs) (w := .br xs) (ρ1 := [.br xs, .d (hoQ n qs), .un, .un, .un, .un, .un]) rfl rfl (one_arg (toD_d (hoQ0 rfl))) rfl rfl rfl et
    have en : (lstM (ret [])) [.br xs', .d (hoQ n qs), .un, .un, .un, .un, .un] = .ok (.ls []) [.br xs', .d (hoQ n qs), .un, .un, .un, .un, .un] := by rw [lstM_ap, ret_ap, rb_ok, fits_ap, if_pos (show ([] : List PyData).length ≤ sizeLine from Nat.zero_le _), ret_ap]
    rw [parM_ap, ec, rb_ok, en, rb_ok]; rfl
  obtain ⟨v4, v5, v6, ef⟩ := mixed_for (x0 := .br xs') (G := .tuple (qs.map fun q => q.1)) H.n8 hp qs [] .un .un .un nbr_un nbr_un nbr_un (by have := H.g6; rw [List.length_map] at this; simp only [List.length_nil]; omega) fun q z => ⟨H.gt q.2 (List.mem_map.mpr ⟨q, z, rfl⟩), hq q z⟩
  rw [List.nil_append] at ef
  have e2 : (forS (seqI (toD (binP idxM 1 (ret (.int 1))))) (gN 4) L__law_mixed_0) [.br xs', .d (hoQ n qs), .d (trD p), .ls [], .un, .un, .un] = .ok .nx [.br xs', .d (hoQ n qs), .d (trD p), .ls (((qs.map fun (q : PyData × List Nat) => q.2).map (conjT p)).map trD), v4, v5, v6] := by
    rw [forS_ap, seqI_ap, toD_d (hoQ1 (n := n) (qs := qs) rfl), rb_ok, seqO_t, ofO_some, rb_ok]
    exact ef
  have e0 : ∀ a b c d, (binP idxM 1 (ret (.int 0))) [.br xs', .d (hoQ n qs), .d (trD p), a, b, c, d] = .ok (.d (nuD n)) [.br xs', .d (hoQ n qs), .d (trD p), a, b, c, d] := fun a b c d => hoQ0 rfl
  have e3 : (tupM (consM (toD (binP idxM 1 (ret (.int 0)))) (consM (toD (M.bind (peek 3) tupcM)) (ret [])))) [.br xs', .d (hoQ n qs), .d (trD p), .ls (((qs.map fun (q : PyData × List Nat) => q.2).map (conjT p)).map trD), v4, v5, v6] = .ok (hoD n ((qs.map fun (q : PyData × List Nat) => q.2).map (conjT p))) [.br xs', .d (hoQ n qs), .d (trD p), .ls (((qs.map fun (q : PyData × List Nat) => q.2).map (conjT p)).map trD), v4, v5, v6] := by
    have q : (toD (M.bind (peek 3) tupcM)) [.br xs', .d (hoQ n qs), .d (trD p), .ls (((qs.map fun (q : PyData × List Nat) => q.2).map (conjT p)).map trD), v4, v5, v6] = .ok (.tuple (((qs.map fun (q : PyData × List Nat) => q.2).map (conjT p)).map trD)) [.br xs', .d (hoQ n qs), .d (trD p), .ls (((qs.map fun (q : PyData × List Nat) => q.2).map (conjT p)).map trD), v4, v5, v6] := by
      refine toD_d ?_
      rw [bind_ap, peek_of (w := .ls (((qs.map fun (q : PyData × List Nat) => q.2).map (conjT p)).map trD)) rfl rfl, rb_ok]; rfl
    rw [tupM_ap, consM_ap, toD_d (e0 _ _ _ _), rb_ok, consM_ap, q, rb_ok, ret_ap, rb_ok, ret_ap, rb_ok, ret_ap, rb_ok, fits_ap, if_pos (show ([nuD n, .tuple (((qs.map fun (q : PyData × List Nat) => q.2).map (conjT p)).map trD)] : List PyData).length ≤ sizeLine from (show 2 ≤ sizeLine by decide)), ret_ap]; rfl
  have e : B__law_mixed [.br xs, .d (hoQ n qs), .un, .un, .un, .un, .un] = .ok (.rt (.d (hoD n ((qs.map fun (q : PyData × List Nat) => q.2).map (conjT p))))) [.br xs', .d (hoQ n qs), .d (trD p), .ls (((qs.map fun (q : PyData × List Nat) => q.2).map (conjT p)).map trD), v4, v5, v6] := by
    unfold B__law_mixed
    rw [seq_nx e1, seq_nx e2]
    exact retM_of (toV_of e3)
  have hb := bodyM_of (w := .d (hoD n ((qs.map fun (q : PyData × List Nat) => q.2).map (conjT p)))) (n := 2) (N := 7) (B := B__law_mixed) (ρ := [.br xs, .d (hoQ n qs)]) (ρ' := [.br xs', .d (hoQ n qs), .d (trD p), .ls (((qs.map fun (q : PyData × List Nat) => q.2).map (conjT p)).map trD), v4, v5, v6]) rfl e
  exact ⟨p, xs', hp, hr', [.un], hb⟩
theorem mixed_ok {ns : List Int} (H : IsH n gens) {xs : List PyData} (hr : isRow ns xs) : ∃ p xs', IsT n p ∧ isRow ns xs' ∧ ∃ ρ', F__law_mixed [.br xs, .d (hoD n gens)] = .ok (.d (hoD n (gens.map (conjT p)))) (.br xs' :: ρ') := by
  have e2 : (gens.map fun g => (trD g, g)).map (fun q => q.2) = gens := by rw [List.map_map]; exact List.map_id' _
  have e1 : (gens.map fun g => (trD g, g)).map (fun q => q.1) = gens.map trD := by rw [List.map_map]; rfl
  have h := mixed_any (n := n) (qs := gens.map fun g => (trD g, g)) (by rw [e2]; exact H) (fun q hq => by
    obtain ⟨g, hg, rfl⟩ := List.mem_map.mp hq
    exact like_tr (H.gt g hg).len) hr
  rw [e2, show hoQ n (gens.map fun g => (trD g, g)) = hoD n gens from by unfold hoQ hoD; rw [e1]] at h
  exact h
theorem IsH.conj {p : List Nat} (H : IsH n gens) (hp : IsT n p) : IsH n (gens.map (conjT p)) := by
  refine ⟨H.n1, H.n8, ?_, ?_, conj_gens hp H.gt⟩
  · rw [List.length_map]; exact H.g1
  · rw [List.length_map]; exact H.g6
theorem pick_ok {ns : List Int} {xs ys : List PyData} (hr : isRow ns xs) (h0 : 0 < ys.length) (h1 : ys.length ≤ 1000) : ∃ y ∈ ys, ∃ xs', isRow ns xs' ∧ ∃ ρ', F__law_pick [.br xs, .d (.list ys)] = .ok (.d y) (.br xs' :: ρ') := by
  have hlf : (toD (lenN 1)) [.br xs, .d (.list ys)] = .ok (nuD ys.length) [.br xs, .d (.list ys)] := rfl
  obtain ⟨v, hv, xs', hr', et⟩ := taken_call hr (k := 0) (w0 := .br xs) (ys0 := xs) rfl rfl hlf (w := .br xs) rfl rfl h0 (by omega)
  have e : B__law_pick [.br xs, .d (.list ys)] = .ok (.rt (.d ys[v])) [.br xs', .d (.list ys)] := by
    unfold B__law_pick
    have eb : (binP idxM 1 (toD (callR 2 F__law_taken 0 (consM (toD (lenN 1)) (ret []))))) [.br xs, .d (.list ys)] = .ok (.d ys[v]) [.br xs', .d (.list ys)] := by
      rw [binP_ap, peek_of (w := .d (.list ys)) rfl rfl, rb_ok, toD_d et, rb_ok]
      show (peek 1 [.br xs', .d (.list ys)]).bind _ = _
      rw [peek_of (w := .d (.list ys)) rfl rfl, rb_ok]
      exact idx_lst (List.getElem?_eq_getElem hv) _
    exact retM_of eb
  have hb := bodyM_of (n := 2) (N := 2) (B := B__law_pick) (ρ := [.br xs, .d (.list ys)]) (ρ' := [.br xs', .d (.list ys)]) rfl e
  exact ⟨ys[v], List.getElem_mem hv, xs', hr', [.un], hb⟩
end
end Nb

set_option Elab.async false
set_option linter.all false
set_option maxRecDepth 100000
set_option maxHeartbeats 4000000
namespace Nb
open PySem PySem.Spec L2 PyProof.Rows Pm
/-! closed houses, read back -/
def unN : PyData → Nat
  | .int i => i.toNat
  | _ => 0
def unT : PyData → List Nat
  | .tuple xs => xs.map unN
  | .dict [(.none, .tuple xs)] => xs.map unN
  | _ => []
def unH : PyData → Nat × List (List Nat)
  | .tuple [n, .tuple gs] => (unN n, gs.map unT)
  | _ => (0, [])
def hOf (h : Nat × List (List Nat)) : PyData := hoD h.1 h.2
def isTB (n : Nat) (t : List Nat) : Bool := decide (t.length = n) && (decide t.Nodup && t.all fun x => decide (x < n))
def isHB (h : Nat × List (List Nat)) : Bool := decide (2 ≤ h.1) && (decide (h.1 ≤ 8) && (decide (1 ≤ h.2.length) && (decide (h.2.length ≤ 6) && h.2.all (isTB h.1))))
theorem isTB_ok {n : Nat} {t : List Nat} (h : isTB n t = true) : IsT n t := by
  unfold isTB at h
  rw [Bool.and_eq_true, Bool.and_eq_true] at h
  exact ⟨of_decide_eq_true h.1, of_decide_eq_true h.2.1, fun x hx => of_decide_eq_true (List.all_eq_true.mp h.2.2 x hx)⟩
theorem isHB_ok {h : Nat × List (List Nat)} (z : isHB h = true) : 2 ≤ h.1 ∧ IsH h.1 h.2 := by
  unfold isHB at z
  rw [Bool.and_eq_true, Bool.and_eq_true, Bool.and_eq_true, Bool.and_eq_true] at z
  obtain ⟨a, b, c, d, e⟩ := z
  have a := of_decide_eq_true a
  exact ⟨a, ⟨by omega, of_decide_eq_true b, of_decide_eq_true c, of_decide_eq_true d, fun g hg => isTB_ok (List.all_eq_true.mp e g hg)⟩⟩
def lsOf : Option SV → List PyData
  | some (.ls xs) => xs
  | _ => []
def dOf : Option SV → PyData
  | some (.d x) => x
  | _ => .none
def KG : List (Nat × List (List Nat)) := (lsOf (vl (F__law_known_groups []))).map unH
theorem known_eq : vl (F__law_known_groups []) = some (.ls (KG.map hOf)) := by kernel_rfl
theorem KG_ok : KG.all isHB = true := by decide +kernel
theorem KG_len : 0 < KG.length ∧ KG.length ≤ 1000 := by decide +kernel
theorem whole_ok {ns : List Int} {xs : List PyData} (hr : isRow ns xs) : ∃ n gens, 2 ≤ n ∧ IsH n gens ∧ ∃ xs', isRow ns xs' ∧ ∃ ρ', F__law_whole [.br xs] = .ok (.d (hoD n gens)) (.br xs' :: ρ') := by
  obtain ⟨ρk, ek⟩ := vl_ok known_eq
  have ekc : (toD (callM 0 F__law_known_groups (ret []))) [.br xs] = .ok (.list (KG.map hOf)) [.br xs] := toD_ls (callM_of (xs := []) rfl rfl ek)
  obtain ⟨y, hy, x1, r1, ρ1, e1⟩ := pick_ok hr (ys := KG.map hOf) (by rw [List.length_map]; exact KG_len.1) (by rw [List.length_map]; exact KG_len.2)
  obtain ⟨h, hh, rfl⟩ := List.mem_map.mp hy
  obtain ⟨n2, H⟩ := isHB_ok (List.all_eq_true.mp KG_ok h hh)
  obtain ⟨p, x2, hp, r2, ρ2, e2⟩ := mixed_ok H r1
  refine ⟨h.1, h.2.map (conjT p), n2, Nb.IsH.conj H hp, x2, r2, ?_⟩
  have c1 : callR 2 F__law_pick 0 (consM (toD (callM 0 F__law_known_groups (ret []))) (ret [])) [.br xs] = .ok (.d (hOf h)) [.br x1] := callR_of (w0 := .br xs) (w := .br xs) (ρ1 := [.br xs]) rfl rfl (one_arg ekc) rfl rfl rfl e1
  have c2 : callR 2 F__law_mixed 0 (consM (toD (callR 2 F__law_pick 0 (consM (toD (callM 0 F__law_known_groups (ret []))) (ret [])))) (ret [])) [.br xs] = .ok (.d (hoD h.1 (h.2.map (conjT p)))) [.br x2] := callR_of (w0 := .br xs) (w := .br x1) (ρ1 := [.br x1]) rfl rfl (one_arg (toD_d c1)) rfl rfl rfl e2
  have e : B__law_whole [.br xs] = .ok (.rt (.d (hoD h.1 (h.2.map (conjT p))))) [.br x2] := by
    unfold B__law_whole
    exact retM_of c2
  have hb := bodyM_of (n := 1) (N := 1) (B := B__law_whole) (ρ := [.br xs]) (ρ' := [.br x2]) rfl e
  exact ⟨[], hb⟩
end Nb

set_option Elab.async false
set_option linter.all false
set_option maxRecDepth 100000
set_option maxHeartbeats 4000000
namespace Nb
open PySem PySem.Spec L2 PyProof.Rows Pm
/-! the told houses -/
def tg (k i : Nat) : List Nat := (unH (dOf (vl (F_sharp_house [.d (nuD k)])))).2.getD i []
def toldD (k : Nat) : PyData := .tuple [nuD k, .tuple [trD (tg k 0), if k = 4 ∨ k = 8 then kD (tg k 1) else trD (tg k 1)]]
theorem sh2 : vl (F_sharp_house [.d (nuD 2)]) = some (.d (toldD 2)) := by kernel_rfl
theorem sh3 : vl (F_sharp_house [.d (nuD 3)]) = some (.d (toldD 3)) := by kernel_rfl
theorem sh4 : vl (F_sharp_house [.d (nuD 4)]) = some (.d (toldD 4)) := by kernel_rfl
theorem sh5 : vl (F_sharp_house [.d (nuD 5)]) = some (.d (toldD 5)) := by kernel_rfl
theorem sh7 : vl (F_sharp_house [.d (nuD 7)]) = some (.d (toldD 7)) := by kernel_rfl
theorem sh8 : vl (F_sharp_house [.d (nuD 8)]) = some (.d (toldD 8)) := by kernel_rfl
theorem sh6 : vl (F_sharp_house [.d (nuD 6)]) = some (.d .none) := by kernel_rfl
theorem sn2 : vl (F_shows_sharp [.d (nuD 2), .d .none]) = some (.d (.bool false)) := by kernel_rfl
theorem sn3 : vl (F_shows_sharp [.d (nuD 3), .d .none]) = some (.d (.bool false)) := by kernel_rfl
theorem sn4 : vl (F_shows_sharp [.d (nuD 4), .d .none]) = some (.d (.bool false)) := by kernel_rfl
theorem sn5 : vl (F_shows_sharp [.d (nuD 5), .d .none]) = some (.d (.bool false)) := by kernel_rfl
theorem sn7 : vl (F_shows_sharp [.d (nuD 7), .d .none]) = some (.d (.bool false)) := by kernel_rfl
theorem sn8 : vl (F_shows_sharp [.d (nuD 8), .d .none]) = some (.d (.bool false)) := by kernel_rfl
theorem sn6 : vl (F_shows_sharp [.d (nuD 6), .d .none]) = some (.d (.bool true)) := by kernel_rfl
theorem tg_ok : ([2, 3, 4, 5, 7, 8].all fun k => isHB (k, [tg k 0, tg k 1])) = true := by decide +kernel
end Nb

set_option Elab.async false
set_option linter.all false
set_option maxRecDepth 100000
set_option maxHeartbeats 4000000
namespace Nb
open PySem PySem.Spec L2 PyProof.Rows Pm
theorem st2 : vl (F_shows_sharp [.d (nuD 2), .d (toldD 2)]) = some (.d (.bool true)) := by kernel_rfl
theorem st3 : vl (F_shows_sharp [.d (nuD 3), .d (toldD 3)]) = some (.d (.bool true)) := by kernel_rfl
theorem st4 : vl (F_shows_sharp [.d (nuD 4), .d (toldD 4)]) = some (.d (.bool true)) := by kernel_rfl
theorem st5 : vl (F_shows_sharp [.d (nuD 5), .d (toldD 5)]) = some (.d (.bool true)) := by kernel_rfl
theorem st7 : vl (F_shows_sharp [.d (nuD 7), .d (toldD 7)]) = some (.d (.bool true)) := by kernel_rfl
theorem st8 : vl (F_shows_sharp [.d (nuD 8), .d (toldD 8)]) = some (.d (.bool true)) := by kernel_rfl
theorem ls2 : vl (F__law_is_sharp [.d (toldD 2)]) = some (.d (.bool true)) := by kernel_rfl
theorem ls3 : vl (F__law_is_sharp [.d (toldD 3)]) = some (.d (.bool true)) := by kernel_rfl
theorem ls4 : vl (F__law_is_sharp [.d (toldD 4)]) = some (.d (.bool true)) := by kernel_rfl
theorem ls5 : vl (F__law_is_sharp [.d (toldD 5)]) = some (.d (.bool true)) := by kernel_rfl
theorem ls7 : vl (F__law_is_sharp [.d (toldD 7)]) = some (.d (.bool true)) := by kernel_rfl
theorem ls8 : vl (F__law_is_sharp [.d (toldD 8)]) = some (.d (.bool true)) := by kernel_rfl
theorem lh2 : vl (F__law_is_sharp [.d (hoD 2 [tg 2 0, tg 2 1])]) = some (.d (.bool true)) := by kernel_rfl
theorem lh3 : vl (F__law_is_sharp [.d (hoD 3 [tg 3 0, tg 3 1])]) = some (.d (.bool true)) := by kernel_rfl
theorem lh4 : vl (F__law_is_sharp [.d (hoD 4 [tg 4 0, tg 4 1])]) = some (.d (.bool true)) := by kernel_rfl
theorem lh5 : vl (F__law_is_sharp [.d (hoD 5 [tg 5 0, tg 5 1])]) = some (.d (.bool true)) := by kernel_rfl
theorem lh7 : vl (F__law_is_sharp [.d (hoD 7 [tg 7 0, tg 7 1])]) = some (.d (.bool true)) := by kernel_rfl
theorem lh8 : vl (F__law_is_sharp [.d (hoD 8 [tg 8 0, tg 8 1])]) = some (.d (.bool true)) := by kernel_rfl
end Nb

set_option Elab.async false
set_option linter.all false
set_option maxRecDepth 100000
set_option maxHeartbeats 4000000
namespace Nb
open PySem PySem.Spec L2 PyProof.Rows Pm
theorem eq_bo (n a b : Bool) (ρ : List SV) : eqM n (.bool a) (.bool b) ρ = .ok (.d (.bool (if n then !decide (a = b) else decide (a = b)))) ρ :=
  eqM_of (okD_shaped (k := 0) (d := .bool a) rfl (by decide)) (okD_shaped (k := 0) (d := .bool b) rfl (by decide)) (by cases a <;> cases b <;> simp [PyData.eqv]) ρ
/-- name == i -/
theorem eqP_int {ρ : List SV} {i m : Nat} {j : Int} (h : ρ[i]? = some (.d (nuD m))) : (toD (binP (eqM false) i (ret (.int j)))) ρ = .ok (.bool (decide ((m : Int) = j))) ρ := by
  refine toD_d ?_
  rw [binP_ap, peek_of (w := .d (nuD m)) h rfl, rb_ok, ret_ap, rb_ok, peek_of (w := .d (nuD m)) h rfl, rb_ok]
  exact eq_intF _ _ _
/-- f(..) is not True -/
theorem isT_of {f : M PyData} {ρ ρ1 : List SV} {b : Bool} (h : f ρ = .ok (.bool b) ρ1) : (tstM (binM (isBM true) f (ret (.bool true)))) ρ = .ok (!b) ρ1 := by
  have e := (binM_of (o := isBM true) h (ret_ap (PyData.bool true))).trans (isB_b _ _ _)
  have : inB true (decide (b = true)) = !b := by cases b <;> rfl
  rw [this] at e
  exact tstM_of e
theorem two_args {f g : M PyData} {x y : PyData} {ρ ρ1 ρ2 : List SV} (h : f ρ = .ok x ρ1) (h2 : g ρ1 = .ok y ρ2) : (consM f (consM g (ret []))) ρ = .ok [x, y] ρ2 := by rw [consM_ap, h, rb_ok, one_arg h2, rb_ok, ret_ap]
theorem getD_ap {ρ : List SV} {i : Nat} {x : PyData} (h : ρ[i]? = some (.d x)) : getD i ρ = .ok x ρ := getD_d h
/-! sharp, whatever the lots -/
section
variable {n : Nat} {gens : List (List Nat)}
structure Sharp (n : Nat) (gens : List (List Nat)) : Prop where
  two : TwoLots n gens
  ord : ∀ G, IsG n gens G → G.length = n * (n - 1)
theorem sharp_of (H : IsH n gens) (n2 : 2 ≤ n) {ρ' : List SV} (e : F__law_is_sharp [.d (hoD n gens)] = .ok (.d (.bool true)) ρ') : Sharp n gens := by
  obtain ⟨LP, el, hL⟩ := lots_pairs H
  obtain ⟨G, ed, hG, _⟩ := group_ok H
  obtain ⟨ρ2, e2⟩ := law_sharp_ok H n2 el hG
  rw [e] at e2
  injection e2 with e3 _
  injection e3 with e4
  injection e4 with e5
  unfold Shp at e5
  have e5 := e5.symm
  rw [Bool.and_eq_true] at e5
  have a := of_decide_eq_true e5.1
  have b := of_decide_eq_true e5.2
  exact ⟨(two_lots H.gt n2 hL).mp a, fun G' hG' => by rw [hG'.len_eq hG]; exact b⟩
theorem Sharp.conj (H : IsH n gens) (n2 : 2 ≤ n) (s : Sharp n gens) {p : List Nat} (hp : IsT n p) : Sharp n (gens.map (conjT p)) := by
  obtain ⟨G, ed, hG, _⟩ := group_ok H
  exact ⟨conj_two hp H.gt n2 s.two, fun G' hG' => by rw [conj_order hp H.gt hG hG']; exact s.ord G hG⟩
theorem Sharp.shows (H : IsH n gens) (n2 : 2 ≤ n) (s : Sharp n gens) : ∃ ρ', F_shows_sharp [.d (nuD n), .d (hoD n gens)] = .ok (.d (.bool true)) ρ' := by
  obtain ⟨LP, el, hL⟩ := lots_pairs H
  obtain ⟨G, ed, hG, _⟩ := group_ok H
  have e := shows_ok H n2 el hL hG
  rw [show Shp n LP G = true from by
    unfold Shp
    rw [decide_eq_true ((two_lots H.gt n2 hL).mpr s.two), decide_eq_true (s.ord G hG)]; rfl] at e
  exact e
/-- shows_sharp and the law's own answer agree -/
theorem both_ok (H : IsH n gens) (n2 : 2 ≤ n) : ∃ b ρ1 ρ2, F_shows_sharp [.d (nuD n), .d (hoD n gens)] = .ok (.d (.bool b)) ρ1 ∧ F__law_is_sharp [.d (hoD n gens)] = .ok (.d (.bool b)) ρ2 := by
  obtain ⟨LP, el, hL⟩ := lots_pairs H
  obtain ⟨G, ed, hG, _⟩ := group_ok H
  obtain ⟨ρ1, e1⟩ := shows_ok H n2 el hL hG
  obtain ⟨ρ2, e2⟩ := law_sharp_ok H n2 el hG
  exact ⟨_, ρ1, ρ2, e1, e2⟩
/-- not alike(shows_sharp(halls, house), is_sharp(house)) -/
theorem check_ok (H : IsH n gens) (n2 : 2 ≤ n) {f : M PyData} {ρ : List SV} (hf : f ρ = .ok (nuD n) ρ) (h5 : ρ[5]? = some (.d (hoD n gens))) :
    (ifM (notT (truM (toD (callM 2 (F__law_alike 6) (consM (toD (callM 2 F_shows_sharp (consM f (consM (getD 5) (ret []))))) (consM (toD (callM 1 F__law_is_sharp (consM (getD 5) (ret [])))) (ret []))))))) (retM (toV (ret (.bool false)))) (ret .nx)) ρ = .ok .nx ρ := by
  obtain ⟨b, ρ1, ρ2, e1, e2⟩ := both_ok H n2
  obtain ⟨ρ3, e3⟩ := alike_ok b b
  rw [decide_eq_true rfl] at e3
  have c1 : (toD (callM 2 F_shows_sharp (consM f (consM (getD 5) (ret []))))) ρ = .ok (.bool b) ρ := toD_d (callM_of (xs := [nuD n, hoD n gens]) (two_args hf (getD_d h5)) rfl e1)
  have c2 : (toD (callM 1 F__law_is_sharp (consM (getD 5) (ret [])))) ρ = .ok (.bool b) ρ := toD_d (callM_of (xs := [hoD n gens]) (one_arg (getD_d h5)) rfl e2)
  have c3 : (callM 2 (F__law_alike 6) (consM (toD (callM 2 F_shows_sharp (consM f (consM (getD 5) (ret []))))) (consM (toD (callM 1 F__law_is_sharp (consM (getD 5) (ret [])))) (ret [])))) ρ = .ok (.d (.bool true)) ρ := callM_of (xs := [.bool b, .bool b]) (two_args c1 c2) rfl e3
  exact ifM_fn (notT_of (truM_b (toD_d c3)))
end
/-- halls = 2 + taken(m) -/
theorem take_halls {ns : List Int} {xs : List PyData} (hr : isRow ns xs) {m : Nat} (m0 : 0 < m) (m1 : m < 1073741824) {x : PyData} {w2 w3 w4 w5 : SV} (h2 : nbr w2) :
    ∃ v, v < m ∧ ∃ xs', isRow ns xs' ∧ (setM 2 (binM addM (ret (.int 2)) (toD (callR 2 F__law_taken 1 (consM (ret (nuD m)) (ret [])))))) [.d x, .ls xs, w2, w3, w4, w5, .un, .un, .un, .un] = .ok .nx [.d x, .ls xs', .d (nuD (2 + v)), w3, w4, w5, .un, .un, .un, .un] := by
  obtain ⟨v, hv, xs', hr', et⟩ := taken_call hr (k := 1) (ρ := [.d x, .ls xs, w2, w3, w4, w5, .un, .un, .un, .un]) (w0 := .ls xs) (ys0 := xs) rfl rfl (ret_ap (nuD m)) (w := .ls xs) rfl rfl m0 m1
  refine ⟨v, hv, xs', hr', ?_⟩
  have eb := (binM_of (o := addM) (ret_ap (ρ := [.d x, .ls xs, w2, w3, w4, w5, .un, .un, .un, .un]) (PyData.int 2)) (toD_d et)).trans (add_i 2 (v : Int))
  rw [show (2 : Int) + (v : Int) = ((2 + v : Nat) : Int) from by omega] at eb
  exact setM_of eb (u := w2) rfl h2
/-! the told house -/
theorem told_six {x : PyData} {xs : List PyData} : S_law_2 [.d x, .ls xs, .d (nuD 6), .un, .un, .un, .un, .un, .un, .un] = .ok .nx [.d x, .ls xs, .d (nuD 6), .d .none, .un, .un, .un, .un, .un, .un] := by kernel_rfl
theorem told_six3 {x : PyData} {xs : List PyData} : S_law_3 [.d x, .ls xs, .d (nuD 6), .d .none, .un, .un, .un, .un, .un, .un] = .ok .nx [.d x, .ls xs, .d (nuD 6), .d .none, .un, .un, .un, .un, .un, .un] := by kernel_rfl
theorem told_six4 {x : PyData} {xs : List PyData} : S_law_4 [.d x, .ls xs, .d (nuD 6), .d .none, .un, .un, .un, .un, .un, .un] = .ok .nx [.d x, .ls xs, .d (nuD 6), .d .none, .un, .un, .un, .un, .un, .un] := by kernel_rfl
theorem told_six5 {x : PyData} {xs : List PyData} : S_law_5 [.d x, .ls xs, .d (nuD 6), .d .none, .un, .un, .un, .un, .un, .un] = .ok .nx [.d x, .ls xs, .d (nuD 6), .d .none, .un, .un, .un, .un, .un, .un] := by kernel_rfl
def qK (k : Nat) : List (PyData × List Nat) := [(trD (tg k 0), tg k 0), (if k = 4 ∨ k = 8 then kD (tg k 1) else trD (tg k 1), tg k 1)]
theorem like_if {k : Nat} {g : List Nat} (h : g.length = k) : likeT k (if k = 4 ∨ k = 8 then kD g else trD g) g := by
  split
  · exact like_k h
  · exact like_tr h
theorem told_go {ns : List Int} {k : Nat} {xs : List PyData} {x : PyData} (hr : isRow ns xs) (n6 : k ≠ 6) (hB : isHB (k, [tg k 0, tg k 1]) = true) (sh : vl (F_sharp_house [.d (nuD k)]) = some (.d (toldD k))) (sn : vl (F_shows_sharp [.d (nuD k), .d .none]) = some (.d (.bool false)))
    (st : vl (F_shows_sharp [.d (nuD k), .d (toldD k)]) = some (.d (.bool true))) (ls : vl (F__law_is_sharp [.d (toldD k)]) = some (.d (.bool true))) (lh : vl (F__law_is_sharp [.d (hoD k [tg k 0, tg k 1])]) = some (.d (.bool true))) (rest : M Fl) :
    ∃ xs' d, isRow ns xs' ∧ (seqM S_law_2 (seqM S_law_3 (seqM S_law_4 (seqM S_law_5 rest)))) [.d x, .ls xs, .d (nuD k), .un, .un, .un, .un, .un, .un, .un] = rest [.d x, .ls xs', .d (nuD k), .d d, .un, .un, .un, .un, .un, .un] := by
  obtain ⟨n2, H⟩ := isHB_ok hB
  obtain ⟨ρ1, sh⟩ := vl_ok sh
  obtain ⟨ρ2, sn⟩ := vl_ok sn
  obtain ⟨ρ3, st⟩ := vl_ok st
  obtain ⟨ρ4, ls⟩ := vl_ok ls
  obtain ⟨ρ5, lh⟩ := vl_ok lh
  have S := sharp_of H n2 lh
  have e2 : S_law_2 [.d x, .ls xs, .d (nuD k), .un, .un, .un, .un, .un, .un, .un] = .ok .nx [.d x, .ls xs, .d (nuD k), .d (toldD k), .un, .un, .un, .un, .un, .un] :=
    setM_of (callM_of (xs := [nuD k]) (one_arg (getD_d rfl)) rfl sh) (u := .un) rfl nbr_un
  have d6 : decide ((k : Int) = 6) = false := decide_eq_false (by omega)
  have e3 : S_law_3 [.d x, .ls xs, .d (nuD k), .d (toldD k), .un, .un, .un, .un, .un, .un] = .ok .nx [.d x, .ls xs, .d (nuD k), .d (toldD k), .un, .un, .un, .un, .un, .un] := by
    have q1 : (toD (binM (isNM false) (getD 3) (ret (.none)))) [.d x, .ls xs, .d (nuD k), .d (toldD k), .un, .un, .un, .un, .un, .un] = .ok (.bool false) [.d x, .ls xs, .d (nuD k), .d (toldD k), .un, .un, .un, .un, .un, .un] := rfl
    have q2 := eqP_int (ρ := [.d x, .ls xs, .d (nuD k), .d (toldD k), .un, .un, .un, .un, .un, .un]) (i := 2) (m := k) (j := 6) rfl
    rw [d6] at q2
    have c1 := tstM_of ((binM_of (o := eqM true) q1 q2).trans (eq_bo true false false _))
    have c2 := isT_of (toD_d (callM_of (F := F_shows_sharp) (n := 2) (xs := [nuD k, toldD k]) (two_args (getD_d (i := 2) (ρ := [.d x, .ls xs, .d (nuD k), .d (toldD k), .un, .un, .un, .un, .un, .un]) rfl) (getD_d (i := 3) rfl)) rfl st))
    exact ifM_fn ((orT_f c1).trans c2)
  have e4 : S_law_4 [.d x, .ls xs, .d (nuD k), .d (toldD k), .un, .un, .un, .un, .un, .un] = .ok .nx [.d x, .ls xs, .d (nuD k), .d (toldD k), .un, .un, .un, .un, .un, .un] := by
    have q1 := toD_d (callM_of (F := F_shows_sharp) (n := 2) (xs := [nuD k, .none]) (two_args (getD_d (i := 2) (ρ := [.d x, .ls xs, .d (nuD k), .d (toldD k), .un, .un, .un, .un, .un, .un]) rfl) (ret_ap PyData.none)) rfl sn)
    have q2 := eqP_int (ρ := [.d x, .ls xs, .d (nuD k), .d (toldD k), .un, .un, .un, .un, .un, .un]) (i := 2) (m := k) (j := 6) rfl
    rw [d6] at q2
    exact ifM_fn (tstM_of ((binM_of (o := eqM true) q1 q2).trans (eq_bo true false false _)))
  have hq1 : (qK k).map (fun q => q.2) = [tg k 0, tg k 1] := rfl
  obtain ⟨p, xs', hp, hr', ρm, em⟩ := mixed_any (n := k) (qs := qK k) (by rw [hq1]; exact H) (fun q hq => by
    rcases List.mem_cons.mp hq with e | e
    · subst e; exact like_tr (H.gt _ (by simp)).len
    · rcases List.mem_cons.mp e with e | e
      · subst e; exact like_if (H.gt _ (by simp)).len
      · cases e) hr
  rw [hq1] at em
  have em : F__law_mixed [.br xs, .d (toldD k)] = .ok (.d (hoD k ([tg k 0, tg k 1].map (conjT p)))) (.br xs' :: ρm) := em
  have SM := S.conj H n2 hp
  obtain ⟨ρs, es⟩ := SM.shows (Nb.IsH.conj H hp) n2
  have e5 : S_law_5 [.d x, .ls xs, .d (nuD k), .d (toldD k), .un, .un, .un, .un, .un, .un] = .ok .nx [.d x, .ls xs', .d (nuD k), .d (toldD k), .un, .un, .un, .un, .un, .un] := by
    have t1 : (tstM (binM (isNM true) (getD 3) (ret (.none)))) [.d x, .ls xs, .d (nuD k), .d (toldD k), .un, .un, .un, .un, .un, .un] = .ok true [.d x, .ls xs, .d (nuD k), .d (toldD k), .un, .un, .un, .un, .un, .un] := rfl
    have i0 : (toD (binP idxM 3 (ret (.int 0)))) [.d x, .ls xs, .d (nuD k), .d (toldD k), .un, .un, .un, .un, .un, .un] = .ok (nuD k) [.d x, .ls xs, .d (nuD k), .d (toldD k), .un, .un, .un, .un, .un, .un] := toD_d (at0 (G := .tuple ((qK k).map fun q => q.1)) rfl)
    have i1 : (toD (binP idxM 3 (ret (.int 1)))) [.d x, .ls xs, .d (nuD k), .d (toldD k), .un, .un, .un, .un, .un, .un] = .ok (.tuple ((qK k).map fun q => q.1)) [.d x, .ls xs, .d (nuD k), .d (toldD k), .un, .un, .un, .un, .un, .un] := toD_d (at1 (N := nuD k) rfl)
    have a1 : (tstM (binM (eqM true) (toD (binP idxM 3 (ret (.int 0)))) (getD 2))) [.d x, .ls xs, .d (nuD k), .d (toldD k), .un, .un, .un, .un, .un, .un] = .ok false [.d x, .ls xs, .d (nuD k), .d (toldD k), .un, .un, .un, .un, .un, .un] := by
      have e := (binM_of (o := eqM true) i0 (getD_d (x := nuD k) (i := 2) rfl)).trans (eq_intT _ _ _)
      rw [decide_eq_true rfl] at e
      exact tstM_of e
    have a2 : (tstM (binM (ordM fun i j => decide (j < i)) (toD (M.bind (toD (binP idxM 3 (ret (.int 1)))) lenM)) (ret (.int 6)))) [.d x, .ls xs, .d (nuD k), .d (toldD k), .un, .un, .un, .un, .un, .un] = .ok false [.d x, .ls xs, .d (nuD k), .d (toldD k), .un, .un, .un, .un, .un, .un] := by
      have el : (toD (M.bind (toD (binP idxM 3 (ret (.int 1)))) lenM)) [.d x, .ls xs, .d (nuD k), .d (toldD k), .un, .un, .un, .un, .un, .un] = .ok (.int 2) [.d x, .ls xs, .d (nuD k), .d (toldD k), .un, .un, .un, .un, .un, .un] := by
        refine toD_d ?_
        rw [bind_ap, i1, rb_ok]; rfl
      have e := binM_of (o := ordM fun i j => decide (j < i)) el (ret_ap (PyData.int 6))
      rw [ord_of] at e
      exact tstM_of e
    have a3 : (notT (truM (toD (callM 1 F__law_is_sharp (consM (getD 3) (ret [])))))) [.d x, .ls xs, .d (nuD k), .d (toldD k), .un, .un, .un, .un, .un, .un] = .ok false [.d x, .ls xs, .d (nuD k), .d (toldD k), .un, .un, .un, .un, .un, .un] := notT_of (truM_b (toD_d (callM_of (xs := [toldD k]) (one_arg (getD_d rfl)) rfl ls)))
    have c1 : callR 2 F__law_mixed 1 (consM (getD 3) (ret [])) [.d x, .ls xs, .d (nuD k), .d (toldD k), .un, .un, .un, .un, .un, .un] = .ok (.d (hoD k ([tg k 0, tg k 1].map (conjT p)))) [.d x, .ls xs', .d (nuD k), .d (toldD k), .un, .un, .un, .un, .un, .un] :=
      callR_of (w0 := .ls xs) (w := .ls xs) (ρ1 := [.d x, .ls xs, .d (nuD k), .d (toldD k), .un, .un, .un, .un, .un, .un]) rfl rfl (one_arg (getD_d rfl)) rfl rfl rfl em
    have c2 := isT_of (toD_d (callM_of (F := F_shows_sharp) (n := 2) (xs := [nuD k, hoD k ([tg k 0, tg k 1].map (conjT p))]) (two_args (getD_d (i := 2) (ρ := [.d x, .ls xs, .d (nuD k), .d (toldD k), .un, .un, .un, .un, .un, .un]) rfl) (toD_d c1)) rfl es))
    unfold S_law_5
    rw [ifM_t t1, seq_nx (ifM_fn ((orT_f a1).trans ((orT_f a2).trans a3)))]
    exact ifM_fn c2
  exact ⟨xs', toldD k, hr', by rw [seq_nx e2, seq_nx e3, seq_nx e4, seq_nx e5]⟩
theorem told_part {ns : List Int} {k : Nat} {xs : List PyData} {x : PyData} (hr : isRow ns xs) (k2 : 2 ≤ k) (k8 : k ≤ 8) (rest : M Fl) :
    ∃ xs' d, isRow ns xs' ∧ (seqM S_law_2 (seqM S_law_3 (seqM S_law_4 (seqM S_law_5 rest)))) [.d x, .ls xs, .d (nuD k), .un, .un, .un, .un, .un, .un, .un] = rest [.d x, .ls xs', .d (nuD k), .d d, .un, .un, .un, .un, .un, .un] := by
  have hB : ∀ k ∈ [2, 3, 4, 5, 7, 8], isHB (k, [tg k 0, tg k 1]) = true := fun k hk => List.all_eq_true.mp tg_ok k hk
  have cs : k = 2 ∨ k = 3 ∨ k = 4 ∨ k = 5 ∨ k = 6 ∨ k = 7 ∨ k = 8 := by omega
  rcases cs with e | e | e | e | e | e | e
  · subst e; exact told_go hr (by decide) (hB _ (by simp)) sh2 sn2 st2 ls2 lh2 rest
  · subst e; exact told_go hr (by decide) (hB _ (by simp)) sh3 sn3 st3 ls3 lh3 rest
  · subst e; exact told_go hr (by decide) (hB _ (by simp)) sh4 sn4 st4 ls4 lh4 rest
  · subst e; exact told_go hr (by decide) (hB _ (by simp)) sh5 sn5 st5 ls5 lh5 rest
  · subst e; exact ⟨xs, .none, hr, by rw [seq_nx told_six, seq_nx told_six3, seq_nx told_six4, seq_nx told_six5]⟩
  · subst e; exact told_go hr (by decide) (hB _ (by simp)) sh7 sn7 st7 ls7 lh7 rest
  · subst e; exact told_go hr (by decide) (hB _ (by simp)) sh8 sn8 st8 ls8 lh8 rest
end Nb

set_option Elab.async false
set_option linter.all false
set_option maxRecDepth 100000
set_option maxHeartbeats 4000000
namespace Nb
open PySem PySem.Spec L2 PyProof.Rows Pm
/-! the rest of the law -/
theorem loop_ok {ns : List Int} {x : PyData} {w2 w3 : SV} {xs : List PyData} (hr : isRow ns xs) : ∃ xs' w4 w5, isRow ns xs' ∧ nbr w4 ∧ nbr w5 ∧ S_law_6 [.d x, .ls xs, w2, w3, .un, .un, .un, .un, .un, .un] = .ok .nx [.d x, .ls xs', w2, w3, w4, w5, .un, .un, .un, .un] := by
  obtain ⟨ρ', e, xs', w4, w5, hr', h4, h5, er⟩ := for_fold (g := gN 4) (body := L_law_0) (enc := nuD) (step := fun (s : Unit) _ => s) (P := fun _ => True)
    (R := fun _ ρ => ∃ xs w4 w5, isRow ns xs ∧ nbr w4 ∧ nbr w5 ∧ ρ = [.d x, .ls xs, w2, w3, w4, w5, .un, .un, .un, .un])
    (fun _ i ρ _ ⟨xs, w4, w5, hr, h4, h5, er⟩ => by
      subst er
      obtain ⟨n, gens, n2, H, xs', hr', ρw, ew⟩ := whole_ok hr
      refine ⟨_, _, setO_of (u := w4) rfl h4, ?_, xs', .d (nuD i), .d (hoD n gens), hr', nbr_d _, nbr_d _, rfl⟩
      have c1 : callR 1 F__law_whole 1 (ret []) [.d x, .ls xs, w2, w3, .d (nuD i), w5, .un, .un, .un, .un] = .ok (.d (hoD n gens)) [.d x, .ls xs', w2, w3, .d (nuD i), w5, .un, .un, .un, .un] :=
        callR_of (xs := []) (w0 := .ls xs) (w := .ls xs) (ρ1 := [.d x, .ls xs, w2, w3, .d (nuD i), w5, .un, .un, .un, .un]) rfl rfl rfl rfl rfl rfl ew
      show L_law_0 [.d x, .ls xs, w2, w3, .d (nuD i), w5, .un, .un, .un, .un] = _
      unfold L_law_0
      rw [seq_nx (setM_of c1 (u := w5) rfl h5)]
      exact check_ok (ρ := [.d x, .ls xs', w2, w3, .d (nuD i), .d (hoD n gens), .un, .un, .un, .un]) H n2 (toD_d (house_at0 rfl)) rfl) [0, 1, 2, 3] ()
    [.d x, .ls xs, w2, w3, .un, .un, .un, .un, .un, .un] (fun _ _ => trivial) ⟨xs, .un, .un, hr, nbr_un, nbr_un, rfl⟩
  subst er
  refine ⟨xs', w4, w5, hr', h4, h5, ?_⟩
  unfold S_law_6
  have er : (rgI1 (ret (.int 4))) [.d x, .ls xs, w2, w3, .un, .un, .un, .un, .un, .un] = .ok ([0, 1, 2, 3].map nuD) [.d x, .ls xs, w2, w3, .un, .un, .un, .un, .un, .un] := by kernel_rfl
  rw [forS_ap, er, rb_ok, e]
theorem rand_ok {ns : List Int} {x : PyData} {w2 w3 w4 w5 : SV} {xs : List PyData} (hr : isRow ns xs) (h2 : nbr w2) (h5 : nbr w5) (rest : M Fl) :
    ∃ xs' d2 d5, isRow ns xs' ∧ (seqM S_law_7 (seqM S_law_8 (seqM S_law_9 rest))) [.d x, .ls xs, w2, w3, w4, w5, .un, .un, .un, .un] = rest [.d x, .ls xs', .d d2, w3, w4, .d d5, .un, .un, .un, .un] := by
  obtain ⟨v, hv, x1, r1, e7⟩ := take_halls hr (m := 3) (x := x) (w3 := w3) (w4 := w4) (w5 := w5) (by decide) (by decide) h2
  have n8 : 2 + v ≤ 8 := by omega
  obtain ⟨p, x2, hp, r2, ρp, ep⟩ := law_turn_ok n8 r1
  obtain ⟨q, x3, hq, r3, ρq, eq⟩ := law_turn_ok n8 r2
  have H : IsH (2 + v) [p, q] := ⟨by omega, n8, by simp, by simp, fun g hg => by
    rcases List.mem_cons.mp hg with e | e
    · exact e ▸ hp
    · rcases List.mem_cons.mp e with e | e
      · exact e ▸ hq
      · cases e⟩
  refine ⟨x3, nuD (2 + v), hoD (2 + v) [p, q], r3, ?_⟩
  have c1 : callR 2 F__law_turn 1 (consM (getD 2) (ret [])) [.d x, .ls x1, .d (nuD (2 + v)), w3, w4, w5, .un, .un, .un, .un] = .ok (.d (trD p)) [.d x, .ls x2, .d (nuD (2 + v)), w3, w4, w5, .un, .un, .un, .un] :=
    callR_of (w0 := .ls x1) (w := .ls x1) (ρ1 := [.d x, .ls x1, .d (nuD (2 + v)), w3, w4, w5, .un, .un, .un, .un]) rfl rfl (one_arg (getD_d rfl)) rfl rfl rfl ep
  have c2 : callR 2 F__law_turn 1 (consM (getD 2) (ret [])) [.d x, .ls x2, .d (nuD (2 + v)), w3, w4, w5, .un, .un, .un, .un] = .ok (.d (trD q)) [.d x, .ls x3, .d (nuD (2 + v)), w3, w4, w5, .un, .un, .un, .un] :=
    callR_of (w0 := .ls x2) (w := .ls x2) (ρ1 := [.d x, .ls x2, .d (nuD (2 + v)), w3, w4, w5, .un, .un, .un, .un]) rfl rfl (one_arg (getD_d rfl)) rfl rfl rfl eq
  have two_tup : ∀ {f g : M PyData} {a b : PyData} {ρ ρ1 ρ2 : List SV}, f ρ = .ok a ρ1 → g ρ1 = .ok b ρ2 → (tupM (consM f (consM g (ret [])))) ρ = .ok (.tuple [a, b]) ρ2 := fun {f g a b ρ ρ1 ρ2} h1 h2 => by
    rw [tupM_ap, two_args h1 h2, rb_ok, fits_ap, if_pos (show ([a, b] : List PyData).length ≤ sizeLine from (show 2 ≤ sizeLine by decide)), ret_ap]
  have e8 : S_law_8 [.d x, .ls x1, .d (nuD (2 + v)), w3, w4, w5, .un, .un, .un, .un] = .ok .nx [.d x, .ls x3, .d (nuD (2 + v)), w3, w4, .d (hoD (2 + v) [p, q]), .un, .un, .un, .un] := by
    have t1 := two_tup (getD_d (ρ := [.d x, .ls x1, .d (nuD (2 + v)), w3, w4, w5, .un, .un, .un, .un]) (i := 2) (x := nuD (2 + v)) rfl) (two_tup (toD_d c1) (toD_d c2))
    have t2 := toV_of t1
    exact setM_of t2 (u := w5) rfl h5
  have e9 : S_law_9 [.d x, .ls x3, .d (nuD (2 + v)), w3, w4, .d (hoD (2 + v) [p, q]), .un, .un, .un, .un] = .ok .nx [.d x, .ls x3, .d (nuD (2 + v)), w3, w4, .d (hoD (2 + v) [p, q]), .un, .un, .un, .un] := by
    unfold S_law_9
    exact check_ok H (by omega) (getD_d rfl) rfl
  have e7 : S_law_7 [.d x, .ls xs, w2, w3, w4, w5, .un, .un, .un, .un] = .ok .nx [.d x, .ls x1, .d (nuD (2 + v)), w3, w4, w5, .un, .un, .un, .un] := e7
  rw [seq_nx e7, seq_nx e8, seq_nx e9]
def oddS : List SV := match (seqM S_law_10 (seqM S_law_11 (seqM S_law_12 S_law_13))) (List.replicate 10 .un) with
  | .ok _ ρ => ρ
  | _ => []
theorem odd_pre (w0 w1 w2 w3 w4 w5 : SV) (last : M Fl) : seqM S_law_10 (seqM S_law_11 (seqM S_law_12 (seqM S_law_13 last))) [w0, w1, w2, w3, w4, w5, .un, .un, .un, .un] = last [w0, w1, w2, w3, w4, w5, oddS.getD 6 .un, oddS.getD 7 .un, .un, .un] := by kernel_rfl
def exc (r : Res SV) : Option Str := match r with
  | .exn c => some c.cls
  | _ => none
def menu7 : List PyData := [.none, .int 1, .int 9, .bool true, .str "3", .int 0]
theorem menu_ok : ∀ y ∈ menu7, exc (F_sharp_house [.d y]) = some "BadNumber" := fun y hy => by
  rcases List.mem_cons.mp hy with e | hy
  · subst e; kernel_rfl
  rcases List.mem_cons.mp hy with e | hy
  · subst e; kernel_rfl
  rcases List.mem_cons.mp hy with e | hy
  · subst e; kernel_rfl
  rcases List.mem_cons.mp hy with e | hy
  · subst e; kernel_rfl
  rcases List.mem_cons.mp hy with e | hy
  · subst e; kernel_rfl
  rcases List.mem_cons.mp hy with e | hy
  · subst e; kernel_rfl
  cases hy
theorem tryE_of {i n : Nat} {cx : Str} {F : Mir} {g : M (List PyData)} {su : M Fl} {ρ ρ1 : List SV} {xs : List PyData} (hg : g ρ = .ok xs ρ1) (hn : xs.length = n) (he : exc (F (xs.map SV.d)) = some cx) : tryE i cx n F g su ρ = suiteM i su ρ1 := by
  unfold tryE
  simp only [hg, hn, if_true]
  cases h : F (xs.map SV.d) with
  | ok a b => rw [h] at he; cases he
  | fail => rw [h] at he; cases he
  | exn c =>
    rw [h] at he
    have he : c.cls = cx := Option.some.inj he
    simp only [if_pos he]
theorem last_ok {ns : List Int} {x : PyData} {w2 w3 w4 w5 w6 w7 : SV} {xs : List PyData} (hr : isRow ns xs) (rest : M Fl) : ∃ ρ', (seqM S_law_14 rest) [.d x, .ls xs, w2, w3, w4, w5, w6, w7, .un, .un] = .ok (.rt (.d (.bool true))) ρ' := by
  obtain ⟨y, hy, x1, r1, ρ1, e1⟩ := pick_ok hr (ys := menu7) (by decide) (by decide)
  have em : (toD (lstM (consM (ret (.none)) (consM (ret (.int 1)) (consM (ret (.int 9)) (consM (ret (.bool true)) (consM (ret (.str "3")) (consM (ret (.int 0)) (ret []))))))))) [.d x, .ls xs, w2, w3, w4, w5, w6, w7, .un, .un] = .ok (.list menu7) [.d x, .ls xs, w2, w3, w4, w5, w6, w7, .un, .un] := by kernel_rfl
  have c1 : callR 2 F__law_pick 1 (consM (toD (lstM (consM (ret (.none)) (consM (ret (.int 1)) (consM (ret (.int 9)) (consM (ret (.bool true)) (consM (ret (.str "3")) (consM (ret (.int 0)) (ret []))))))))) (ret [])) [.d x, .ls xs, w2, w3, w4, w5, w6, w7, .un, .un] = .ok (.d y) [.d x, .ls x1, w2, w3, w4, w5, w6, w7, .un, .un] :=
    callR_of (w0 := .ls xs) (w := .ls xs) (ρ1 := [.d x, .ls xs, w2, w3, w4, w5, w6, w7, .un, .un]) rfl rfl (one_arg em) rfl rfl rfl e1
  have e : S_law_14 [.d x, .ls xs, w2, w3, w4, w5, w6, w7, .un, .un] = .ok (.rt (.d (.bool true))) [.d x, .ls x1, w2, w3, w4, w5, w6, w7, .un, .un] := by
    unfold S_law_14
    rw [tryE_of (n := 1) (xs := [y]) (one_arg (toD_d c1)) rfl (menu_ok y hy)]; rfl
  exact ⟨_, seq_rt e⟩
theorem main (ns : List Int) : ∃ ρ', F_law [.d (scrD ns)] = .ok (.d (.bool true)) ρ' := by
  have e0 : S_law_0 [.d (scrD ns), .un, .un, .un, .un, .un, .un, .un, .un, .un] = .ok .nx [.d (scrD ns), .ls (rowD ns 0 5707 0), .un, .un, .un, .un, .un, .un, .un, .un] := by
    have : ∀ x : PyData, S_law_0 [.d x, .un, .un, .un, .un, .un, .un, .un, .un, .un] = .ok .nx [.d x, .ls [x, .int 0, .int 5707, .int 0], .un, .un, .un, .un, .un, .un, .un, .un] := fun x => by kernel_rfl
    exact this _
  obtain ⟨v, hv, x1, r1, e1⟩ := take_halls (ns := ns) (xs := rowD ns 0 5707 0) ⟨0, 5707, 0, rfl⟩ (m := 7) (x := scrD ns) (w3 := .un) (w4 := .un) (w5 := .un) (by decide) (by decide) nbr_un
  have e1 : S_law_1 [.d (scrD ns), .ls (rowD ns 0 5707 0), .un, .un, .un, .un, .un, .un, .un, .un] = .ok .nx [.d (scrD ns), .ls x1, .d (nuD (2 + v)), .un, .un, .un, .un, .un, .un, .un] := e1
  obtain ⟨x2, d3, r2, e2⟩ := told_part (x := scrD ns) r1 (k := 2 + v) (by omega) (by omega) (seqM S_law_6 (seqM S_law_7 (seqM S_law_8 (seqM S_law_9 (seqM S_law_10 (seqM S_law_11 (seqM S_law_12 (seqM S_law_13 (seqM S_law_14 S_law_15)))))))))
  obtain ⟨x3, w4, w5, r3, h4, h5, e3⟩ := loop_ok (x := scrD ns) (w2 := .d (nuD (2 + v))) (w3 := .d d3) r2
  obtain ⟨x4, d2, d5, r4, e4⟩ := rand_ok (x := scrD ns) (w2 := .d (nuD (2 + v))) (w3 := .d d3) (w4 := w4) (w5 := w5) r3 (nbr_d _) h5 (seqM S_law_10 (seqM S_law_11 (seqM S_law_12 (seqM S_law_13 (seqM S_law_14 S_law_15)))))
  obtain ⟨ρ', e5⟩ := last_ok (x := scrD ns) (w2 := .d d2) (w3 := .d d3) (w4 := w4) (w5 := .d d5) (w6 := oddS.getD 6 .un) (w7 := oddS.getD 7 .un) r4 S_law_15
  have e : B_law [.d (scrD ns), .un, .un, .un, .un, .un, .un, .un, .un, .un] = .ok (.rt (.d (.bool true))) ρ' := by
    unfold B_law
    rw [seq_nx e0, seq_nx e1, e2, seq_nx e3, e4, odd_pre, e5]
  exact ⟨_, bodyM_of rfl e⟩
end Nb

theorem PySem.Challenge.cw_nobodystays_k07_whole_sharps_holds : PySem.Challenge.rw_nobodystays_k07_whole_sharps.Holds := by
  exact Nb.holds_of fun ns hl hb => Nb.main ns
