import PyProof.Rows.All
import Wide.All
import OpenK.AllK
import Wide.FinOn
import HandS.ForMost
import HandS.Exc
import HandS.ExcOwn
import HandS.WordsExc
import HandS.TryOnly
import HandS.Defaults
import HandS.Walk
import HandS.Star
import HandS.IsInst
import HandS.Conv
import HandS.Flow
import HandS.Deep
import HandS.SortInts
import PyProof.ReprRoads
import PyProof.ReprReads
import PyProof.NoPylong
import HandS.Wide
import HandS.HeadHook2
import HandS.HeadEnd
import HandS.DeepEq
import KE.KStateDown
import Lean
import HandS.Base
import HandS.Call
import HandS.Ends
import HandS.More
import HandS.Words
import HandS.Head0
import HandS.Head1
import HandS.Head2
import HandS.HeadHook1
import PySem.Challenge.RW_sureturns_k41_papers_of_rates_judged
set_option Elab.async false
set_option linter.all false
set_option maxRecDepth 100000
set_option maxHeartbeats 2000000
/-! A weakest-precondition calculus over plain data, above the hand layer: slots hold data or references to own cells. -/
namespace Fd
open PySem PySem.Spec PyProof.Rows L2

/-! ### data in a heap G that stands still -/
def dKey : Key → PyData
  | .inl i => .int i
  | .inr x => .str x
mutual
inductive Dv (K : PySem.W.Frag) (G : Hp) : PyData → V → Prop
  | non : Dv K G .none .non
  | bl (b : Bool) : Dv K G (.bool b) (.bl b)
  | int (i : Int) : Dv K G (.int i) (.int i)
  | str (x : Str) : Dv K G (.str x) (.str x)
  | lst {a : Addr} {xs : List V} {ds : List PyData} : G a = some (.lst xs) → DvL K G ds xs → Dv K G (.list ds) (.ref a)
  | tup {a : Addr} {xs : List V} {ds : List PyData} : SqT K G a xs → DvL K G ds xs → Dv K G (.tuple ds) (.ref a)
  | dic {a : Addr} {kvs : List (Key × V)} {ds : List (PyData × PyData)} : G a = some (.dK kvs) → DvK K G ds kvs → Dv K G (.dict ds) (.ref a)
inductive DvL (K : PySem.W.Frag) (G : Hp) : List PyData → List V → Prop
  | nil : DvL K G [] []
  | cons {d : PyData} {v : V} {ds : List PyData} {vs : List V} : Dv K G d v → DvL K G ds vs → DvL K G (d :: ds) (v :: vs)
inductive DvK (K : PySem.W.Frag) (G : Hp) : List (PyData × PyData) → List (Key × V) → Prop
  | nil : DvK K G [] []
  | cons {k : Key} {d : PyData} {v : V} {ds : List (PyData × PyData)} {vs : List (Key × V)} : Dv K G d v → DvK K G ds vs → DvK K G ((dKey k, d) :: ds) ((k, v) :: vs)
end

theorem same_t {K : PySem.W.Frag} {G G' : Hp} {a : Addr} {xs : List V} (e : Same G G') (h : SqT K G a xs) : SqT K G' a xs := by
  rcases h with (h | ⟨o, h⟩) | h
  · exact .inl (.inl (e _ _ h))
  · exact .inl (.inr ⟨o, e _ _ h⟩)
  · exact .inr h
section
variable {K : PySem.W.Frag} {G G' : Hp}
mutual
theorem Dv.mono (e : Same G G') : ∀ (d : PyData) {v : V}, Dv K G d v → Dv K G' d v
  | .none, _, h => by cases h; exact .non
  | .bool b, _, h => by cases h; exact .bl b
  | .int i, _, h => by cases h; exact .int i
  | .str x, _, h => by cases h; exact .str x
  | .list ds, _, h => by
    cases h with
    | lst q r => exact .lst (e _ _ q) (DvL.mono e ds r)
  | .tuple ds, _, h => by
    cases h with
    | tup q r => exact .tup (same_t e q) (DvL.mono e ds r)
  | .dict ds, _, h => by
    cases h with
    | dic q r => exact .dic (e _ _ q) (DvK.mono e ds r)
theorem DvL.mono (e : Same G G') : ∀ (ds : List PyData) {vs : List V}, DvL K G ds vs → DvL K G' ds vs
  | [], _, h => by cases h; exact .nil
  | d :: ds, _, h => by
    cases h with
    | cons q r => exact .cons (Dv.mono e d q) (DvL.mono e ds r)
theorem DvK.mono (e : Same G G') : ∀ (ds : List (PyData × PyData)) {vs : List (Key × V)}, DvK K G ds vs → DvK K G' ds vs
  | [], _, h => by cases h; exact .nil
  | d :: ds, _, h => by
    cases h with
    | cons q r => exact .cons (Dv.mono e _ q) (DvK.mono e ds r)
end
theorem DvL.length : ∀ {ds : List PyData} {vs : List V}, DvL K G ds vs → vs.length = ds.length
  | _, _, .nil => rfl
  | _, _, .cons _ r => congrArg Nat.succ (DvL.length r)
theorem DvL.get : ∀ {ds : List PyData} {vs : List V} {i : Nat} {d : PyData}, DvL K G ds vs → ds[i]? = some d → ∃ v, vs[i]? = some v ∧ Dv K G d v
  | _, _, _, _, .nil, e => by simp at e
  | _, _, 0, _, .cons q _, e => by simp at e; subst e; exact ⟨_, rfl, q⟩
  | _, _, i + 1, d, .cons _ r, e => by
    obtain ⟨v, h1, h2⟩ := DvL.get (i := i) (d := d) r (by simpa using e)
    exact ⟨v, by simpa using h1, h2⟩
theorem DvL.getV : ∀ {ds : List PyData} {vs : List V} {i : Nat} {v : V}, DvL K G ds vs → vs[i]? = some v → ∃ d, ds[i]? = some d ∧ Dv K G d v
  | _, _, _, _, .nil, e => by simp at e
  | _, _, 0, _, .cons q _, e => by simp at e; subst e; exact ⟨_, rfl, q⟩
  | _, _, i + 1, v, .cons _ r, e => by
    obtain ⟨d, h1, h2⟩ := DvL.getV (i := i) (v := v) r (by simpa using e)
    exact ⟨d, by simpa using h1, h2⟩
theorem DvL.append : ∀ {ds es : List PyData} {vs us : List V}, DvL K G ds vs → DvL K G es us → DvL K G (ds ++ es) (vs ++ us)
  | _, _, _, _, .nil, s => s
  | _, _, _, _, .cons q r, s => .cons q (DvL.append r s)
theorem DvL.take : ∀ {ds : List PyData} {vs : List V} (n : Nat), DvL K G ds vs → DvL K G (ds.take n) (vs.take n)
  | _, _, 0, _ => .nil
  | _, _, _ + 1, .nil => .nil
  | _, _, n + 1, .cons q r => .cons q (DvL.take n r)
theorem DvL.drop : ∀ {ds : List PyData} {vs : List V} (n : Nat), DvL K G ds vs → DvL K G (ds.drop n) (vs.drop n)
  | _, _, 0, r => r
  | _, _, _ + 1, .nil => .nil
  | _, _, n + 1, .cons _ r => DvL.drop n r
theorem DvL.set {x : PyData} {u : V} (r : Dv K G x u) : ∀ {ds : List PyData} {vs : List V} (i : Nat), DvL K G ds vs → DvL K G (ds.set i x) (vs.set i u)
  | _, _, _, .nil => .nil
  | _, _, 0, .cons _ t => .cons r t
  | _, _, i + 1, .cons q t => .cons q (DvL.set r i t)
theorem DvL.erase : ∀ {ds : List PyData} {vs : List V} (i : Nat), DvL K G ds vs → DvL K G (ds.eraseIdx i) (vs.eraseIdx i)
  | _, _, _, .nil => .nil
  | _, _, 0, .cons _ t => t
  | _, _, i + 1, .cons q t => .cons q (DvL.erase i t)
theorem DvL.rev : ∀ {ds : List PyData} {vs : List V}, DvL K G ds vs → DvL K G ds.reverse vs.reverse
  | _, _, .nil => .nil
  | _, _, .cons q t => by rw [List.reverse_cons, List.reverse_cons]; exact (DvL.rev t).append (.cons q .nil)
theorem DvL.flat {ds : List PyData} {vs : List V} (h : DvL K G ds vs) : ∀ n : Nat, DvL K G (List.replicate n ds).flatten (List.replicate n vs).flatten
  | 0 => .nil
  | n + 1 => by rw [List.replicate_succ, List.replicate_succ, List.flatten_cons, List.flatten_cons]; exact h.append (DvL.flat h n)
theorem DvL.ints : ∀ {ns : List Int} {vs : List V}, DvL K G (ns.map .int) vs → vs = ns.map V.int
  | [], _, h => by cases h; rfl
  | n :: ns, _, h => by
    cases h with
    | cons q r => cases q; rw [DvL.ints r]; rfl
theorem DvL.ofInts : ∀ ns : List Int, DvL K G (ns.map .int) (ns.map V.int)
  | [] => .nil
  | n :: ns => .cons (.int n) (DvL.ofInts ns)
theorem DvL.bools : ∀ {bs : List Bool} {vs : List V}, DvL K G (bs.map .bool) vs → vs = bs.map V.bl
  | [], _, h => by cases h; rfl
  | b :: bs, _, h => by
    cases h with
    | cons q r => cases q; rw [DvL.bools r]; rfl
end

/-! ### values and cells -/
inductive W where
  /-- data that stands still -/
  | p (d : PyData)
  /-- the own cell k -/
  | c (k : Nat)
  /-- a list that is read only (the script; a module's list) -/
  | s (ds : List PyData)
  /-- an exception of the class at C -/
  | x (C : Addr)
inductive Cell where
  /-- a list of data -/
  | l (ds : List PyData)
  /-- a list with cells in it -/
  | r (ws : List W)
  /-- an instance of the class at C -/
  | o (C : Addr) (fs : List (Str × W))
  | dead
abbrev En := List (Option W)
abbrev So := List Cell

def excIs (a C : Addr) : HO := .ext fun h => ∃ o vs, h.get? a = some o ∧ o.cls = .ref C ∧ o.dict = none ∧ o.data = .fields vs
section
variable (K : PySem.W.Frag) (G : Hp) (as : List Addr)
def RelW : W → V → Prop
  | .p d, v => Dv K G d v
  | .c k, v => ∃ a, as[k]? = some a ∧ v = .ref a
  | .s ds, v => ∃ a xs, v = .ref a ∧ SqL K G a xs ∧ DvL K G ds xs
  | .x C, v => ∃ a, v = .ref a ∧ G a = some (excIs a C)
inductive RelWs : List W → List V → Prop
  | nil : RelWs [] []
  | cons {w : W} {v : V} {ws : List W} {vs : List V} : RelW K G as w v → RelWs ws vs → RelWs (w :: ws) (v :: vs)
inductive RelFs : List (Str × W) → List (Str × V) → Prop
  | nil : RelFs [] []
  | cons {f : Str} {w : W} {v : V} {ws : List (Str × W)} {vs : List (Str × V)} : RelW K G as w v → RelFs ws vs → RelFs ((f, w) :: ws) ((f, v) :: vs)
def CellOk : Cell → HO → Prop
  | .l ds, o => ∃ xs, o = .lst xs ∧ DvL K G ds xs
  | .r ws, o => ∃ xs, o = .lst xs ∧ RelWs K G as ws xs
  | .o C fs, o => ∃ dx gs, o = .ins C dx gs ∧ RelFs K G as fs gs
  | .dead, _ => True
end
structure RepS (K : PySem.W.Frag) (G : Hp) (as : List Addr) (S : So) (H : Hp) : Prop where
  sub : Same G H
  len : as.length = S.length
  nd : as.Nodup
  cell : ∀ (k : Nat) (a : Addr) (c : Cell), as[k]? = some a → S[k]? = some c → ∃ o, H a = some o ∧ CellOk K G as c o ∧ (c ≠ .dead → G a = none)
structure RepE (K : PySem.W.Frag) (G : Hp) (as : List Addr) (ρ : En) (σ : L2.St) : Prop where
  len : ρ.length = σ.length
  get : ∀ (i : Nat) (w : W), ρ[i]? = some (some w) → ∃ v, σ[i]? = some (some v) ∧ RelW K G as w v
/-- what a step may do: G grows, new cells come, all else stands -/
structure Ext (G : Hp) (as : List Addr) (H : Hp) (G' : Hp) (as' : List Addr) (H' : Hp) : Prop where
  g : Same G G'
  a : ∃ bs, as' = as ++ bs
  f : ∀ b o, H b = some o → b ∉ as → H' b = some o
  n : ∀ b o, H b = some o → G b = none → b ∉ as → G' b = none
  w : ∀ b, b ∈ as' → b ∉ as → H b = none

section
variable {K : PySem.W.Frag} {G G' G'' : Hp} {as as' as'' : List Addr} {S S' : So} {H H' H'' : Hp} {ρ : En} {σ : L2.St}
theorem Ext.refl : Ext G as H G as H := ⟨Same.refl _, ⟨[], by simp⟩, fun _ _ h _ => h, fun _ _ _ h _ => h, fun _ h n => absurd h n⟩
theorem Ext.mem (e : Ext G as H G' as' H') {b : Addr} (h : b ∈ as) : b ∈ as' := by
  obtain ⟨bs, rfl⟩ := e.a
  exact List.mem_append_left _ h
theorem Ext.out (e : Ext G as H G' as' H') {b : Addr} {o : HO} (h : H b = some o) (n : b ∉ as) : b ∉ as' := fun m => by
  have := e.w b m n
  rw [h] at this; cases this
theorem Ext.trans (e : Ext G as H G' as' H') (e' : Ext G' as' H' G'' as'' H'') : Ext G as H G'' as'' H'' where
  g := e.g.trans e'.g
  a := by
    obtain ⟨bs, h1⟩ := e.a
    obtain ⟨cs, h2⟩ := e'.a
    exact ⟨bs ++ cs, by rw [h2, h1, List.append_assoc]⟩
  f := fun b o h n => e'.f b o (e.f b o h n) (e.out h n)
  n := fun b o h g n => e'.n b o (e.f b o h n) (e.n b o h g n) (e.out h n)
  w := fun b m n => by
    by_cases hb : b ∈ as'
    · exact e.w b hb n
    · have q := e'.w b m hb
      cases z : H b with
      | none => rfl
      | some o => rw [e.f b o z n] at q; cases q
theorem Ext.at_ (e : Ext G as H G' as' H') {k : Nat} {a : Addr} (h : as[k]? = some a) : as'[k]? = some a := by
  obtain ⟨bs, rfl⟩ := e.a
  have := (List.getElem?_eq_some_iff.mp h).1
  rw [List.getElem?_append_left this]; exact h
theorem RelW.mono (hg : Same G G') (ha : ∀ (k : Nat) (a : Addr), as[k]? = some a → as'[k]? = some a) : ∀ {w : W} {v : V}, RelW K G as w v → RelW K G' as' w v
  | .p d, _, h => Dv.mono hg d h
  | .c k, _, ⟨a, h, e⟩ => ⟨a, ha k a h, e⟩
  | .s ds, _, ⟨a, xs, e, h, r⟩ => ⟨a, xs, e, hg.seq h, DvL.mono hg ds r⟩
  | .x C, _, ⟨a, e, h⟩ => ⟨a, e, hg _ _ h⟩
theorem RelW.ext (e : Ext G as H G' as' H') {w : W} {v : V} (h : RelW K G as w v) : RelW K G' as' w v := RelW.mono e.g (fun _ _ q => e.at_ q) h
theorem RelWs.mono (hg : Same G G') (ha : ∀ (k : Nat) (a : Addr), as[k]? = some a → as'[k]? = some a) : ∀ {ws : List W} {vs : List V}, RelWs K G as ws vs → RelWs K G' as' ws vs
  | _, _, .nil => .nil
  | _, _, .cons q r => .cons (q.mono hg ha) (RelWs.mono hg ha r)
theorem RelWs.ext (e : Ext G as H G' as' H') {ws : List W} {vs : List V} (h : RelWs K G as ws vs) : RelWs K G' as' ws vs := h.mono e.g fun _ _ q => e.at_ q
theorem RelWs.length : ∀ {ws : List W} {vs : List V}, RelWs K G as ws vs → vs.length = ws.length
  | _, _, .nil => rfl
  | _, _, .cons _ r => congrArg Nat.succ (RelWs.length r)
theorem RelWs.append : ∀ {ws us : List W} {vs zs : List V}, RelWs K G as ws vs → RelWs K G as us zs → RelWs K G as (ws ++ us) (vs ++ zs)
  | _, _, _, _, .nil, s => s
  | _, _, _, _, .cons q r, s => .cons q (RelWs.append r s)
theorem RelWs.ofDvL : ∀ {ds : List PyData} {vs : List V}, DvL K G ds vs → RelWs K G as (ds.map .p) vs
  | _, _, .nil => .nil
  | _, _, .cons q r => .cons q (RelWs.ofDvL r)
theorem RelFs.mono (hg : Same G G') (ha : ∀ (k : Nat) (a : Addr), as[k]? = some a → as'[k]? = some a) : ∀ {ws : List (Str × W)} {vs : List (Str × V)}, RelFs K G as ws vs → RelFs K G' as' ws vs
  | _, _, .nil => .nil
  | _, _, .cons q r => .cons (q.mono hg ha) (RelFs.mono hg ha r)
theorem CellOk.mono (hg : Same G G') (ha : ∀ (k : Nat) (a : Addr), as[k]? = some a → as'[k]? = some a) : ∀ {c : Cell} {o : HO}, CellOk K G as c o → CellOk K G' as' c o
  | .l ds, _, ⟨xs, e, h⟩ => ⟨xs, e, h.mono hg⟩
  | .r ws, _, ⟨xs, e, h⟩ => ⟨xs, e, h.mono hg ha⟩
  | .o C fs, _, ⟨dx, gs, e, h⟩ => ⟨dx, gs, e, h.mono hg ha⟩
  | .dead, _, h => h
theorem RepE.ext (e : Ext G as H G' as' H') (r : RepE K G as ρ σ) : RepE K G' as' ρ σ := ⟨r.len, fun i w h => by
  obtain ⟨v, h1, h2⟩ := r.get i w h
  exact ⟨v, h1, h2.ext e⟩⟩
theorem RepE.set (r : RepE K G as ρ σ) {i : Nat} {w : W} {v : V} (h : RelW K G as w v) : RepE K G as (ρ.set i (some w)) (σ.set i (some v)) := ⟨by simpa using r.len, fun j u e => by
  by_cases hj : i = j
  · subst hj
    by_cases hl : i < ρ.length
    · rw [List.getElem?_set_self hl] at e
      have e' : w = u := Option.some.inj (Option.some.inj e)
      subst e'
      exact ⟨v, List.getElem?_set_self (by rw [← r.len]; exact hl), h⟩
    · rw [List.getElem?_eq_none (by simpa using hl)] at e; cases e
  · rw [List.getElem?_set_ne hj] at e ⊢
    exact r.get j u e⟩
theorem RepE.weak {ρ' : En} (r : RepE K G as ρ σ) (hl : ρ'.length = ρ.length) (h : ∀ (i : Nat) (w : W), ρ'[i]? = some (some w) → ρ[i]? = some (some w)) : RepE K G as ρ' σ :=
  ⟨hl.trans r.len, fun i w e => r.get i w (h i w e)⟩
/-- a new object at p, not a cell -/
theorem RepS.laid (r : RepS K G as S H) {p : Addr} {o : HO} (hp : H p = none) : RepS K (upd G p o) as S (upd H p o) ∧ Ext G as H (upd G p o) as (upd H p o) ∧ Same H (upd H p o) := by
  have gp : G p = none := r.sub.free hp
  have sG : Same G (upd G p o) := fun b u e => by rw [upd_ne (ne_of_none e gp)]; exact e
  have sH : Same H (upd H p o) := fun b u e => by rw [upd_ne (ne_of_none e hp)]; exact e
  refine ⟨⟨fun b u e => ?_, r.len, r.nd, fun k a c h1 h2 => ?_⟩, ⟨sG, ⟨[], by simp⟩, fun b u e _ => sH b u e, fun b u e g _ => ?_, fun b m n => absurd m n⟩, sH⟩
  · by_cases hb : b = p
    · subst hb
      rw [upd_same] at e ⊢; exact e
    · rw [upd_ne hb] at e ⊢
      exact r.sub b u e
  · obtain ⟨u, e1, e2, e3⟩ := r.cell k a c h1 h2
    refine ⟨u, sH a u e1, e2.mono sG fun _ _ q => q, fun hd => ?_⟩
    rw [upd_ne (ne_of_none e1 hp)]
    exact e3 hd
  · rw [upd_ne (ne_of_none e hp)]; exact g
/-- a new object at p, not in G, not a cell -/
theorem RepS.laidH (r : RepS K G as S H) {p : Addr} {o : HO} (hp : H p = none) : RepS K G as S (upd H p o) ∧ Ext G as H G as (upd H p o) := by
  have sH : Same H (upd H p o) := fun b u e => by rw [upd_ne (ne_of_none e hp)]; exact e
  refine ⟨⟨r.sub.trans sH, r.len, r.nd, fun k a c h1 h2 => ?_⟩, ⟨Same.refl _, ⟨[], by simp⟩, fun b u e _ => sH b u e, fun b u e g _ => g, fun b m n => absurd m n⟩⟩
  obtain ⟨u, e1, e2, e3⟩ := r.cell k a c h1 h2
  exact ⟨u, sH a u e1, e2, e3⟩
/-- a new cell -/
theorem RepS.cellNew (r : RepS K G as S H) {p : Addr} {o : HO} {c : Cell} (hp : H p = none) (hc : CellOk K G (as ++ [p]) c o) : RepS K G (as ++ [p]) (S ++ [c]) (upd H p o) ∧ Ext G as H G (as ++ [p]) (upd H p o) := by
  have sH : Same H (upd H p o) := fun b u e => by rw [upd_ne (ne_of_none e hp)]; exact e
  have pn : p ∉ as := fun m => by
    obtain ⟨k, hk, e⟩ := List.getElem_of_mem m
    have hk2 : k < S.length := by rw [← r.len]; exact hk
    obtain ⟨u, e1, _⟩ := r.cell k p S[k] (by rw [List.getElem?_eq_getElem hk, e]) (List.getElem?_eq_getElem hk2)
    rw [hp] at e1; cases e1
  have pre : ∀ (k : Nat) (a : Addr), as[k]? = some a → (as ++ [p])[k]? = some a := fun k a h => by
    rw [List.getElem?_append_left (List.getElem?_eq_some_iff.mp h).1]; exact h
  refine ⟨⟨r.sub.trans sH, by simp [r.len], List.nodup_append.mpr ⟨r.nd, by simp, fun x hx y hy e => ?_⟩, fun k a c' h1 h2 => ?_⟩, ⟨Same.refl _, ⟨[p], rfl⟩, fun b u e _ => sH b u e, fun b u e g _ => g, fun b m n => ?_⟩⟩
  · have : y = p := by simpa using hy
    subst this; subst e; exact pn hx
  · by_cases hk : k < as.length
    · rw [List.getElem?_append_left hk] at h1
      rw [List.getElem?_append_left (by rw [← r.len]; exact hk)] at h2
      obtain ⟨u, e1, e2, e3⟩ := r.cell k a c' h1 h2
      exact ⟨u, sH a u e1, e2.mono (Same.refl _) pre, e3⟩
    · have hk3 : k < (as ++ [p]).length := (List.getElem?_eq_some_iff.mp h1).1
      have hk2 : k = as.length := by simp at hk3; omega
      subst hk2
      rw [List.getElem?_append_right (Nat.le_refl _), Nat.sub_self] at h1
      rw [r.len, List.getElem?_append_right (Nat.le_refl _), Nat.sub_self] at h2
      have ha : p = a := Option.some.inj h1
      have hc' : c = c' := Option.some.inj h2
      subst ha; subst hc'
      exact ⟨o, upd_same, hc, fun _ => r.sub.free hp⟩
  · rcases List.mem_append.mp m with m | m
    · exact absurd m n
    · have : b = p := by simpa using m
      subst this; exact hp
/-- a cell is written -/
theorem RepS.write (r : RepS K G as S H) {k : Nat} {a : Addr} {c c' : Cell} {o : HO} (ha : as[k]? = some a) (hc : S[k]? = some c) (hd : c ≠ .dead) (ho : CellOk K G as c' o) : RepS K G as (S.set k c') (upd H a o) ∧ Ext G as H G as (upd H a o) := by
  obtain ⟨u, e1, _, e3⟩ := r.cell k a c ha hc
  have ga := e3 hd
  have am : a ∈ as := List.mem_of_getElem? ha
  refine ⟨⟨fun b u e => ?_, by simpa using r.len, r.nd, fun j b d h1 h2 => ?_⟩, ⟨Same.refl _, ⟨[], by simp⟩, fun b u e n => ?_, fun b u e g _ => g, fun b m n => absurd m n⟩⟩
  · rw [upd_ne (ne_of_none e ga)]; exact r.sub b u e
  · by_cases hj : k = j
    · subst hj
      rw [ha] at h1
      have hb : a = b := Option.some.inj h1
      subst hb
      rw [List.getElem?_set_self (List.getElem?_eq_some_iff.mp hc).1] at h2
      have hd' : c' = d := Option.some.inj h2
      subst hd'
      exact ⟨o, upd_same, ho, fun _ => ga⟩
    · rw [List.getElem?_set_ne hj] at h2
      obtain ⟨v, f1, f2, f3⟩ := r.cell j b d h1 h2
      have hne : b ≠ a := fun z => by
        subst z
        obtain ⟨q1, q2⟩ := List.getElem?_eq_some_iff.mp h1
        obtain ⟨q3, q4⟩ := List.getElem?_eq_some_iff.mp ha
        exact hj ((List.getElem_inj r.nd).mp (q4.trans q2.symm))
      exact ⟨v, by rw [upd_ne hne]; exact f1, f2, f3⟩
  · rw [upd_ne (fun z => n (by rw [z]; exact am))]; exact e
/-- a cell of data becomes data that stands still -/
theorem RepS.freeze (r : RepS K G as S H) {k : Nat} {a : Addr} {ds : List PyData} (ha : as[k]? = some a) (hc : S[k]? = some (.l ds)) :
    ∃ xs, H a = some (.lst xs) ∧ RepS K (upd G a (.lst xs)) as (S.set k .dead) H ∧ Ext G as H (upd G a (.lst xs)) as H ∧ Dv K (upd G a (.lst xs)) (.list ds) (.ref a) := by
  obtain ⟨u, e1, ⟨xs, rfl, e2⟩, e3⟩ := r.cell k a _ ha hc
  have ga := e3 (fun z => by cases z)
  have sG : Same G (upd G a (.lst xs)) := fun b u e => by rw [upd_ne (ne_of_none e ga)]; exact e
  have am : a ∈ as := List.mem_of_getElem? ha
  refine ⟨xs, e1, ⟨fun b u e => ?_, by simpa using r.len, r.nd, fun j b d h1 h2 => ?_⟩, ⟨sG, ⟨[], by simp⟩, fun b u e n => e, fun b u e g n => ?_, fun b m n => absurd m n⟩, .lst upd_same (e2.mono sG)⟩
  · by_cases hb : b = a
    · subst hb; rw [upd_same] at e; rw [← e]; exact e1
    · rw [upd_ne hb] at e; exact r.sub b u e
  · by_cases hj : k = j
    · subst hj
      rw [List.getElem?_set_self (List.getElem?_eq_some_iff.mp hc).1] at h2
      have hd' : Cell.dead = d := Option.some.inj h2
      subst hd'
      rw [ha] at h1
      have hb : a = b := Option.some.inj h1
      subst hb
      exact ⟨_, e1, trivial, fun z => absurd rfl z⟩
    · rw [List.getElem?_set_ne hj] at h2
      obtain ⟨v, f1, f2, f3⟩ := r.cell j b d h1 h2
      refine ⟨v, f1, f2.mono sG fun _ _ q => q, fun hd => ?_⟩
      have hne : b ≠ a := fun z => by
        subst z
        obtain ⟨q1, q2⟩ := List.getElem?_eq_some_iff.mp h1
        obtain ⟨q3, q4⟩ := List.getElem?_eq_some_iff.mp ha
        exact hj ((List.getElem_inj r.nd).mp (q4.trans q2.symm))
      rw [upd_ne hne]; exact f3 hd
  · rw [upd_ne (fun z => n (by rw [z]; exact am))]; exact g
end
end Fd
set_option maxRecDepth 100000
set_option maxHeartbeats 2000000
namespace Fd
open PySem PySem.Spec PyProof.Rows L2

/-! ### readings over data -/
abbrev RK := W → So → Prop
abbrev RX := Addr → So → Prop
abbrev ME := En → So → RK → RX → Prop
abbrev MT := En → So → (Bool → So → Prop) → RX → Prop
abbrev MA := En → So → (List W → So → Prop) → RX → Prop
abbrev MO := En → So → (Option Int → So → Prop) → RX → Prop
structure MEnds where
  nx : En → So → Prop
  rt : RK
  bk : En → So → Prop := fun _ _ => False
  ct : En → So → Prop := fun _ _ => False
  ex : Addr → En → So → Prop := fun _ _ _ => False
abbrev MS := MEnds → En → So → Prop

def Lift {α β : Type} (K : PySem.W.Frag) (Wx : WX) (rel : Hp → List Addr → α → β → Prop) (m : En → So → (α → So → Prop) → RX → Prop) : L2.St → Hp → (β → Hp → Prop) → Prop := fun σ H Q =>
  ∃ (G : Hp) (as : List Addr) (ρ : En) (S : So) (R : α → So → Prop) (X : RX), RepE K G as ρ σ ∧ RepS K G as S H ∧ m ρ S R X ∧
    (∀ a S' G' as' b H', R a S' → Ext G as H G' as' H' → RepS K G' as' S' H' → rel G' as' a b → Q b H') ∧
    (∀ C S' G' as' H', X C S' → Ext G as H G' as' H' → RepS K G' as' S' H' → Wx (.ref C) none σ H')
abbrev relT : Hp → List Addr → Bool → Bool → Prop := fun _ _ a b => a = b
abbrev relO : Hp → List Addr → Option Int → Option Int → Prop := fun _ _ a b => a = b
def QE (X : Cx) (Wx : WX) (e : Expr) (m : ME) : Prop := PE X e (Lift X.K Wx (RelW X.K) m)
def QT (X : Cx) (Wx : WX) (e : Expr) (m : MT) : Prop := PT X e (Lift X.K Wx relT m)
def QW (X : Cx) (Wx : WX) (e : Expr) (m : MT) : Prop := PW X e (Lift X.K Wx relT m)
def QA (X : Cx) (Wx : WX) (es : List Expr) (m : MA) : Prop := PA X es (Lift X.K Wx (RelWs X.K) m)
def QO (X : Cx) (Wx : WX) (e : Option Expr) (m : MO) : Prop := PO X e (Lift X.K Wx relO m)
structure EndsOk (K : PySem.W.Frag) (Wx : WX) (G : Hp) (as : List Addr) (H : Hp) (B : MEnds) (D : Ends) : Prop where
  nx : ∀ ρ S G' as' σ H', B.nx ρ S → Ext G as H G' as' H' → RepE K G' as' ρ σ → RepS K G' as' S H' → D.nx σ H'
  rt : ∀ w S G' as' v H', B.rt w S → Ext G as H G' as' H' → RepS K G' as' S H' → RelW K G' as' w v → D.rt v H'
  bk : ∀ ρ S G' as' σ H', B.bk ρ S → Ext G as H G' as' H' → RepE K G' as' ρ σ → RepS K G' as' S H' → D.bk σ H'
  ct : ∀ ρ S G' as' σ H', B.ct ρ S → Ext G as H G' as' H' → RepE K G' as' ρ σ → RepS K G' as' S H' → D.ct σ H'
  ex : ∀ C ρ S G' as' σ H', B.ex C ρ S → Ext G as H G' as' H' → RepE K G' as' ρ σ → RepS K G' as' S H' → Wx (.ref C) none σ H'
def LiftS (K : PySem.W.Frag) (Wx : WX) (m : MS) : TS := fun D σ H =>
  ∃ (G : Hp) (as : List Addr) (ρ : En) (S : So) (B : MEnds), RepE K G as ρ σ ∧ RepS K G as S H ∧ m B ρ S ∧ EndsOk K Wx G as H B D
def QS (X : Cx) (Wx : WX) (st : Stmt) (m : MS) : Prop := PS X st (LiftS X.K Wx m)
def QSs (X : Cx) (Wx : WX) (st : List Stmt) (m : MS) : Prop := PSs X st (LiftS X.K Wx m)

section
variable {X : Cx}
theorem _root_.L2.PE.weak {e : Expr} {t t' : TE} (h : PE X e t) (w : ∀ σ H Q, t' σ H Q → t σ H Q) : PE X e t' := ⟨fun pins s σ H Q I q => h.run pins s σ H Q I (w σ H Q q)⟩
theorem _root_.L2.PT.weak {e : Expr} {t t' : TT} (h : PT X e t) (w : ∀ σ H Q, t' σ H Q → t σ H Q) : PT X e t' := ⟨fun pins s σ H Q I q => h.run pins s σ H Q I (w σ H Q q)⟩
theorem _root_.L2.PW.weak {e : Expr} {t t' : TT} (h : PW X e t) (w : ∀ σ H Q, t' σ H Q → t σ H Q) : PW X e t' := ⟨fun wh pins s σ H Q I q => h.run wh pins s σ H Q I (w σ H Q q)⟩
theorem _root_.L2.PA.weak {e : List Expr} {t t' : TA} (h : PA X e t) (w : ∀ σ H Q, t' σ H Q → t σ H Q) : PA X e t' := ⟨fun p pins s σ H Q I q => h.run p pins s σ H Q I (w σ H Q q)⟩
theorem _root_.L2.PO.weak {e : Option Expr} {t t' : TO} (h : PO X e t) (w : ∀ σ H Q, t' σ H Q → t σ H Q) : PO X e t' := ⟨fun pins s σ H Q I q => h.run pins s σ H Q I (w σ H Q q)⟩
theorem _root_.L2.PS.weak {e : Stmt} {t t' : TS} (h : PS X e t) (w : ∀ D σ H, t' D σ H → t D σ H) : PS X e t' := ⟨fun pins s σ H D I q => h.run pins s σ H D I (w D σ H q)⟩
theorem _root_.L2.PSs.weak {e : List Stmt} {t t' : TS} (h : PSs X e t) (w : ∀ D σ H, t' D σ H → t D σ H) : PSs X e t' := ⟨fun pins s σ H D I q => h.run pins s σ H D I (w D σ H q)⟩
end
section
variable {K : PySem.W.Frag} {Wx : WX} {G G1 : Hp} {as as1 : List Addr} {H H1 : Hp} {B : MEnds} {D : Ends}
theorem EndsOk.ext (h : EndsOk K Wx G as H B D) (e : Ext G as H G1 as1 H1) : EndsOk K Wx G1 as1 H1 B D :=
  ⟨fun ρ S G' as' σ H' b x => h.nx ρ S G' as' σ H' b (e.trans x), fun w S G' as' v H' b x => h.rt w S G' as' v H' b (e.trans x), fun ρ S G' as' σ H' b x => h.bk ρ S G' as' σ H' b (e.trans x),
    fun ρ S G' as' σ H' b x => h.ct ρ S G' as' σ H' b (e.trans x), fun C ρ S G' as' σ H' b x => h.ex C ρ S G' as' σ H' b (e.trans x)⟩
end

/-! ### looking at values -/
def lstOf : Option Cell → Option PyData
  | some (.l ds) => some (.list ds)
  | _ => none
/-- as a list or data that may be read -/
def rref (S : So) : W → Option PyData
  | .p d => some d
  | .c k => lstOf S[k]?
  | .s ds => some (.list ds)
  | .x _ => none
/-- as data -/
def dref (S : So) : W → Option PyData
  | .p d => some d
  | .c k => lstOf S[k]?
  | _ => none
section
variable {K : PySem.W.Frag} {G : Hp} {as : List Addr} {S : So} {H : Hp} {w : W} {v : V} {d : PyData} {ds : List PyData}
theorem dref_ok (r : RepS K G as S H) (h : RelW K G as w v) (e : dref S w = some d) : Dv K H d v := by
  cases w with
  | p d' => cases e; exact Dv.mono r.sub _ h
  | c k =>
    obtain ⟨a, ha, rfl⟩ := h
    replace e : lstOf S[k]? = _ := e
    cases q : S[k]? with
    | none => rw [q] at e; cases e
    | some c =>
      rw [q] at e
      cases c with
      | l ds =>
        cases e
        obtain ⟨o, e1, ⟨xs, rfl, e2⟩, _⟩ := r.cell k a _ ha q
        exact .lst e1 (e2.mono r.sub)
      | _ => cases e
  | s ds => cases e
  | x C => cases e
theorem dref_list (r : RepS K G as S H) (h : RelW K G as w v) (e : dref S w = some (.list ds)) : ∃ a xs, v = .ref a ∧ H a = some (.lst xs) ∧ DvL K G ds xs := by
  cases w with
  | p d' =>
    cases e
    cases h with
    | lst q q2 => exact ⟨_, _, rfl, r.sub _ _ q, q2⟩
  | c k =>
    obtain ⟨a, ha, rfl⟩ := h
    replace e : lstOf S[k]? = _ := e
    cases q : S[k]? with
    | none => rw [q] at e; cases e
    | some c =>
      rw [q] at e
      cases c with
      | l ds' =>
        cases e
        obtain ⟨o, e1, ⟨xs, rfl, e2⟩, _⟩ := r.cell k a _ ha q
        exact ⟨a, xs, rfl, e1, e2⟩
      | _ => cases e
  | s ds => cases e
  | x C => cases e
theorem rref_list (r : RepS K G as S H) (h : RelW K G as w v) (e : rref S w = some (.list ds)) : ∃ a xs, v = .ref a ∧ SqL K H a xs ∧ DvL K G ds xs := by
  cases w with
  | s ds' =>
    cases e
    obtain ⟨a, xs, rfl, q, q2⟩ := h
    exact ⟨a, xs, rfl, r.sub.seq q, q2⟩
  | x C => cases e
  | p d' =>
    obtain ⟨a, xs, h1, h2, h3⟩ := dref_list r h (show dref S (.p d') = some (.list ds) from e)
    exact ⟨a, xs, h1, SqL.of h2, h3⟩
  | c k =>
    obtain ⟨a, xs, h1, h2, h3⟩ := dref_list r h (show dref S (.c k) = some (.list ds) from e)
    exact ⟨a, xs, h1, SqL.of h2, h3⟩
theorem rref_tup (r : RepS K G as S H) (h : RelW K G as w v) (e : rref S w = some (.tuple ds)) : ∃ a xs, v = .ref a ∧ SqT K H a xs ∧ SqT K G a xs ∧ DvL K G ds xs := by
  cases w with
  | s ds' => cases e
  | x C => cases e
  | p d' =>
    cases e
    cases h with
    | tup q q2 => exact ⟨_, _, rfl, same_t r.sub q, q, q2⟩
  | c k =>
    replace e : lstOf S[k]? = _ := e
    cases q : S[k]? with
    | none => rw [q] at e; cases e
    | some c => rw [q] at e; cases c <;> cases e
theorem rel_int {i : Int} (h : RelW K G as (.p (.int i)) v) : v = .int i := by cases h; rfl
theorem rel_bool {b : Bool} (h : RelW K G as (.p (.bool b)) v) : v = .bl b := by cases h; rfl
theorem rel_none (h : RelW K G as (.p .none) v) : v = .non := by cases h; rfl
theorem rel_str {x : Str} (h : RelW K G as (.p (.str x)) v) : v = .str x := by cases h; rfl
end

/-! ### expressions -/
def getW (ρ : En) (i : Nat) (k : W → Prop) : Prop := match ρ[i]? with
  | some (some w) => k w
  | _ => False
def mV (i : Nat) : ME := fun ρ S R _ => getW ρ i fun w => R w S
def mC (d : PyData) : ME := fun _ S R _ => R (.p d) S
section
variable {X : Cx} {Wx : WX}
theorem qe_var (i : Nat) {x : Str} {pos : Pos} (hN : X.N[i]? = some x := by rfl) (hv : Vis X.env.scope x := by first | exact Or.inl rfl | exact Or.inr (Or.inl rfl) | exact Or.inr (Or.inr rfl)) (hd : (x == ("__debug__" : Str)) = false := by decide)
    (hcd : (x == ("__classdict__" : Str)) = false := by decide) : QE X Wx (.Name x pos) (mV i) := (pe_var hN hv hd hcd).weak fun σ H Q h => by
  obtain ⟨G, as, ρ, S, R, RX, hE, hS, hm, hR, hX⟩ := h
  unfold mV getW at hm
  split at hm
  · rename_i w e
    obtain ⟨v, e2, rv⟩ := hE.get i w e
    exact ⟨v, e2, hR w S G as v H hm Ext.refl hS rv⟩
  · exact hm.elim
theorem qe_const {e : Expr} {v : V} {d : PyData} (h : PE X e (tC v)) (hd : ∀ G, Dv X.K G d v) : QE X Wx e (mC d) := h.weak fun σ H Q h => by
  obtain ⟨G, as, ρ, S, R, RX, hE, hS, hm, hR, hX⟩ := h
  exact hR _ S G as v H hm Ext.refl hS (hd G)
theorem qe_int {i : Int} {j pos} : QE X Wx (.Constant (.int i) j pos) (mC (.int i)) := qe_const pe_int fun _ => .int i
theorem qe_bl {b : Bool} {j pos} : QE X Wx (.Constant (.bool b) j pos) (mC (.bool b)) := qe_const pe_bl fun _ => .bl b
theorem qe_non {j pos} : QE X Wx (.Constant .none j pos) (mC .none) := qe_const pe_non fun _ => .non
theorem qe_str {x : Str} {j pos} : QE X Wx (.Constant (.str x) j pos) (mC (.str x)) := qe_const pe_str fun _ => .str x
/-- a module's int -/
theorem qe_globI {x : Str} {i : Int} {pos : Pos} (hm : ∃ t, X.mg x = some (.int i t)) (hg : Gl X x := by rfl) (hd : (x == ("__debug__" : Str)) = false := by decide) : QE X Wx (.Name x pos) (mC (.int i)) := by
  obtain ⟨t, e⟩ := hm
  exact qe_const (pe_glob (v := .int i) hg e ⟨t, rfl⟩ hd) fun _ => .int i
theorem qe_globS {x z : Str} {pos : Pos} (hm : ∃ t, X.mg x = some (.str z t)) (hg : Gl X x := by rfl) (hd : (x == ("__debug__" : Str)) = false := by decide) : QE X Wx (.Name x pos) (mC (.str z)) := by
  obtain ⟨t, e⟩ := hm
  exact qe_const (pe_glob (v := .str z) hg e ⟨t, rfl⟩ hd) fun _ => .str z
end

/-- a two-place operation over data -/
def mBin (f : W → W → So → RK → Prop) (ma mb : ME) : ME := fun ρ S R X => ma ρ S (fun w1 S1 => mb ρ S1 (fun w2 S2 => f w1 w2 S2 R) X) X
def OpW (K : PySem.W.Frag) (r : R2) (f : W → W → So → RK → Prop) : Prop := ∀ (G : Hp) (as : List Addr) (S : So) (H : Hp) (w1 w2 : W) (v1 v2 : V) (R : RK) (Q : VK), RepS K G as S H → RelW K G as w1 v1 → RelW K G as w2 v2 → f w1 w2 S R →
  (∀ w S' G' as' v H', R w S' → Ext G as H G' as' H' → RepS K G' as' S' H' → RelW K G' as' w v → Q v H') → r v1 v2 H Q
def mUn (f : W → So → RK → Prop) (ma : ME) : ME := fun ρ S R X => ma ρ S (fun w1 S1 => f w1 S1 R) X
def UnW (K : PySem.W.Frag) (r : V → Hp → VK → Prop) (f : W → So → RK → Prop) : Prop := ∀ (G : Hp) (as : List Addr) (S : So) (H : Hp) (w1 : W) (v1 : V) (R : RK) (Q : VK), RepS K G as S H → RelW K G as w1 v1 → f w1 S R →
  (∀ w S' G' as' v H', R w S' → Ext G as H G' as' H' → RepS K G' as' S' H' → RelW K G' as' w v → Q v H') → r v1 H Q
def CallW (K : PySem.W.Frag) (r : List V → Hp → VK → Prop) (f : List W → So → RK → Prop) : Prop := ∀ (G : Hp) (as : List Addr) (S : So) (H : Hp) (ws : List W) (vs : List V) (R : RK) (Q : VK), RepS K G as S H → RelWs K G as ws vs → f ws S R →
  (∀ w S' G' as' v H', R w S' → Ext G as H G' as' H' → RepS K G' as' S' H' → RelW K G' as' w v → Q v H') → r vs H Q
def MethW (K : PySem.W.Frag) (r : V → List V → Hp → VK → Prop) (f : W → List W → So → RK → Prop) : Prop := ∀ (G : Hp) (as : List Addr) (S : So) (H : Hp) (w1 : W) (v1 : V) (ws : List W) (vs : List V) (R : RK) (Q : VK), RepS K G as S H → RelW K G as w1 v1 → RelWs K G as ws vs → f w1 ws S R →
  (∀ w S' G' as' v H', R w S' → Ext G as H G' as' H' → RepS K G' as' S' H' → RelW K G' as' w v → Q v H') → r v1 vs H Q
section
variable {K : PySem.W.Frag} {Wx : WX} {r : R2} {f : W → W → So → RK → Prop} {ma mb : ME} {σ : L2.St} {H : Hp} {Q : VK}
theorem lift_op (hw : OpW K r f) (h : Lift K Wx (RelW K) (mBin f ma mb) σ H Q) : tOp r (Lift K Wx (RelW K) ma) (Lift K Wx (RelW K) mb) σ H Q := by
  obtain ⟨G, as, ρ, S, R, RX, hE, hS, hm, hR, hX⟩ := h
  refine ⟨G, as, ρ, S, fun w1 S1 => mb ρ S1 (fun w2 S2 => f w1 w2 S2 R) RX, RX, hE, hS, hm, fun w1 S1 G1 as1 v1 H1 h1 e1 r1 rv1 => ?_, hX⟩
  refine ⟨G1, as1, ρ, S1, fun w2 S2 => f w1 w2 S2 R, RX, hE.ext e1, r1, h1, fun w2 S2 G2 as2 v2 H2 h2 e2 r2 rv2 => ?_, fun C S' G' as' H' hx e r => hX C S' G' as' H' hx (e1.trans e) r⟩
  exact hw G2 as2 S2 H2 w1 w2 v1 v2 R Q r2 (rv1.ext e2) rv2 h2 fun w S' G' as' v H' hr e r rv => hR w S' G' as' v H' hr ((e1.trans e2).trans e) r rv
end
section
variable {X : Cx} {Wx : WX} {a b e : Expr} {ma mb : ME} {r : R2} {f : W → W → So → RK → Prop} {pos : Pos}
theorem qe_bin {op : Operator} (ho : OpR X (binaryOp op) r) (hw : OpW X.K r f) (ha : QE X Wx a ma) (hb : QE X Wx b mb) : QE X Wx (.BinOp a op b pos) (mBin f ma mb) :=
  (pe_op ho ha hb).weak fun _ _ _ h => lift_op hw h
theorem qe_cmp {op : CmpOp} (ho : OpR X (compareOp op) r) (hw : OpW X.K r f) (ha : QE X Wx a ma) (hb : QE X Wx b mb) (hm : behindInMarks op b = false := by first | exact nobehind _ (by decide) (by decide) | rfl) : QE X Wx (.Compare a [op] [b] pos) (mBin f ma mb) :=
  (pe_cmpR ho ha hb hm).weak fun _ _ _ h => lift_op hw h
theorem qe_sub (hr : IxR X r) (hw : OpW X.K r f) (ha : QE X Wx a ma) (hb : QE X Wx b mb) (hs : PlainIx b := by exact (fun _ _ => rfl)) : QE X Wx (.Subscript a b pos) (mBin f ma mb) :=
  (pe_ix hr ha hb hs).weak fun _ _ _ h => lift_op hw h
theorem qe_un {op : UnaryOp} {ru : V → Hp → VK → Prop} {fu : W → So → RK → Prop} (ho : UnR X (unaryOp op) ru) (hw : UnW X.K ru fu) (ha : QE X Wx a ma) : QE X Wx (.UnaryOp op a pos) (mUn fu ma) :=
  (pe_un ho ha).weak fun σ H Q h => by
    obtain ⟨G, as, ρ, S, R, RX, hE, hS, hm, hR, hX⟩ := h
    refine ⟨G, as, ρ, S, fun w1 S1 => fu w1 S1 R, RX, hE, hS, hm, fun w1 S1 G1 as1 v1 H1 h1 e1 r1 rv1 => ?_, hX⟩
    exact hw G1 as1 S1 H1 w1 v1 R Q r1 rv1 h1 fun w S' G' as' v H' hr e r rv => hR w S' G' as' v H' hr (e1.trans e) r rv
end

/-! ### argument lists, displays -/
def mNil : MA := fun _ S R _ => R [] S
def mCons (me : ME) (mr : MA) : MA := fun ρ S R X => me ρ S (fun w S1 => mr ρ S1 (fun ws S2 => R (w :: ws) S2) X) X
/-- *e: a list or a tuple of data -/
def mStar (me : ME) (mr : MA) : MA := fun ρ S R X => me ρ S (fun w S1 => ∃ ds, (rref S1 w = some (.list ds) ∨ rref S1 w = some (.tuple ds)) ∧ mr ρ S1 (fun ws S2 => R (ds.map W.p ++ ws) S2) X) X
section
variable {X : Cx} {Wx : WX} {e : Expr} {es : List Expr} {me : ME} {mr : MA} {pos p : Pos}
theorem qa_nil : QA X Wx [] mNil := pa_nil.weak fun σ H Q h => by
  obtain ⟨G, as, ρ, S, R, RX, hE, hS, hm, hR, hX⟩ := h
  exact hR [] S G as [] H hm Ext.refl hS .nil
theorem qa_cons (ha : QE X Wx e me) (hr : QA X Wx es mr) (hs : starEach (e :: es) X.env = (false, eval e X.env) :: starEach es X.env := by rfl) : QA X Wx (e :: es) (mCons me mr) := (pa_cons ha hr hs).weak fun σ H Q h => by
  obtain ⟨G, as, ρ, S, R, RX, hE, hS, hm, hR, hX⟩ := h
  refine ⟨G, as, ρ, S, fun w1 S1 => mr ρ S1 (fun ws S2 => R (w1 :: ws) S2) RX, RX, hE, hS, hm, fun w1 S1 G1 as1 v1 H1 h1 e1 r1 rv1 => ?_, hX⟩
  refine ⟨G1, as1, ρ, S1, fun ws S2 => R (w1 :: ws) S2, RX, hE.ext e1, r1, h1, fun ws S2 G2 as2 vs H2 h2 e2 r2 rv2 => ?_, fun C S' G' as' H' hx e r => hX C S' G' as' H' hx (e1.trans e) r⟩
  exact hR _ S2 G2 as2 _ H2 h2 (e1.trans e2) r2 (.cons (rv1.ext e2) rv2)
theorem qa_star (ha : QE X Wx e me) (hr : QA X Wx es mr) (hs : starEach (.Starred e p :: es) X.env = (true, eval e X.env) :: starEach es X.env := by rfl) : QA X Wx (.Starred e p :: es) (mStar me mr) := (StX.pa_star ha hr hs).weak fun σ H Q h => by
  obtain ⟨G, as, ρ, S, R, RX, hE, hS, hm, hR, hX⟩ := h
  refine ⟨G, as, ρ, S, fun w S1 => ∃ ds, (rref S1 w = some (.list ds) ∨ rref S1 w = some (.tuple ds)) ∧ mr ρ S1 (fun ws S2 => R (ds.map W.p ++ ws) S2) RX, RX, hE, hS, hm, fun w1 S1 G1 as1 v1 H1 h1 e1 r1 rv1 => ?_, hX⟩
  obtain ⟨ds, hd, h1⟩ := h1
  have key : ∃ a xs, v1 = V.ref a ∧ (SqT X.K H1 a xs ∨ SqL X.K H1 a xs) ∧ DvL X.K G1 ds xs := by
    rcases hd with hd | hd
    · obtain ⟨a, xs, q1, q2, q3⟩ := rref_list r1 rv1 hd
      exact ⟨a, xs, q1, .inr q2, q3⟩
    · obtain ⟨a, xs, q1, q2, _, q3⟩ := rref_tup r1 rv1 hd
      exact ⟨a, xs, q1, .inl q2, q3⟩
  obtain ⟨a, xs, q1, q2, q3⟩ := key
  refine ⟨a, xs, q1, q2, ?_⟩
  refine ⟨G1, as1, ρ, S1, fun ws S2 => R (ds.map W.p ++ ws) S2, RX, hE.ext e1, r1, h1, fun ws S2 G2 as2 vs H2 h2 e2 r2 rv2 => ?_, fun C S' G' as' H' hx e r => hX C S' G' as' H' hx (e1.trans e) r⟩
  exact hR _ S2 G2 as2 _ H2 h2 (e1.trans e2) r2 ((RelWs.ofDvL (q3.mono e2.g)).append rv2)
end
/-- the items as data -/
def unp : List W → Option (List PyData)
  | [] => some []
  | .p d :: ws => (unp ws).map (d :: ·)
  | _ :: _ => none
theorem unp_map (ds : List PyData) : unp (ds.map .p) = some ds := by
  induction ds with
  | nil => rfl
  | cons d ds ih => show (unp (ds.map .p)).map (d :: ·) = _; rw [ih]; rfl
theorem unp_app (ds : List PyData) (ws : List W) : unp (ds.map W.p ++ ws) = (unp ws).map (ds ++ ·) := by
  induction ds with
  | nil => cases h : unp ws <;> simp [h]
  | cons d ds ih =>
    show (unp (ds.map W.p ++ ws)).map (d :: ·) = _
    rw [ih]
    cases unp ws <;> rfl
theorem unp_rel {K : PySem.W.Frag} {G : Hp} {as : List Addr} : ∀ {ws : List W} {vs : List V} {ds : List PyData}, RelWs K G as ws vs → unp ws = some ds → DvL K G ds vs
  | _, _, _, .nil, e => by cases e; exact .nil
  | .p d :: ws, _, ds, .cons q r, e => by
    have e' : (unp ws).map (d :: ·) = some ds := e
    cases h : unp ws with
    | none => rw [h] at e'; cases e'
    | some es =>
      rw [h] at e'
      cases e'
      exact .cons q (unp_rel r h)
  | .c _ :: _, _, _, .cons _ _, e => by cases e
  | .s _ :: _, _, _, .cons _ _, e => by cases e
  | .x _ :: _, _, _, .cons _ _, e => by cases e
def small : Nat := 1000000
theorem small_line {n : Nat} (h : n ≤ small) : n ≤ sizeLine := Nat.le_trans h (by decide)
theorem small_lt {n : Nat} (h : n ≤ small) : n < sizeLine := Nat.lt_of_le_of_lt h (by decide)
def mTup (ma : MA) : ME := fun ρ S R X => ma ρ S (fun ws S1 => ∃ ds, unp ws = some ds ∧ ds.length ≤ small ∧ R (.p (.tuple ds)) S1) X
/-- a new list that is data at once; one that is an own cell; one with cells in it -/
def mLst (ma : MA) : ME := fun ρ S R X => ma ρ S (fun ws S1 => ∃ ds, unp ws = some ds ∧ ds.length ≤ small ∧ R (.p (.list ds)) S1) X
def mLstO (ma : MA) : ME := fun ρ S R X => ma ρ S (fun ws S1 => ∃ ds, unp ws = some ds ∧ ds.length ≤ small ∧ R (.c S1.length) (S1 ++ [.l ds])) X
def mLstR (ma : MA) : ME := fun ρ S R X => ma ρ S (fun ws S1 => ws.length ≤ small ∧ R (.c S1.length) (S1 ++ [.r ws])) X
section
variable {X : Cx} {Wx : WX} {e : Expr} {es : List Expr} {ma : MA} {pos : Pos}
theorem qe_tup {x1} (ha : QA X Wx es ma) : QE X Wx (.Tuple es x1 pos) (mTup ma) := (pe_tup ha).weak fun σ H Q h => by
  obtain ⟨G, as, ρ, S, R, RX, hE, hS, hm, hR, hX⟩ := h
  refine ⟨G, as, ρ, S, _, RX, hE, hS, hm, fun ws S1 G1 as1 vs H1 h1 e1 r1 rv => ?_, hX⟩
  obtain ⟨ds, u, hl, h1⟩ := h1
  have dv := unp_rel rv u
  refine ⟨by rw [dv.length]; exact small_line hl, fun p hp => ?_⟩
  obtain ⟨r2, e2, _⟩ := r1.laid (o := .tup vs) hp
  exact hR _ S1 _ as1 _ _ h1 (e1.trans e2) r2 (.tup (SqT.of upd_same) (dv.mono e2.g))
theorem qe_lst (ha : QA X Wx es ma) : QE X Wx (.List es pos) (mLst ma) := (pe_lst ha).weak fun σ H Q h => by
  obtain ⟨G, as, ρ, S, R, RX, hE, hS, hm, hR, hX⟩ := h
  refine ⟨G, as, ρ, S, _, RX, hE, hS, hm, fun ws S1 G1 as1 vs H1 h1 e1 r1 rv => ?_, hX⟩
  obtain ⟨ds, u, hl, h1⟩ := h1
  have dv := unp_rel rv u
  refine ⟨by rw [dv.length]; exact small_line hl, fun p hp => ?_⟩
  obtain ⟨r2, e2, _⟩ := r1.laid (o := .lst vs) hp
  exact hR _ S1 _ as1 _ _ h1 (e1.trans e2) r2 (.lst upd_same (dv.mono e2.g))
theorem at_new {as : List Addr} {S : So} {p : Addr} (h : as.length = S.length) : (as ++ [p])[S.length]? = some p := by
  rw [← h, List.getElem?_append_right (Nat.le_refl _), Nat.sub_self]; rfl
theorem qe_lstO (ha : QA X Wx es ma) : QE X Wx (.List es pos) (mLstO ma) := (pe_lst ha).weak fun σ H Q h => by
  obtain ⟨G, as, ρ, S, R, RX, hE, hS, hm, hR, hX⟩ := h
  refine ⟨G, as, ρ, S, _, RX, hE, hS, hm, fun ws S1 G1 as1 vs H1 h1 e1 r1 rv => ?_, hX⟩
  obtain ⟨ds, u, hl, h1⟩ := h1
  have dv := unp_rel rv u
  refine ⟨by rw [dv.length]; exact small_line hl, fun p hp => ?_⟩
  obtain ⟨r2, e2⟩ := r1.cellNew (o := .lst vs) (c := .l ds) hp ⟨vs, rfl, dv⟩
  exact hR _ _ _ _ _ _ h1 (e1.trans e2) r2 ⟨p, at_new r1.len, rfl⟩
theorem qe_lstR (ha : QA X Wx es ma) : QE X Wx (.List es pos) (mLstR ma) := (pe_lst ha).weak fun σ H Q h => by
  obtain ⟨G, as, ρ, S, R, RX, hE, hS, hm, hR, hX⟩ := h
  refine ⟨G, as, ρ, S, _, RX, hE, hS, hm, fun ws S1 G1 as1 vs H1 h1 e1 r1 rv => ?_, hX⟩
  obtain ⟨hl, h1⟩ := h1
  refine ⟨by rw [rv.length]; exact small_line hl, fun p hp => ?_⟩
  obtain ⟨r2, e2⟩ := r1.cellNew (o := .lst vs) (c := .r ws) hp ⟨vs, rfl, rv.mono (Same.refl _) fun k a h => by
    rw [List.getElem?_append_left (List.getElem?_eq_some_iff.mp h).1]; exact h⟩
  exact hR _ _ _ _ _ _ h1 (e1.trans e2) r2 ⟨p, at_new r1.len, rfl⟩
end

/-! ### calls of what is built in -/
def mCB (f : List W → So → RK → Prop) (ma : MA) : ME := fun ρ S R X => ma ρ S (fun ws S1 => f ws S1 R) X
def mBM (f : W → List W → So → RK → Prop) (mo : ME) (ma : MA) : ME := fun ρ S R X => mo ρ S (fun w S1 => (∃ ds, rref S1 w = some (.list ds)) ∧ ma ρ S1 (fun ws S2 => f w ws S2 R) X) X
section
variable {X : Cx} {Wx : WX} {x : Str} {p pos apos : Pos} {e o : Expr} {es : List Expr} {ma : MA} {mo : ME} {id T : String} {r : List V → Hp → VK → Prop} {f : List W → So → RK → Prop}
theorem lift_cb (hw : CallW X.K r f) {σ : L2.St} {H : Hp} {Q : VK} (h : Lift X.K Wx (RelW X.K) (mCB f ma) σ H Q) : tCB r (Lift X.K Wx (RelWs X.K) ma) σ H Q := by
  obtain ⟨G, as, ρ, S, R, RX, hE, hS, hm, hR, hX⟩ := h
  refine ⟨G, as, ρ, S, fun ws S1 => f ws S1 R, RX, hE, hS, hm, fun ws S1 G1 as1 vs H1 h1 e1 r1 rv => ?_, hX⟩
  exact hw G1 as1 S1 H1 ws vs R Q r1 rv h1 fun w S' G' as' v H' hr e r rv => hR w S' G' as' v H' hr (e1.trans e) r rv
theorem qe_callB (hc : CallR X (.builtin id) r) (hw : CallW X.K r f) (hm : X.mg x = none) (hv : bootBuiltins x = some (.builtin id)) (ha : QA X Wx (e :: es) ma) (hg : Gl X x := by rfl) (hn : x ≠ "__name__" := by decide) (hdb : (x == ("__debug__" : Str)) = false := by decide)
    (he : starEach (e :: es) X.env = (false, eval e X.env) :: starEach es X.env := by rfl) (hpl : (backTo pos (starEach es X.env)).any (·.1) = false := by rfl) : QE X Wx (.Call (.Name x p) (e :: es) [] pos) (mCB f ma) :=
  (pe_callB hc hg hm hv ha hn hdb he hpl).weak fun _ _ _ h => lift_cb hw h
theorem qe_callTy (hc : CallR X (.type T) r) (hw : CallW X.K r f) (hm : X.mg x = none) (hv : bootBuiltins x = some (.type T)) (ha : QA X Wx (e :: es) ma) (hg : Gl X x := by rfl) (hn : x ≠ "__name__" := by decide) (hdb : (x == ("__debug__" : Str)) = false := by decide)
    (he : starEach (e :: es) X.env = (false, eval e X.env) :: starEach es X.env := by rfl) (hpl : (backTo pos (starEach es X.env)).any (·.1) = false := by rfl) : QE X Wx (.Call (.Name x p) (e :: es) [] pos) (mCB f ma) :=
  (pe_callTy hc hg hm hv ha hn hdb he hpl).weak fun _ _ _ h => lift_cb hw h
theorem qe_bmL {name : Str} {rm : V → List V → Hp → VK → Prop} {fm : W → List W → So → RK → Prop} (slot : Slot "list" name id) (hty : typeOf (.builtin id) = pure (.type "method_descriptor")) (hmr : MtR X id rm) (hw : MethW X.K rm fm) (ho : QE X Wx o mo) (ha : QA X Wx (e :: es) ma)
    (hbase : attributeBase o name X.env (eval o X.env) = eval o X.env := by rfl)
    (hfew : ((backTo pos (starEach (e :: es) X.env)).all (fun x => !x.1) && (backToKw pos (keywordEach [] X.env)).all (fun x => x.1.isSome)
      && decide ((e :: es).length + ([] : List Keyword).length + (if ([] : List Keyword).isEmpty then 0 else 1) < 30)) = true := by rfl)
    (hline : (apos.endLine == pos.line) = true := by rfl) (hs : starEach (e :: es) X.env = (false, eval e X.env) :: starEach es X.env := by rfl) (hplain : (backTo pos (starEach es X.env)).any (·.1) = false := by rfl) :
    QE X Wx (.Call (.Attribute o name apos) (e :: es) [] pos) (mBM fm mo ma) := (pe_bm PySem.F.plainAttrs_list slot hty hmr ho ha hbase hfew hline hs hplain).weak fun σ H Q h => by
  obtain ⟨G, as, ρ, S, R, RX, hE, hS, hm, hR, hX⟩ := h
  refine ⟨G, as, ρ, S, fun w S1 => (∃ ds, rref S1 w = some (.list ds)) ∧ ma ρ S1 (fun ws S2 => fm w ws S2 R) RX, RX, hE, hS, hm, fun w S1 G1 as1 v H1 h1 e1 r1 rv => ?_, hX⟩
  obtain ⟨⟨ds, hd⟩, h1⟩ := h1
  obtain ⟨a, xs, rfl, q2, _⟩ := rref_list r1 rv hd
  refine ⟨.inl ⟨rfl, _, q2⟩, G1, as1, ρ, S1, fun ws S2 => fm w ws S2 R, RX, hE.ext e1, r1, h1, fun ws S2 G2 as2 vs H2 h2 e2 r2 rv2 => ?_, fun C S' G' as' H' hx e r => hX C S' G' as' H' hx (e1.trans e) r⟩
  exact hw G2 as2 S2 H2 w _ ws vs R Q r2 (rv.ext e2) rv2 h2 fun w S' G' as' v H' hr e r rv => hR w S' G' as' v H' hr ((e1.trans e2).trans e) r rv
end

/-! ### tests -/
def tstW : W → (Bool → Prop) → Prop
  | .p (.bool b), k => k b
  | _, _ => False
theorem tstW_ok {K : PySem.W.Frag} {G : Hp} {as : List Addr} {w : W} {v : V} {k : Bool → Prop} (h : RelW K G as w v) (t : tstW w k) : ∃ b, v = .bl b ∧ w = .p (.bool b) ∧ k b := by
  cases w with
  | p d =>
    cases d with
    | bool b => exact ⟨b, rel_bool h, rfl, t⟩
    | _ => exact t.elim
  | _ => exact t.elim
def mB (me : ME) : MT := fun ρ S R X => me ρ S (fun w S1 => tstW w fun b => R b S1) X
def mAndT (t u : MT) : MT := fun ρ S R X => t ρ S (fun c S1 => if c = true then u ρ S1 R X else R false S1) X
def mOrT (t u : MT) : MT := fun ρ S R X => t ρ S (fun c S1 => if c = true then R true S1 else u ρ S1 R X) X
def mNotT (t : MT) : MT := fun ρ S R X => t ρ S (fun c S1 => R (!c) S1) X
def mAndV (ma mb : ME) : ME := fun ρ S R X => ma ρ S (fun w S1 => tstW w fun c => if c = true then mb ρ S1 R X else R (.p (.bool false)) S1) X
def mOrV (ma mb : ME) : ME := fun ρ S R X => ma ρ S (fun w S1 => tstW w fun c => if c = true then R (.p (.bool true)) S1 else mb ρ S1 R X) X
def mNotV (ma : ME) : ME := fun ρ S R X => ma ρ S (fun w S1 => tstW w fun c => R (.p (.bool (!c))) S1) X
def mIf (t : MT) (ma mb : ME) : ME := fun ρ S R X => t ρ S (fun c S1 => if c = true then ma ρ S1 R X else mb ρ S1 R X) X
section
variable {X : Cx} {Wx : WX} {a b c e : Expr} {rest : List Expr} {ma mb me : ME} {t u : MT} {pos : Pos}
theorem qt_val (h : QE X Wx e me) (he : ∀ whole, isTrue e X.env whole = (do let v ← whole; standAt e.pos; holding [v] (truthy v)) := by intro _; rfl) : QT X Wx e (mB me) := (pt_val h he).weak fun σ H Q h => by
  obtain ⟨G, as, ρ, S, R, RX, hE, hS, hm, hR, hX⟩ := h
  refine ⟨G, as, ρ, S, fun w S1 => tstW w fun b => R b S1, RX, hE, hS, hm, fun w S1 G1 as1 v H1 h1 e1 r1 rv => ?_, hX⟩
  obtain ⟨b, rfl, _, h2⟩ := tstW_ok rv h1
  exact ⟨b, rfl, hR b S1 G1 as1 b H1 h2 e1 r1 rfl⟩
theorem qt_cmp {op : CmpOp} {r : R2} {f : W → W → So → RK → Prop} (ho : OpR X (compareOp op) r) (hw : OpW X.K r f) (ha : QE X Wx a ma) (hb : QE X Wx b mb) (hm : behindInMarks op b = false := by first | exact nobehind _ (by decide) (by decide) | rfl) : QT X Wx (.Compare a [op] [b] pos) (mB (mBin f ma mb)) :=
  (pt_cmpR ho ha hb hm).weak fun σ H Q h => by
    obtain ⟨G, as, ρ, S, R, RX, hE, hS, hm, hR, hX⟩ := h
    refine lift_op (Wx := Wx) hw ⟨G, as, ρ, S, fun w S1 => tstW w fun b => R b S1, RX, hE, hS, hm, fun w S1 G1 as1 v H1 h1 e1 r1 rv => ?_, hX⟩
    obtain ⟨b, rfl, _, h2⟩ := tstW_ok rv h1
    exact ⟨b, rfl, hR b S1 G1 as1 b H1 h2 e1 r1 rfl⟩
theorem lift_and {σ : L2.St} {H : Hp} {Q : Bool → Hp → Prop} (h : Lift X.K Wx relT (mAndT t u) σ H Q) : tAnd (Lift X.K Wx relT t) (Lift X.K Wx relT u) σ H Q := by
  obtain ⟨G, as, ρ, S, R, RX, hE, hS, hm, hR, hX⟩ := h
  refine ⟨G, as, ρ, S, fun c S1 => if c = true then u ρ S1 R RX else R false S1, RX, hE, hS, hm, fun c S1 G1 as1 c' H1 h1 e1 r1 rv => ?_, hX⟩
  cases rv
  cases c with
  | true => exact ⟨G1, as1, ρ, S1, R, RX, hE.ext e1, r1, h1, fun b S' G' as' b' H' hr e r rv => hR b S' G' as' b' H' hr (e1.trans e) r rv, fun C S' G' as' H' hx e r => hX C S' G' as' H' hx (e1.trans e) r⟩
  | false => exact hR false S1 G1 as1 false H1 h1 e1 r1 rfl
theorem lift_or {σ : L2.St} {H : Hp} {Q : Bool → Hp → Prop} (h : Lift X.K Wx relT (mOrT t u) σ H Q) : tOr (Lift X.K Wx relT t) (Lift X.K Wx relT u) σ H Q := by
  obtain ⟨G, as, ρ, S, R, RX, hE, hS, hm, hR, hX⟩ := h
  refine ⟨G, as, ρ, S, fun c S1 => if c = true then R true S1 else u ρ S1 R RX, RX, hE, hS, hm, fun c S1 G1 as1 c' H1 h1 e1 r1 rv => ?_, hX⟩
  cases rv
  cases c with
  | false => exact ⟨G1, as1, ρ, S1, R, RX, hE.ext e1, r1, h1, fun b S' G' as' b' H' hr e r rv => hR b S' G' as' b' H' hr (e1.trans e) r rv, fun C S' G' as' H' hx e r => hX C S' G' as' H' hx (e1.trans e) r⟩
  | true => exact hR true S1 G1 as1 true H1 h1 e1 r1 rfl
theorem qw_and1 (ha : QT X Wx a t) : QW X Wx (.BoolOp .And [a] pos) t := pw_and1 ha
theorem qw_or1 (ha : QT X Wx a t) : QW X Wx (.BoolOp .Or [a] pos) t := pw_or1 ha
theorem qw_and (ha : QT X Wx a t) (hb : QW X Wx (.BoolOp .And (b :: rest) pos) u) : QW X Wx (.BoolOp .And (a :: b :: rest) pos) (mAndT t u) := (pw_and ha hb).weak fun _ _ _ h => lift_and h
theorem qw_or (ha : QT X Wx a t) (hb : QW X Wx (.BoolOp .Or (b :: rest) pos) u) : QW X Wx (.BoolOp .Or (a :: b :: rest) pos) (mOrT t u) := (pw_or ha hb).weak fun _ _ _ h => lift_or h
theorem QW.qt {e : Expr} {t : MT} (h : QW X Wx e t) : QT X Wx e t := PW.pt h
theorem qt_not (ha : QT X Wx a t) : QT X Wx (.UnaryOp .Not a pos) (mNotT t) := (pt_not ha).weak fun σ H Q h => by
  obtain ⟨G, as, ρ, S, R, RX, hE, hS, hm, hR, hX⟩ := h
  refine ⟨G, as, ρ, S, fun c S1 => R (!c) S1, RX, hE, hS, hm, fun c S1 G1 as1 c' H1 h1 e1 r1 rv => ?_, hX⟩
  cases rv
  exact hR (!c) S1 G1 as1 (!c) H1 h1 e1 r1 rfl
theorem qe_one {op} (h : QE X Wx a ma) : QE X Wx (.BoolOp op [a] pos) ma := pe_one h
theorem qe_and (ha : QE X Wx a ma) (hb : QE X Wx (.BoolOp .And (b :: rest) pos) mb) : QE X Wx (.BoolOp .And (a :: b :: rest) pos) (mAndV ma mb) := (pe_and ha hb).weak fun σ H Q h => by
  obtain ⟨G, as, ρ, S, R, RX, hE, hS, hm, hR, hX⟩ := h
  refine ⟨G, as, ρ, S, fun w S1 => tstW w fun c => if c = true then mb ρ S1 R RX else R (.p (.bool false)) S1, RX, hE, hS, hm, fun w S1 G1 as1 v H1 h1 e1 r1 rv => ?_, hX⟩
  obtain ⟨c, rfl, _, h2⟩ := tstW_ok rv h1
  refine ⟨c, rfl, ?_⟩
  cases c with
  | true => exact ⟨G1, as1, ρ, S1, R, RX, hE.ext e1, r1, h2, fun b S' G' as' b' H' hr e r rv => hR b S' G' as' b' H' hr (e1.trans e) r rv, fun C S' G' as' H' hx e r => hX C S' G' as' H' hx (e1.trans e) r⟩
  | false => exact hR _ S1 G1 as1 _ H1 h2 e1 r1 (Dv.bl false)
theorem qe_or (ha : QE X Wx a ma) (hb : QE X Wx (.BoolOp .Or (b :: rest) pos) mb) : QE X Wx (.BoolOp .Or (a :: b :: rest) pos) (mOrV ma mb) := (pe_or ha hb).weak fun σ H Q h => by
  obtain ⟨G, as, ρ, S, R, RX, hE, hS, hm, hR, hX⟩ := h
  refine ⟨G, as, ρ, S, fun w S1 => tstW w fun c => if c = true then R (.p (.bool true)) S1 else mb ρ S1 R RX, RX, hE, hS, hm, fun w S1 G1 as1 v H1 h1 e1 r1 rv => ?_, hX⟩
  obtain ⟨c, rfl, _, h2⟩ := tstW_ok rv h1
  refine ⟨c, rfl, ?_⟩
  cases c with
  | false => exact ⟨G1, as1, ρ, S1, R, RX, hE.ext e1, r1, h2, fun b S' G' as' b' H' hr e r rv => hR b S' G' as' b' H' hr (e1.trans e) r rv, fun C S' G' as' H' hx e r => hX C S' G' as' H' hx (e1.trans e) r⟩
  | true => exact hR _ S1 G1 as1 _ H1 h2 e1 r1 (Dv.bl true)
theorem qe_not (ha : QE X Wx a ma) : QE X Wx (.UnaryOp .Not a pos) (mNotV ma) := (pe_not ha).weak fun σ H Q h => by
  obtain ⟨G, as, ρ, S, R, RX, hE, hS, hm, hR, hX⟩ := h
  refine ⟨G, as, ρ, S, fun w S1 => tstW w fun c => R (.p (.bool (!c))) S1, RX, hE, hS, hm, fun w S1 G1 as1 v H1 h1 e1 r1 rv => ?_, hX⟩
  obtain ⟨c, rfl, _, h2⟩ := tstW_ok rv h1
  exact ⟨c, rfl, hR _ S1 G1 as1 _ H1 h2 e1 r1 (Dv.bl _)⟩
theorem qe_ifExp (hc : QT X Wx c t) (ha : QE X Wx a ma) (hb : QE X Wx b mb) : QE X Wx (.IfExp c a b pos) (mIf t ma mb) := (pe_ifExp hc ha hb).weak fun σ H Q h => by
  obtain ⟨G, as, ρ, S, R, RX, hE, hS, hm, hR, hX⟩ := h
  refine ⟨G, as, ρ, S, fun c S1 => if c = true then ma ρ S1 R RX else mb ρ S1 R RX, RX, hE, hS, hm, fun c S1 G1 as1 c' H1 h1 e1 r1 rv => ?_, hX⟩
  cases rv
  cases c with
  | true => exact ⟨G1, as1, ρ, S1, R, RX, hE.ext e1, r1, h1, fun b S' G' as' b' H' hr e r rv => hR b S' G' as' b' H' hr (e1.trans e) r rv, fun C S' G' as' H' hx e r => hX C S' G' as' H' hx (e1.trans e) r⟩
  | false => exact ⟨G1, as1, ρ, S1, R, RX, hE.ext e1, r1, h1, fun b S' G' as' b' H' hr e r rv => hR b S' G' as' b' H' hr (e1.trans e) r rv, fun C S' G' as' H' hx e r => hX C S' G' as' H' hx (e1.trans e) r⟩
/-- a op b op' c -/
def mChain (f f' : W → W → So → RK → Prop) (ma mb mc : ME) : ME := fun ρ S R X => ma ρ S (fun w1 S1 => mb ρ S1 (fun w2 S2 => f w1 w2 S2 fun z S3 => tstW z fun k => if k = true then mc ρ S3 (fun w3 S4 => f' w2 w3 S4 R) X else R (.p (.bool false)) S3) X) X
theorem qe_chain {op op' : CmpOp} {r r' : R2} {f f' : W → W → So → RK → Prop} {mc : ME} (ho : OpR X (compareOp op) r) (hw : OpW X.K r f) (ho' : OpR X (compareOp op') r') (hw' : OpW X.K r' f') (ha : QE X Wx a ma) (hb : QE X Wx b mb) (hc : QE X Wx c mc)
    (hm : lastMarks [op, op'] [b, c] = false := by with_unfolding_all rfl) : QE X Wx (.Compare a [op, op'] [b, c] pos) (mChain f f' ma mb mc) := (pe_chain ho ho' ha hb hc hm).weak fun σ H Q h => by
  obtain ⟨G, as, ρ, S, R, RX, hE, hS, hm, hR, hX⟩ := h
  refine ⟨G, as, ρ, S, _, RX, hE, hS, hm, fun w1 S1 G1 as1 v1 H1 h1 e1 r1 rv1 => ?_, hX⟩
  refine ⟨G1, as1, ρ, S1, _, RX, hE.ext e1, r1, h1, fun w2 S2 G2 as2 v2 H2 h2 e2 r2 rv2 => ?_, fun C S' G' as' H' hx e r => hX C S' G' as' H' hx (e1.trans e) r⟩
  refine hw G2 as2 S2 H2 w1 w2 v1 v2 _ _ r2 (rv1.ext e2) rv2 h2 fun z S3 G3 as3 v3 H3 h3 e3 r3 rv3 => ?_
  obtain ⟨k, rfl, _, h4⟩ := tstW_ok rv3 h3
  have e03 := (e1.trans e2).trans e3
  refine ⟨k, rfl, ?_⟩
  cases k with
  | false => exact hR _ S3 G3 as3 _ H3 h4 e03 r3 (Dv.bl false)
  | true =>
    refine ⟨G3, as3, ρ, S3, _, RX, hE.ext e03, r3, h4, fun w3 S4 G4 as4 v4 H4 h5 e4 r4 rv4 => ?_, fun C S' G' as' H' hx e r => hX C S' G' as' H' hx (e03.trans e) r⟩
    exact hw' G4 as4 S4 H4 w2 w3 v2 v4 R Q r4 ((rv2.ext e3).ext e4) rv4 h5 fun w S' G' as' v H' hr e r rv => hR w S' G' as' v H' hr ((e03.trans e4).trans e) r rv
end
end Fd
set_option maxRecDepth 100000
set_option maxHeartbeats 2000000
namespace Fd
open PySem PySem.Spec PyProof.Rows L2

/-! ### whole numbers -/
def fI (C : Int → Int → Prop) (g : Int → Int → PyData) : W → W → So → RK → Prop
  | .p (.int i), .p (.int j), S, R => C i j ∧ R (.p (g i j)) S
  | _, _, _, _ => False
def fI0 (g : Int → Int → PyData) : W → W → So → RK → Prop
  | .p (.int i), .p (.int j), S, R => R (.p (g i j)) S
  | _, _, _, _ => False
theorem two_int {K : PySem.W.Frag} {G : Hp} {as : List Addr} {w1 w2 : W} {v1 v2 : V} {f : Int → Int → Prop} (h1 : RelW K G as w1 v1) (h2 : RelW K G as w2 v2)
    (h : match w1, w2 with | .p (.int i), .p (.int j) => f i j | _, _ => False) : ∃ i j, v1 = .int i ∧ v2 = .int j ∧ f i j := by
  cases w1 with
  | p d =>
    cases d with
    | int i =>
      cases w2 with
      | p e =>
        cases e with
        | int j => exact ⟨i, j, rel_int h1, rel_int h2, h⟩
        | _ => exact h.elim
      | _ => exact h.elim
    | _ => exact h.elim
  | _ => exact h.elim
section
variable {K : PySem.W.Frag}
theorem iI0 {g : Int → Int → PyData} {gv : Int → Int → V} (hg : ∀ i j G, Dv K G (g i j) (gv i j)) : OpW K (rI0 gv) (fI0 g) := fun G as S H w1 w2 v1 v2 R Q r h1 h2 h hR => by
  obtain ⟨i, j, rfl, rfl, q⟩ := two_int (f := fun i j => R (.p (g i j)) S) h1 h2 (by
    unfold fI0 at h
    split at h
    · exact h
    · exact h.elim)
  exact ⟨i, j, rfl, rfl, hR _ S G as _ H q Ext.refl r (hg i j G)⟩
theorem iI {C C' : Int → Int → Prop} {g : Int → Int → PyData} {gv : Int → Int → V} (hc : ∀ i j, C i j → C' i j) (hg : ∀ i j G, C i j → Dv K G (g i j) (gv i j)) : OpW K (rI C' gv) (fI C g) := fun G as S H w1 w2 v1 v2 R Q r h1 h2 h hR => by
  obtain ⟨i, j, rfl, rfl, c, q⟩ := two_int (f := fun i j => C i j ∧ R (.p (g i j)) S) h1 h2 (by
    unfold fI at h
    split at h
    · exact h
    · exact h.elim)
  exact ⟨i, j, rfl, rfl, hc i j c, hR _ S G as _ H q Ext.refl r (hg i j G c)⟩
end
/-- two factors of together less than a hundred million bits -/
def CMulA (i j : Int) : Prop := i.natAbs.log2 + j.natAbs.log2 < 100000000
theorem bits_le (x : Int) : Builtin.Int.intBits x ≤ x.natAbs.log2 + 1 := by
  unfold Builtin.Int.intBits
  by_cases h : x = 0 <;> simp [h]
theorem CMulA.ok {i j : Int} (h : CMulA i j) : IntMulOk i j := by
  intro z
  have z2 := (Bool.and_eq_true_iff.mp z).2
  unfold Builtin.Int.intTooBig at z2
  have z3 := of_decide_eq_true z2
  have b1 := bits_le i
  have b2 := bits_le j
  have h' : i.natAbs.log2 + j.natAbs.log2 < 100000000 := h
  have e : bitsLine = 134217728 := by decide
  omega
def CPowA (i j : Int) : Prop := 0 ≤ j ∧ (i.natAbs.log2 + 1) * j.toNat ≤ 100000000
section
variable {X : Cx} {Wx : WX} {a b : Expr} {ma mb : ME} {pos : Pos}
theorem op_mulA : OpR X (binaryOp .Mult) (rI CMulA fun i j => .int (i * j)) := opI fun _ _ _ _ _ _ _ hc q => mul_int q hc.ok
theorem op_powA : OpR X (binaryOp .Pow) (rI CPowA fun i j => .int (i ^ j.toNat)) := opI fun i j _ _ _ _ _ hc q => pow_int hc.1 (by
  obtain ⟨h0, h1⟩ := hc
  have b1 := bits_le i
  have h2 : Builtin.Int.intBits i * j.toNat ≤ (i.natAbs.log2 + 1) * j.toNat := Nat.mul_le_mul_right _ b1
  have h3 : ((j.toNat : Nat) : Int) = j := Int.toNat_of_nonneg h0
  have h4 : ((Builtin.Int.intBits i * j.toNat : Nat) : Int) ≤ 100000000 := by
    have := Nat.le_trans h2 h1
    exact Int.ofNat_le.mpr this
  have h5 : (Builtin.Int.intBits i : Int) * j ≤ 100000000 := by
    rw [Int.natCast_mul, h3] at h4
    exact h4
  exact Int.le_trans h5 (by decide)) q
abbrev iAdd : W → W → So → RK → Prop := fI0 fun i j => .int (i + j)
abbrev iSub : W → W → So → RK → Prop := fI0 fun i j => .int (i - j)
abbrev iMul : W → W → So → RK → Prop := fI CMulA fun i j => .int (i * j)
abbrev iPow : W → W → So → RK → Prop := fI CPowA fun i j => .int (i ^ j.toNat)
abbrev iDiv : W → W → So → RK → Prop := fI (fun _ j => 0 < j ∧ j.natAbs.log2 < 9000) fun i j => .int (i / j)
abbrev iMod : W → W → So → RK → Prop := fI (fun _ j => 0 < j) fun i j => .int (i % j)
abbrev iLt : W → W → So → RK → Prop := fI0 fun i j => .bool (decide (i < j))
abbrev iLe : W → W → So → RK → Prop := fI0 fun i j => .bool (decide (i ≤ j))
abbrev iGt : W → W → So → RK → Prop := fI0 fun i j => .bool (decide (j < i))
abbrev iGe : W → W → So → RK → Prop := fI0 fun i j => .bool (decide (j ≤ i))
abbrev iEq : W → W → So → RK → Prop := fI0 fun i j => .bool (decide (i = j))
abbrev iNe : W → W → So → RK → Prop := fI0 fun i j => .bool (!decide (i = j))
theorem qe_add (ha : QE X Wx a ma) (hb : QE X Wx b mb) : QE X Wx (.BinOp a .Add b pos) (mBin iAdd ma mb) := qe_bin op_add (iI0 fun _ _ _ => .int _) ha hb
theorem qe_subI (ha : QE X Wx a ma) (hb : QE X Wx b mb) : QE X Wx (.BinOp a .Sub b pos) (mBin iSub ma mb) := qe_bin op_sub (iI0 fun _ _ _ => .int _) ha hb
theorem qe_mul (ha : QE X Wx a ma) (hb : QE X Wx b mb) : QE X Wx (.BinOp a .Mult b pos) (mBin iMul ma mb) := qe_bin op_mulA (iI (fun _ _ h => h) fun _ _ _ _ => .int _) ha hb
theorem qe_pow (ha : QE X Wx a ma) (hb : QE X Wx b mb) : QE X Wx (.BinOp a .Pow b pos) (mBin iPow ma mb) := qe_bin op_powA (iI (fun _ _ h => h) fun _ _ _ _ => .int _) ha hb
theorem qe_div (ha : QE X Wx a ma) (hb : QE X Wx b mb) : QE X Wx (.BinOp a .FloorDiv b pos) (mBin iDiv ma mb) := qe_bin op_fdivW (iI (fun _ _ h => h) fun _ _ _ _ => .int _) ha hb
theorem qe_mod (ha : QE X Wx a ma) (hb : QE X Wx b mb) : QE X Wx (.BinOp a .Mod b pos) (mBin iMod ma mb) := qe_bin op_modN (iI (fun _ j (h : 0 < j) => by omega) fun i j G h => by
  rw [Int.fmod_eq_emod_of_nonneg i (Int.le_of_lt h)]; exact .int _) ha hb
theorem qe_lt (ha : QE X Wx a ma) (hb : QE X Wx b mb) : QE X Wx (.Compare a [.Lt] [b] pos) (mBin iLt ma mb) := qe_cmp op_lt (iI0 fun _ _ _ => .bl _) ha hb
theorem qe_le (ha : QE X Wx a ma) (hb : QE X Wx b mb) : QE X Wx (.Compare a [.LtE] [b] pos) (mBin iLe ma mb) := qe_cmp op_le (iI0 fun _ _ _ => .bl _) ha hb
theorem qe_gt (ha : QE X Wx a ma) (hb : QE X Wx b mb) : QE X Wx (.Compare a [.Gt] [b] pos) (mBin iGt ma mb) := qe_cmp op_gt (iI0 fun _ _ _ => .bl _) ha hb
theorem qe_ge (ha : QE X Wx a ma) (hb : QE X Wx b mb) : QE X Wx (.Compare a [.GtE] [b] pos) (mBin iGe ma mb) := qe_cmp op_ge (iI0 fun _ _ _ => .bl _) ha hb
theorem qt_lt (ha : QE X Wx a ma) (hb : QE X Wx b mb) : QT X Wx (.Compare a [.Lt] [b] pos) (mB (mBin iLt ma mb)) := qt_cmp op_lt (iI0 fun _ _ _ => .bl _) ha hb
theorem qt_le (ha : QE X Wx a ma) (hb : QE X Wx b mb) : QT X Wx (.Compare a [.LtE] [b] pos) (mB (mBin iLe ma mb)) := qt_cmp op_le (iI0 fun _ _ _ => .bl _) ha hb
theorem qt_gt (ha : QE X Wx a ma) (hb : QE X Wx b mb) : QT X Wx (.Compare a [.Gt] [b] pos) (mB (mBin iGt ma mb)) := qt_cmp op_gt (iI0 fun _ _ _ => .bl _) ha hb
theorem qt_ge (ha : QE X Wx a ma) (hb : QE X Wx b mb) : QT X Wx (.Compare a [.GtE] [b] pos) (mB (mBin iGe ma mb)) := qt_cmp op_ge (iI0 fun _ _ _ => .bl _) ha hb
/-! ### == and != of plain values (a number, a text, None, a bool, of the pairs that scal names) -/
def plainD : PyData → Option V
  | .none => some .non
  | .bool b => some (.bl b)
  | .int i => some (.int i)
  | .str x => some (.str x)
  | _ => none
def eqS (d e : PyData) : Option Bool := match plainD d, plainD e with
  | some v, some u => if scal v u = true then some (decide (v = u)) else none
  | _, _ => none
theorem plainD_rel {K : PySem.W.Frag} {G : Hp} {d : PyData} {v u : V} (h : Dv K G d v) (e : plainD d = some u) : v = u := by
  cases h <;> cases e <;> rfl
theorem eqS_ok {K : PySem.W.Frag} {G : Hp} {d e : PyData} {v u : V} {b : Bool} (h : Dv K G d v) (h' : Dv K G e u) (q : eqS d e = some b) : scal v u = true ∧ b = decide (v = u) := by
  unfold eqS at q
  cases h1 : plainD d with
  | none => rw [h1] at q; cases q
  | some x =>
    cases h2 : plainD e with
    | none => rw [h1, h2] at q; cases q
    | some y =>
      rw [h1, h2] at q
      have e1 := plainD_rel h h1
      have e2 := plainD_rel h' h2
      subst e1; subst e2
      dsimp only at q
      by_cases hs : scal v u = true
      · rw [if_pos hs] at q; exact ⟨hs, (Option.some.inj q).symm⟩
      · rw [if_neg hs] at q; cases q
/-- neg: of != -/
def fEqS (neg : Bool) : W → W → So → RK → Prop
  | .p d, .p e, S, R => ∃ b, eqS d e = some b ∧ R (.p (.bool (if neg then !b else b))) S
  | _, _, _, _ => False
theorem fEqS_ok {K : PySem.W.Frag} : OpW K rEq (fEqS false) := fun G as S H w1 w2 v1 v2 R Q r h1 h2 h hR => by
  unfold fEqS at h
  split at h
  · obtain ⟨b, q, h⟩ := h
    obtain ⟨s1, rfl⟩ := eqS_ok h1 h2 q
    exact ⟨s1, hR _ S G as _ H h Ext.refl r (Dv.bl _)⟩
  · exact h.elim
theorem fNeS_ok {K : PySem.W.Frag} : OpW K rNe (fEqS true) := fun G as S H w1 w2 v1 v2 R Q r h1 h2 h hR => by
  unfold fEqS at h
  split at h
  · obtain ⟨b, q, h⟩ := h
    obtain ⟨s1, rfl⟩ := eqS_ok h1 h2 q
    exact ⟨s1, hR _ S G as _ H h Ext.refl r (Dv.bl _)⟩
  · exact h.elim
theorem iEq_ok {K : PySem.W.Frag} : OpW K rEq iEq := fun G as S H w1 w2 v1 v2 R Q r h1 h2 h hR => by
  obtain ⟨i, j, rfl, rfl, q⟩ := two_int (f := fun i j => R (.p (.bool (decide (i = j)))) S) h1 h2 (by
    unfold iEq fI0 at h
    split at h
    · exact h
    · exact h.elim)
  refine ⟨rfl, hR _ S G as _ H q Ext.refl r ?_⟩
  rw [show decide (V.int i = V.int j) = decide (i = j) from decide_eq_decide.mpr ⟨fun e => V.int.inj e, fun e => by rw [e]⟩]
  exact Dv.bl _
theorem iNe_ok {K : PySem.W.Frag} : OpW K rNe iNe := fun G as S H w1 w2 v1 v2 R Q r h1 h2 h hR => by
  obtain ⟨i, j, rfl, rfl, q⟩ := two_int (f := fun i j => R (.p (.bool (!decide (i = j)))) S) h1 h2 (by
    unfold iNe fI0 at h
    split at h
    · exact h
    · exact h.elim)
  refine ⟨rfl, hR _ S G as _ H q Ext.refl r ?_⟩
  rw [show decide (V.int i = V.int j) = decide (i = j) from decide_eq_decide.mpr ⟨fun e => V.int.inj e, fun e => by rw [e]⟩]
  exact Dv.bl _
theorem qe_eq (ha : QE X Wx a ma) (hb : QE X Wx b mb) : QE X Wx (.Compare a [.Eq] [b] pos) (mBin iEq ma mb) := qe_cmp op_eq iEq_ok ha hb
theorem qe_ne (ha : QE X Wx a ma) (hb : QE X Wx b mb) : QE X Wx (.Compare a [.NotEq] [b] pos) (mBin iNe ma mb) := qe_cmp op_ne iNe_ok ha hb
theorem qt_eq (ha : QE X Wx a ma) (hb : QE X Wx b mb) : QT X Wx (.Compare a [.Eq] [b] pos) (mB (mBin iEq ma mb)) := qt_cmp op_eq iEq_ok ha hb
theorem qt_ne (ha : QE X Wx a ma) (hb : QE X Wx b mb) : QT X Wx (.Compare a [.NotEq] [b] pos) (mB (mBin iNe ma mb)) := qt_cmp op_ne iNe_ok ha hb
theorem qe_eqS (ha : QE X Wx a ma) (hb : QE X Wx b mb) : QE X Wx (.Compare a [.Eq] [b] pos) (mBin (fEqS false) ma mb) := qe_cmp op_eq fEqS_ok ha hb
theorem qe_neS (ha : QE X Wx a ma) (hb : QE X Wx b mb) : QE X Wx (.Compare a [.NotEq] [b] pos) (mBin (fEqS true) ma mb) := qe_cmp op_ne fNeS_ok ha hb
theorem qt_eqS (ha : QE X Wx a ma) (hb : QE X Wx b mb) : QT X Wx (.Compare a [.Eq] [b] pos) (mB (mBin (fEqS false) ma mb)) := qt_cmp op_eq fEqS_ok ha hb
theorem qt_neS (ha : QE X Wx a ma) (hb : QE X Wx b mb) : QT X Wx (.Compare a [.NotEq] [b] pos) (mB (mBin (fEqS true) ma mb)) := qt_cmp op_ne fNeS_ok ha hb
end
/-! ### == and != of data without dicts, at any depth -/
mutual
theorem Dv.dp {K : PySem.W.Frag} {H : Hp} : ∀ {d : PyData} {v : V}, SeqAt.shaped d = true ∨ d.canLay0 = true → Dv K H d v → Dp K H v d
  | .none, _, _, h => by cases h; exact .non
  | .bool b, _, _, h => by cases h; exact .bl b
  | .int i, _, _, h => by cases h; exact .int i
  | .str x, _, _, h => by cases h; exact .str x
  | .list ds, _, s, h => by
    cases h with
    | lst q r => exact .lst (SqL.of q) (DvL.dp (by
        rcases s with s | s
        · exact SeqAt.canLay_of_shaped s
        · exact s) r)
  | .tuple ds, _, s, h => by
    cases h with
    | tup q r => exact .tup q (DvL.dp (by
        rcases s with s | s
        · exact SeqAt.canLay_of_shaped s
        · exact s) r)
  | .dict ds, _, s, h => by
    rcases s with s | s
    · exact absurd (SeqAt.canLay_of_shaped s) Bool.false_ne_true
    · exact absurd s Bool.false_ne_true
theorem DvL.dp {K : PySem.W.Frag} {H : Hp} : ∀ {ds : List PyData} {vs : List V}, PyData.canLayAll0 ds = true → DvL K H ds vs → DpAll K H vs ds
  | [], _, _, h => by cases h; exact .nil
  | d :: ds, _, s, h => by
    have s' : (d.canLay0 && PyData.canLayAll0 ds) = true := s
    obtain ⟨s1, s2⟩ := Bool.and_eq_true_iff.mp s'
    cases h with
    | cons q r => exact .cons (Dv.dp (.inr s1) q) (DvL.dp s2 r)
end
def fEqD (neg : Bool) : W → W → So → RK → Prop := fun w1 w2 S R => ∃ d e, dref S w1 = some d ∧ dref S w2 = some e ∧ SeqAt.shaped d = true ∧ SeqAt.shaped e = true ∧ R (.p (.bool (if neg then !PyData.eqv d e else PyData.eqv d e))) S
section
variable {X : Cx} {Wx : WX} {a b : Expr} {ma mb : ME} {pos : Pos}
theorem fEqD_ok {K : PySem.W.Frag} : OpW K (rEqD K) (fEqD false) := fun G as S H w1 w2 v1 v2 R Q r h1 h2 h hR => by
  obtain ⟨d, e, e1, e2, s1, s2, q⟩ := h
  exact ⟨d, e, (dref_ok r h1 e1).dp (.inl s1), (dref_ok r h2 e2).dp (.inl s2), s1, s2, hR _ S G as _ H q Ext.refl r (Dv.bl _)⟩
theorem fNeD_ok {K : PySem.W.Frag} : OpW K (rNeD K) (fEqD true) := fun G as S H w1 w2 v1 v2 R Q r h1 h2 h hR => by
  obtain ⟨d, e, e1, e2, s1, s2, q⟩ := h
  exact ⟨d, e, (dref_ok r h1 e1).dp (.inl s1), (dref_ok r h2 e2).dp (.inl s2), s1, s2, hR _ S G as _ H q Ext.refl r (Dv.bl _)⟩
theorem qe_eqD (hu : X.A.units + 64 < cLine) (ha : QE X Wx a ma) (hb : QE X Wx b mb) : QE X Wx (.Compare a [.Eq] [b] pos) (mBin (fEqD false) ma mb) := qe_cmp (op_eqD hu) fEqD_ok ha hb
theorem qe_neD (hu : X.A.units + 64 < cLine) (ha : QE X Wx a ma) (hb : QE X Wx b mb) : QE X Wx (.Compare a [.NotEq] [b] pos) (mBin (fEqD true) ma mb) := qe_cmp (op_neD hu) fNeD_ok ha hb
theorem qt_eqD (hu : X.A.units + 64 < cLine) (ha : QE X Wx a ma) (hb : QE X Wx b mb) : QT X Wx (.Compare a [.Eq] [b] pos) (mB (mBin (fEqD false) ma mb)) := qt_cmp (op_eqD hu) fEqD_ok ha hb
theorem qt_neD (hu : X.A.units + 64 < cLine) (ha : QE X Wx a ma) (hb : QE X Wx b mb) : QT X Wx (.Compare a [.NotEq] [b] pos) (mB (mBin (fEqD true) ma mb)) := qt_cmp (op_neD hu) fNeD_ok ha hb
/-- is None -/
def fIsN (neg : Bool) : W → W → So → RK → Prop
  | .p d, .p .none, S, R => R (.p (.bool (match d with | .none => !neg | _ => neg))) S
  | .c _, .p .none, S, R => R (.p (.bool neg)) S
  | .x _, .p .none, S, R => R (.p (.bool neg)) S
  | _, _, _, _ => False
theorem fIsN_key {K : PySem.W.Frag} {G : Hp} {as : List Addr} {S : So} {w1 w2 : W} {v1 v2 : V} {R : RK} {neg : Bool} (h1 : RelW K G as w1 v1) (h2 : RelW K G as w2 v2) (h : fIsN neg w1 w2 S R) :
    v2 = .non ∧ R (.p (.bool (if neg then !decide (v1 = .non) else decide (v1 = .non)))) S := by
  unfold fIsN at h
  split at h
  · refine ⟨rel_none h2, ?_⟩
    rename_i d
    have h1' : Dv K G d v1 := h1
    cases h1' <;> cases neg <;> exact h
  · obtain ⟨a, _, rfl⟩ := h1
    refine ⟨rel_none h2, ?_⟩
    cases neg <;> exact h
  · obtain ⟨a, rfl, _⟩ := h1
    refine ⟨rel_none h2, ?_⟩
    cases neg <;> exact h
  · exact h.elim
theorem fIsN_ok {K : PySem.W.Frag} : OpW K (fun x y H Q => y = .non ∧ Q (.bl (decide (x = .non))) H) (fIsN false) := fun G as S H w1 w2 v1 v2 R Q r h1 h2 h hR => by
  obtain ⟨e, q⟩ := fIsN_key h1 h2 h
  exact ⟨e, hR _ S G as _ H q Ext.refl r (Dv.bl _)⟩
theorem fIsNN_ok {K : PySem.W.Frag} : OpW K (fun x y H Q => y = .non ∧ Q (.bl (!decide (x = .non))) H) (fIsN true) := fun G as S H w1 w2 v1 v2 R Q r h1 h2 h hR => by
  obtain ⟨e, q⟩ := fIsN_key h1 h2 h
  exact ⟨e, hR _ S G as _ H q Ext.refl r (Dv.bl _)⟩
theorem qe_isN (ha : QE X Wx a ma) (hb : QE X Wx b mb) : QE X Wx (.Compare a [.Is] [b] pos) (mBin (fIsN false) ma mb) := qe_cmp op_isN fIsN_ok ha hb
theorem qe_notN (ha : QE X Wx a ma) (hb : QE X Wx b mb) : QE X Wx (.Compare a [.IsNot] [b] pos) (mBin (fIsN true) ma mb) := qe_cmp op_notN fIsNN_ok ha hb
theorem qt_isN (ha : QE X Wx a ma) (hb : QE X Wx b mb) : QT X Wx (.Compare a [.Is] [b] pos) (mB (mBin (fIsN false) ma mb)) := qt_cmp op_isN fIsN_ok ha hb
theorem qt_notN (ha : QE X Wx a ma) (hb : QE X Wx b mb) : QT X Wx (.Compare a [.IsNot] [b] pos) (mB (mBin (fIsN true) ma mb)) := qt_cmp op_notN fIsNN_ok ha hb
end
/-! ### lists of whole numbers -/
abbrev intsD (ns : List Int) : PyData := .list (ns.map .int)
theorem eqV_int (a b : Int) : eqV (.int a) (.int b) = decide (a = b) := by
  show (a == b) = _
  exact Bool.beq_eq_decide_eq a b
theorem inV_ints (i : Int) : ∀ ns : List Int, inV (.int i) (ns.map V.int) = decide (i ∈ ns)
  | [] => rfl
  | n :: ns => by
    have ih := inV_ints i ns
    unfold inV at ih ⊢
    rw [List.map_cons, List.any_cons, ih, eqV_int]
    by_cases h : n = i
    · subst h; simp
    · have h' : ¬ i = n := fun e => h e.symm
      simp [h, h']
theorem flat_ints : ∀ ns : List Int, (ns.map V.int).all flatV = true
  | [] => rfl
  | n :: ns => by rw [List.map_cons, List.all_cons, flat_ints ns]; rfl
def fInI (neg : Bool) : W → W → So → RK → Prop
  | .p (.int i), w, S, R => ∃ ns, rref S w = some (intsD ns) ∧ R (.p (.bool (if neg then !decide (i ∈ ns) else decide (i ∈ ns)))) S
  | _, _, _, _ => False
theorem fInI_ok {K : PySem.W.Frag} {neg : Bool} : OpW K (rIn K neg) (fInI neg) := fun G as S H w1 w2 v1 v2 R Q r h1 h2 h hR => by
  unfold fInI at h
  split at h
  · rename_i i
    obtain ⟨ns, e, q⟩ := h
    obtain ⟨a, xs, rfl, q2, q3⟩ := rref_list r h2 e
    have e3 := DvL.ints q3
    subst e3
    rw [rel_int h1]
    refine ⟨a, _, rfl, .inl q2, rfl, flat_ints ns, ?_⟩
    rw [inV_ints]
    exact hR _ S G as _ H q Ext.refl r (Dv.bl _)
  · exact h.elim
section
variable {X : Cx} {Wx : WX} {a b e : Expr} {ma mb me : ME} {pos : Pos}
theorem qe_inI (ha : QE X Wx a ma) (hb : QE X Wx b mb) (hm : behindInMarks .In b = false := by rfl) : QE X Wx (.Compare a [.In] [b] pos) (mBin (fInI false) ma mb) := qe_cmp op_in_seq fInI_ok ha hb hm
theorem qe_ninI (ha : QE X Wx a ma) (hb : QE X Wx b mb) (hm : behindInMarks .NotIn b = false := by rfl) : QE X Wx (.Compare a [.NotIn] [b] pos) (mBin (fInI true) ma mb) := qe_cmp op_notIn_seq fInI_ok ha hb hm
theorem qt_inI (ha : QE X Wx a ma) (hb : QE X Wx b mb) (hm : behindInMarks .In b = false := by rfl) : QT X Wx (.Compare a [.In] [b] pos) (mB (mBin (fInI false) ma mb)) := qt_cmp op_in_seq fInI_ok ha hb hm
theorem qt_ninI (ha : QE X Wx a ma) (hb : QE X Wx b mb) (hm : behindInMarks .NotIn b = false := by rfl) : QT X Wx (.Compare a [.NotIn] [b] pos) (mB (mBin (fInI true) ma mb)) := qt_cmp op_notIn_seq fInI_ok ha hb hm
/-! ### subscripts -/
def fIx (w1 w2 : W) (S : So) (R : RK) : Prop := ∃ ds i d, (rref S w1 = some (.list ds) ∨ rref S w1 = some (.tuple ds)) ∧ w2 = .p (.int i) ∧ atI ds i = some d ∧ R (.p d) S
theorem ixN_lt {n : Nat} {i : Int} {j : Nat} (h : ixN n i = some j) : j < n := (ixN_seq h).2.1
theorem atI_rel {K : PySem.W.Frag} {G : Hp} {ds : List PyData} {xs : List V} {i : Int} {d : PyData} (h : DvL K G ds xs) (e : atI ds i = some d) : ∃ v, atI xs i = some v ∧ Dv K G d v := by
  unfold atI at e ⊢
  rw [h.length]
  cases q : ixN ds.length i with
  | none => rw [q] at e; cases e
  | some j =>
    rw [q] at e
    exact h.get (show ds[j]? = some d from e)
theorem fIx_ok {K : PySem.W.Frag} : OpW K (fun x y H Q => rIxL K x y H Q ∨ rIxT K x y H Q) fIx := fun G as S H w1 w2 v1 v2 R Q r h1 h2 h hR => by
  obtain ⟨ds, i, d, hd, rfl, e, q⟩ := h
  rw [rel_int h2]
  rcases hd with hd | hd
  · obtain ⟨a, xs, rfl, q2, q3⟩ := rref_list r h1 hd
    obtain ⟨v, e2, dv⟩ := atI_rel q3 e
    exact .inl ⟨a, xs, i, v, rfl, rfl, q2, e2, hR _ S G as _ H q Ext.refl r dv⟩
  · obtain ⟨a, xs, rfl, q2, _, q3⟩ := rref_tup r h1 hd
    obtain ⟨v, e2, dv⟩ := atI_rel q3 e
    exact .inr ⟨a, xs, i, v, rfl, rfl, q2, e2, hR _ S G as _ H q Ext.refl r dv⟩
theorem qe_ix (ha : QE X Wx a ma) (hb : QE X Wx b mb) (hs : PlainIx b := by exact (fun _ _ => rfl)) : QE X Wx (.Subscript a b pos) (mBin fIx ma mb) := qe_sub (ix_list.or ix_tup) fIx_ok ha hb hs
/-! ### what makes a new list: data at once, or an own cell -/
def newF (ds : List PyData) (S : So) (R : RK) : Prop := ds.length ≤ small ∧ R (.p (.list ds)) S
def newO (ds : List PyData) (S : So) (R : RK) : Prop := ds.length ≤ small ∧ R (.c S.length) (S ++ [.l ds])
theorem newF_ok {K : PySem.W.Frag} {G : Hp} {as : List Addr} {S : So} {H : Hp} {ds : List PyData} {xs : List V} {R : RK} {Q : VK} (r : RepS K G as S H) (dv : DvL K G ds xs) (h : R (.p (.list ds)) S)
    (hR : ∀ w S' G' as' v H', R w S' → Ext G as H G' as' H' → RepS K G' as' S' H' → RelW K G' as' w v → Q v H') : ∀ p, H p = none → Q (.ref p) (upd H p (.lst xs)) := fun p hp => by
  obtain ⟨r2, e2, _⟩ := r.laid (o := .lst xs) hp
  exact hR _ S _ as _ _ h e2 r2 (.lst upd_same (dv.mono e2.g))
theorem newO_ok {K : PySem.W.Frag} {G : Hp} {as : List Addr} {S : So} {H : Hp} {ds : List PyData} {xs : List V} {R : RK} {Q : VK} (r : RepS K G as S H) (dv : DvL K G ds xs) (h : R (.c S.length) (S ++ [.l ds]))
    (hR : ∀ w S' G' as' v H', R w S' → Ext G as H G' as' H' → RepS K G' as' S' H' → RelW K G' as' w v → Q v H') : ∀ p, H p = none → Q (.ref p) (upd H p (.lst xs)) := fun p hp => by
  obtain ⟨r2, e2⟩ := r.cellNew (o := .lst xs) (c := .l ds) hp ⟨xs, rfl, dv⟩
  exact hR _ _ _ _ _ _ h e2 r2 ⟨p, at_new r.len, rfl⟩
abbrev NewK := List PyData → So → RK → Prop
/-- nk is newF or newO -/
structure IsNew (nk : NewK) : Prop where
  ok : ∀ {K : PySem.W.Frag} {G : Hp} {as : List Addr} {S : So} {H : Hp} {ds : List PyData} {xs : List V} {R : RK} {Q : VK}, RepS K G as S H → DvL K G ds xs → nk ds S R →
    (∀ w S' G' as' v H', R w S' → Ext G as H G' as' H' → RepS K G' as' S' H' → RelW K G' as' w v → Q v H') → ds.length ≤ small ∧ ∀ p, H p = none → Q (.ref p) (upd H p (.lst xs))
theorem isF : IsNew newF := ⟨fun r dv h hR => ⟨h.1, newF_ok r dv h.2 hR⟩⟩
theorem isO : IsNew newO := ⟨fun r dv h hR => ⟨h.1, newO_ok r dv h.2 hR⟩⟩
/-- xs + ys -/
def fCat (nk : NewK) (w1 w2 : W) (S : So) (R : RK) : Prop := ∃ ds es, dref S w1 = some (.list ds) ∧ dref S w2 = some (.list es) ∧ nk (ds ++ es) S R
theorem dref_listG {K : PySem.W.Frag} {G : Hp} {as : List Addr} {S : So} {H : Hp} {w : W} {v : V} {ds : List PyData} (r : RepS K G as S H) (h : RelW K G as w v) (e : dref S w = some (.list ds)) : ∃ a xs, v = .ref a ∧ H a = some (.lst xs) ∧ DvL K G ds xs := dref_list r h e
theorem fCat_ok {K : PySem.W.Frag} {nk : NewK} (n : IsNew nk) : OpW K rCat (fCat nk) := fun G as S H w1 w2 v1 v2 R Q r h1 h2 h hR => by
  obtain ⟨ds, es, e1, e2, q⟩ := h
  obtain ⟨a, xs, rfl, q1, q2⟩ := dref_list r h1 e1
  obtain ⟨b, ys, rfl, q3, q4⟩ := dref_list r h2 e2
  obtain ⟨hl, hn⟩ := n.ok r (q2.append q4) q hR
  exact ⟨a, b, xs, ys, rfl, rfl, q1, q3, by rw [q2.length, q4.length, ← List.length_append]; exact small_line hl, hn⟩
theorem qe_cat {nk : NewK} (n : IsNew nk) (ha : QE X Wx a ma) (hb : QE X Wx b mb) : QE X Wx (.BinOp a .Add b pos) (mBin (fCat nk) ma mb) := qe_bin op_cat (fCat_ok n) ha hb
/-- xs * k -/
def fRep (nk : NewK) (w1 w2 : W) (S : So) (R : RK) : Prop := ∃ ds k, dref S w1 = some (.list ds) ∧ w2 = .p (.int k) ∧ -(2 ^ 63) ≤ k ∧ k < 2 ^ 63 ∧ nk (List.replicate k.toNat ds).flatten S R
theorem fRep_ok {K : PySem.W.Frag} {nk : NewK} (n : IsNew nk) : OpW K rRep (fRep nk) := fun G as S H w1 w2 v1 v2 R Q r h1 h2 h hR => by
  obtain ⟨ds, k, e1, rfl, k1, k2, q⟩ := h
  obtain ⟨a, xs, rfl, q1, q2⟩ := dref_list r h1 e1
  obtain ⟨hl, hn⟩ := n.ok r (q2.flat k.toNat) q hR
  rw [rel_int h2]
  refine ⟨a, k, xs, rfl, rfl, q1, k1, k2, ?_, hn⟩
  rw [q2.length]
  rw [List.length_flatten, List.map_replicate, List.sum_replicate_nat] at hl
  rw [Nat.mul_comm]
  exact small_line hl
theorem qe_rep {nk : NewK} (n : IsNew nk) (ha : QE X Wx a ma) (hb : QE X Wx b mb) : QE X Wx (.BinOp a .Mult b pos) (mBin (fRep nk) ma mb) := qe_bin op_rep (fRep_ok n) ha hb
/-! ### slices -/
def mNo : MO := fun _ S R _ => R none S
def intW : W → (Int → Prop) → Prop
  | .p (.int i), k => k i
  | _, _ => False
theorem intW_ok {K : PySem.W.Frag} {G : Hp} {as : List Addr} {w : W} {v : V} {k : Int → Prop} (h : RelW K G as w v) (t : intW w k) : ∃ i, v = .int i ∧ w = .p (.int i) ∧ k i := by
  cases w with
  | p d =>
    cases d with
    | int i => exact ⟨i, rel_int h, rfl, t⟩
    | _ => exact t.elim
  | _ => exact t.elim
def mPart (me : ME) : MO := fun ρ S R X => me ρ S (fun w S1 => intW w fun i => R (some i) S1) X
theorem qo_none : QO X Wx none mNo := po_none.weak fun σ H Q h => by
  obtain ⟨G, as, ρ, S, R, RX, hE, hS, hm, hR, hX⟩ := h
  exact hR none S G as none H hm Ext.refl hS rfl
theorem qo_some (he : QE X Wx e me) : QO X Wx (some e) (mPart me) := (po_some he).weak fun σ H Q h => by
  obtain ⟨G, as, ρ, S, R, RX, hE, hS, hm, hR, hX⟩ := h
  refine ⟨G, as, ρ, S, _, RX, hE, hS, hm, fun w S1 G1 as1 v H1 h1 e1 r1 rv => ?_, hX⟩
  obtain ⟨i, e2, _, h2⟩ := intW_ok rv h1
  exact ⟨i, e2, hR _ S1 G1 as1 _ H1 h2 e1 r1 rfl⟩
def cut {α : Type} (xs : List α) (lo hi : Option Int) : List α := (xs.drop (HT.sIx xs.length 0 lo)).take (HT.sIx xs.length xs.length hi - HT.sIx xs.length 0 lo)
def mSl (nk : NewK) (me : ME) (ml mh : MO) : ME := fun ρ S R X => me ρ S (fun w S1 => ml ρ S1 (fun lo S2 => mh ρ S2 (fun hi S3 => ∃ ds, rref S3 w = some (.list ds) ∧ nk (cut ds lo hi) S3 R) X) X) X
theorem qe_slice {nk : NewK} (n : IsNew nk) {lo hi : Option Expr} {ml mh : MO} {p2 : Pos} (he : QE X Wx e me) (hl : QO X Wx lo ml) (hh : QO X Wx hi mh) : QE X Wx (.Subscript e (.Slice lo hi none p2) pos) (mSl nk me ml mh) := (pe_slice sl_list he hl hh).weak fun σ H Q h => by
  obtain ⟨G, as, ρ, S, R, RX, hE, hS, hm, hR, hX⟩ := h
  refine ⟨G, as, ρ, S, _, RX, hE, hS, hm, fun w S1 G1 as1 v H1 h1 e1 r1 rv => ?_, hX⟩
  refine ⟨G1, as1, ρ, S1, _, RX, hE.ext e1, r1, h1, fun lo S2 G2 as2 lo' H2 h2 e2 r2 rl => ?_, fun C S' G' as' H' hx e r => hX C S' G' as' H' hx (e1.trans e) r⟩
  cases rl
  have e12 := e1.trans e2
  refine ⟨G2, as2, ρ, S2, _, RX, hE.ext e12, r2, h2, fun hi S3 G3 as3 hi' H3 h3 e3 r3 rh => ?_, fun C S' G' as' H' hx e r => hX C S' G' as' H' hx (e12.trans e) r⟩
  cases rh
  obtain ⟨ds, hd, h3⟩ := h3
  obtain ⟨a, xs, rfl, q2, q3⟩ := rref_list r3 ((rv.ext e2).ext e3) hd
  have q4 : DvL X.K G3 (cut ds lo hi) (cutV xs lo hi) := by
    unfold cut cutV
    rw [q3.length]
    exact (q3.drop _).take _
  exact ⟨a, xs, rfl, q2, (n.ok r3 q4 h3 fun w S' G' as' v H' hr e r rv => hR w S' G' as' v H' hr ((e12.trans e3).trans e) r rv).2⟩
end
end Fd
set_option maxRecDepth 100000
set_option maxHeartbeats 2000000
namespace Fd
open PySem PySem.Spec PyProof.Rows L2

theorem rels1 {K : PySem.W.Frag} {G : Hp} {as : List Addr} {w : W} {vs : List V} (r : RelWs K G as [w] vs) : ∃ v, vs = [v] ∧ RelW K G as w v := by
  cases r with
  | cons q r => cases r; exact ⟨_, rfl, q⟩
theorem rels2 {K : PySem.W.Frag} {G : Hp} {as : List Addr} {w u : W} {vs : List V} (r : RelWs K G as [w, u] vs) : ∃ v z, vs = [v, z] ∧ RelW K G as w v ∧ RelW K G as u z := by
  cases r with
  | cons q r =>
    obtain ⟨z, rfl, q2⟩ := rels1 r
    exact ⟨_, z, rfl, q, q2⟩
/-! ### len, abs, max, min, sum, all, any, int, list, tuple -/
def fLen (ws : List W) (S : So) (R : RK) : Prop := ∃ w ds, ws = [w] ∧ (rref S w = some (.list ds) ∨ rref S w = some (.tuple ds)) ∧ R (.p (.int ds.length)) S
def fAbs (ws : List W) (S : So) (R : RK) : Prop := ∃ i, ws = [.p (.int i)] ∧ R (.p (.int (if i < 0 then -i else i))) S
def fMax2 (ws : List W) (S : So) (R : RK) : Prop := ∃ i j, ws = [.p (.int i), .p (.int j)] ∧ R (.p (.int (max i j))) S
def fMin2 (ws : List W) (S : So) (R : RK) : Prop := ∃ i j, ws = [.p (.int i), .p (.int j)] ∧ R (.p (.int (min i j))) S
def fMaxL (ws : List W) (S : So) (R : RK) : Prop := ∃ w ns, ws = [w] ∧ rref S w = some (intsD ns) ∧ ns ≠ [] ∧ ∀ m, m ∈ ns → (∀ y, y ∈ ns → y ≤ m) → R (.p (.int m)) S
def fMinL (ws : List W) (S : So) (R : RK) : Prop := ∃ w ns, ws = [w] ∧ rref S w = some (intsD ns) ∧ ns ≠ [] ∧ ∀ m, m ∈ ns → (∀ y, y ∈ ns → m ≤ y) → R (.p (.int m)) S
def fSum (ws : List W) (S : So) (R : RK) : Prop := ∃ w ns, ws = [w] ∧ rref S w = some (intsD ns) ∧ R (.p (.int ns.sum)) S
abbrev boolsD (bs : List Bool) : PyData := .list (bs.map .bool)
def fAll (ws : List W) (S : So) (R : RK) : Prop := ∃ w bs, ws = [w] ∧ rref S w = some (boolsD bs) ∧ R (.p (.bool (bs.all id))) S
def fAny (ws : List W) (S : So) (R : RK) : Prop := ∃ w bs, ws = [w] ∧ rref S w = some (boolsD bs) ∧ R (.p (.bool (bs.any id))) S
/-- int(..) of a number or a truth -/
def asI : List W → Option Int
  | [.p (.int i)] => some i
  | [.p (.bool b)] => some (if b = true then 1 else 0)
  | _ => none
theorem asI_ex {ws : List W} {i : Int} (h : asI ws = some i) : ws = [.p (.int i)] ∨ ∃ b, ws = [.p (.bool b)] ∧ i = if b = true then 1 else 0 := by
  unfold asI at h
  split at h
  · cases h; exact .inl rfl
  · cases h; exact .inr ⟨_, rfl, rfl⟩
  · cases h
def fInt (ws : List W) (S : So) (R : RK) : Prop := ∃ i, asI ws = some i ∧ R (.p (.int i)) S
def fList (nk : NewK) (ws : List W) (S : So) (R : RK) : Prop := ∃ w ds, ws = [w] ∧ (rref S w = some (.list ds) ∨ rref S w = some (.tuple ds)) ∧ nk ds S R
def fTupL (ws : List W) (S : So) (R : RK) : Prop := ∃ w ds, ws = [w] ∧ rref S w = some (.list ds) ∧ R (.p (.tuple ds)) S
def fSortI (nk : NewK) (ws : List W) (S : So) (R : RK) : Prop := ∃ w ns, ws = [w] ∧ rref S w = some (intsD ns) ∧ ∀ ms : List Int, ms.Perm ns → ms.Pairwise (· ≤ ·) → nk (ms.map .int) S R
section
variable {X : Cx} {Wx : WX} {a b e : Expr} {es : List Expr} {ma : MA} {me : ME} {pos p : Pos} {K : PySem.W.Frag}
theorem fLen_ok : CallW K (fun xs H Q => ∃ p ys, xs = [.ref p] ∧ (SqL K H p ys ∨ SqT K H p ys) ∧ Q (.int ys.length) H) fLen := fun G as S H ws vs R Q r h1 h hR => by
  obtain ⟨w, ds, rfl, hd, q⟩ := h
  obtain ⟨v, rfl, rv⟩ := rels1 h1
  rcases hd with hd | hd
  · obtain ⟨a, xs, rfl, q2, q3⟩ := rref_list r rv hd
    refine ⟨a, xs, rfl, .inl q2, hR _ S G as _ H q Ext.refl r ?_⟩
    rw [q3.length]; exact .int _
  · obtain ⟨a, xs, rfl, q2, _, q3⟩ := rref_tup r rv hd
    refine ⟨a, xs, rfl, .inr q2, hR _ S G as _ H q Ext.refl r ?_⟩
    rw [q3.length]; exact .int _
theorem qe_len (hm : X.mg "len" = none) (ha : QA X Wx [a] ma) (hg : Gl X "len" := by rfl) (he : starEach [a] X.env = (false, eval a X.env) :: starEach [] X.env := by rfl) : QE X Wx (.Call (.Name "len" p) [a] [] pos) (mCB fLen ma) := qe_callB call_len_seq fLen_ok hm boot_len ha hg (by decide) (by decide) he
theorem qe_abs (hm : X.mg "abs" = none) (ha : QA X Wx [a] ma) (hg : Gl X "abs" := by rfl) (he : starEach [a] X.env = (false, eval a X.env) :: starEach [] X.env := by rfl) : QE X Wx (.Call (.Name "abs" p) [a] [] pos) (mCB fAbs ma) := qe_callB call_abs (fun G as S H ws vs R Q r h1 h hR => by
  obtain ⟨i, rfl, q⟩ := h
  obtain ⟨v, rfl, rv⟩ := rels1 h1
  rw [rel_int rv]
  exact ⟨i, rfl, hR _ S G as _ H q Ext.refl r (.int _)⟩) hm (by decide +kernel) ha hg (by decide) (by decide) he
theorem max_if (i j : Int) : (if j > i then j else i) = max i j := by omega
theorem min_if (i j : Int) : (if j < i then j else i) = min i j := by omega
theorem qe_max2 (hc : X.calm = true) (hm : X.mg "max" = none) (ha : QA X Wx [a, b] ma) (hg : Gl X "max" := by rfl) (he : starEach [a, b] X.env = (false, eval a X.env) :: starEach [b] X.env := by rfl) (hpl : (backTo pos (starEach [b] X.env)).any (·.1) = false := by rfl) : QE X Wx (.Call (.Name "max" p) [a, b] [] pos) (mCB fMax2 ma) := qe_callB (call_max2 hc) (fun G as S H ws vs R Q r h1 h hR => by
  obtain ⟨i, j, rfl, q⟩ := h
  obtain ⟨v, u, rfl, rv, ru⟩ := rels2 h1
  rw [rel_int rv, rel_int ru]
  refine ⟨i, j, rfl, ?_⟩
  rw [max_if]
  exact hR _ S G as _ H q Ext.refl r (.int _)) hm (by decide +kernel) ha hg (by decide) (by decide) he hpl
theorem qe_min2 (hc : X.calm = true) (hm : X.mg "min" = none) (ha : QA X Wx [a, b] ma) (hg : Gl X "min" := by rfl) (he : starEach [a, b] X.env = (false, eval a X.env) :: starEach [b] X.env := by rfl) (hpl : (backTo pos (starEach [b] X.env)).any (·.1) = false := by rfl) : QE X Wx (.Call (.Name "min" p) [a, b] [] pos) (mCB fMin2 ma) := qe_callB (call_min2 hc) (fun G as S H ws vs R Q r h1 h hR => by
  obtain ⟨i, j, rfl, q⟩ := h
  obtain ⟨v, u, rfl, rv, ru⟩ := rels2 h1
  rw [rel_int rv, rel_int ru]
  refine ⟨i, j, rfl, ?_⟩
  rw [min_if]
  exact hR _ S G as _ H q Ext.refl r (.int _)) hm (by decide +kernel) ha hg (by decide) (by decide) he hpl
theorem ints_arg {G : Hp} {as : List Addr} {S : So} {H : Hp} {w : W} {v : V} {ns : List Int} (r : RepS K G as S H) (rv : RelW K G as w v) (hd : rref S w = some (intsD ns)) : ∃ a, v = .ref a ∧ SqL K H a (ns.map V.int) := by
  obtain ⟨a, xs, rfl, q2, q3⟩ := rref_list r rv hd
  have e := DvL.ints q3
  subst e
  exact ⟨a, rfl, q2⟩
theorem qe_maxL (hc : X.calm = true) (hm : X.mg "max" = none) (ha : QA X Wx [a] ma) (hg : Gl X "max" := by rfl) (he : starEach [a] X.env = (false, eval a X.env) :: starEach [] X.env := by rfl) : QE X Wx (.Call (.Name "max" p) [a] [] pos) (mCB fMaxL ma) := qe_callB (cr_max hc) (fun G as S H ws vs R Q r h1 h hR => by
  obtain ⟨w, ns, rfl, hd, hne, q⟩ := h
  obtain ⟨v, rfl, rv⟩ := rels1 h1
  obtain ⟨a, rfl, q2⟩ := ints_arg r rv hd
  exact ⟨a, ns, rfl, q2, List.length_pos_iff.mpr hne, fun m h3 h4 => hR _ S G as _ H (q m h3 h4) Ext.refl r (.int _)⟩) hm (by decide +kernel) ha hg (by decide) (by decide) he
theorem qe_minL (hc : X.calm = true) (hm : X.mg "min" = none) (ha : QA X Wx [a] ma) (hg : Gl X "min" := by rfl) (he : starEach [a] X.env = (false, eval a X.env) :: starEach [] X.env := by rfl) : QE X Wx (.Call (.Name "min" p) [a] [] pos) (mCB fMinL ma) := qe_callB (cr_min hc) (fun G as S H ws vs R Q r h1 h hR => by
  obtain ⟨w, ns, rfl, hd, hne, q⟩ := h
  obtain ⟨v, rfl, rv⟩ := rels1 h1
  obtain ⟨a, rfl, q2⟩ := ints_arg r rv hd
  exact ⟨a, ns, rfl, q2, List.length_pos_iff.mpr hne, fun m h3 h4 => hR _ S G as _ H (q m h3 h4) Ext.refl r (.int _)⟩) hm (by decide +kernel) ha hg (by decide) (by decide) he
theorem qe_sum (hc : X.calm = true) (hm : X.mg "sum" = none) (ha : QA X Wx [a] ma) (hg : Gl X "sum" := by rfl) (he : starEach [a] X.env = (false, eval a X.env) :: starEach [] X.env := by rfl) : QE X Wx (.Call (.Name "sum" p) [a] [] pos) (mCB fSum ma) := qe_callB (cr_sum hc) (fun G as S H ws vs R Q r h1 h hR => by
  obtain ⟨w, ns, rfl, hd, q⟩ := h
  obtain ⟨v, rfl, rv⟩ := rels1 h1
  obtain ⟨a, rfl, q2⟩ := ints_arg r rv hd
  exact ⟨a, ns, rfl, q2, hR _ S G as _ H q Ext.refl r (.int _)⟩) hm (by decide +kernel) ha hg (by decide) (by decide) he
theorem bools_arg {G : Hp} {as : List Addr} {S : So} {H : Hp} {w : W} {v : V} {ns : List Bool} (r : RepS K G as S H) (rv : RelW K G as w v) (hd : rref S w = some (boolsD ns)) : ∃ a, v = .ref a ∧ SqL K H a (ns.map V.bl) := by
  obtain ⟨a, xs, rfl, q2, q3⟩ := rref_list r rv hd
  have e := DvL.bools q3
  subst e
  exact ⟨a, rfl, q2⟩
theorem qe_all (hc : X.calm = true) (hm : X.mg "all" = none) (ha : QA X Wx [a] ma) (hg : Gl X "all" := by rfl) (he : starEach [a] X.env = (false, eval a X.env) :: starEach [] X.env := by rfl) : QE X Wx (.Call (.Name "all" p) [a] [] pos) (mCB fAll ma) := qe_callB (cr_all hc) (fun G as S H ws vs R Q r h1 h hR => by
  obtain ⟨w, ns, rfl, hd, q⟩ := h
  obtain ⟨v, rfl, rv⟩ := rels1 h1
  obtain ⟨a, rfl, q2⟩ := bools_arg r rv hd
  exact ⟨a, ns, rfl, q2, hR _ S G as _ H q Ext.refl r (.bl _)⟩) hm (by decide +kernel) ha hg (by decide) (by decide) he
theorem qe_any (hc : X.calm = true) (hm : X.mg "any" = none) (ha : QA X Wx [a] ma) (hg : Gl X "any" := by rfl) (he : starEach [a] X.env = (false, eval a X.env) :: starEach [] X.env := by rfl) : QE X Wx (.Call (.Name "any" p) [a] [] pos) (mCB fAny ma) := qe_callB (cr_any hc) (fun G as S H ws vs R Q r h1 h hR => by
  obtain ⟨w, ns, rfl, hd, q⟩ := h
  obtain ⟨v, rfl, rv⟩ := rels1 h1
  obtain ⟨a, rfl, q2⟩ := bools_arg r rv hd
  exact ⟨a, ns, rfl, q2, hR _ S G as _ H q Ext.refl r (.bl _)⟩) hm (by decide +kernel) ha hg (by decide) (by decide) he
theorem qe_intC (hm : X.mg "int" = none) (ha : QA X Wx [a] ma) (hg : Gl X "int" := by rfl) (he : starEach [a] X.env = (false, eval a X.env) :: starEach [] X.env := by rfl) : QE X Wx (.Call (.Name "int" p) [a] [] pos) (mCB fInt ma) := qe_callTy call_int1 (fun G as S H ws vs R Q r h1 h hR => by
  obtain ⟨i, e, q⟩ := h
  rcases asI_ex e with rfl | ⟨b, rfl, rfl⟩
  · obtain ⟨v, rfl, rv⟩ := rels1 h1
    rw [rel_int rv]
    exact .inl ⟨i, rfl, hR _ S G as _ H q Ext.refl r (.int _)⟩
  · obtain ⟨v, rfl, rv⟩ := rels1 h1
    rw [rel_bool rv]
    exact .inr ⟨b, rfl, hR _ S G as _ H q Ext.refl r (.int _)⟩) hm (by decide +kernel) ha hg (by decide) (by decide) he
theorem qe_listC {nk : NewK} (n : IsNew nk) (hm : X.mg "list" = none) (ha : QA X Wx [a] ma) (hg : Gl X "list" := by rfl) (he : starEach [a] X.env = (false, eval a X.env) :: starEach [] X.env := by rfl) : QE X Wx (.Call (.Name "list" p) [a] [] pos) (mCB (fList nk) ma) := qe_callTy call_list_of (fun G as S H ws vs R Q r h1 h hR => by
  obtain ⟨w, ds, rfl, hd, q⟩ := h
  obtain ⟨v, rfl, rv⟩ := rels1 h1
  rcases hd with hd | hd
  · obtain ⟨a, xs, rfl, q2, q3⟩ := rref_list r rv hd
    exact ⟨a, xs, rfl, .inl q2, (n.ok r q3 q hR).2⟩
  · obtain ⟨a, xs, rfl, q2, _, q3⟩ := rref_tup r rv hd
    exact ⟨a, xs, rfl, .inr q2, (n.ok r q3 q hR).2⟩) hm (by decide +kernel) ha hg (by decide) (by decide) he
theorem qe_tupC (hm : X.mg "tuple" = none) (ha : QA X Wx [a] ma) (hg : Gl X "tuple" := by rfl) (he : starEach [a] X.env = (false, eval a X.env) :: starEach [] X.env := by rfl) : QE X Wx (.Call (.Name "tuple" p) [a] [] pos) (mCB fTupL ma) := qe_callTy call_tuple_of (fun G as S H ws vs R Q r h1 h hR => by
  obtain ⟨w, ds, rfl, hd, q⟩ := h
  obtain ⟨v, rfl, rv⟩ := rels1 h1
  obtain ⟨a, xs, rfl, q2, q3⟩ := rref_list r rv hd
  refine ⟨a, xs, rfl, .inl ⟨q2, fun l hl => ?_⟩⟩
  obtain ⟨r2, e2, _⟩ := r.laid (o := .tup xs) hl
  exact hR _ S _ as _ _ q e2 r2 (.tup (SqT.of upd_same) (q3.mono e2.g))) hm (by decide +kernel) ha hg (by decide) (by decide) he
theorem qe_sortedI {nk : NewK} (n : IsNew nk) (hm : X.mg "sorted" = none) (ha : QA X Wx [a] ma) (hg : Gl X "sorted" := by rfl) (he : starEach [a] X.env = (false, eval a X.env) :: starEach [] X.env := by rfl) : QE X Wx (.Call (.Name "sorted" p) [a] [] pos) (mCB (fSortI nk) ma) := qe_callB cr_sortedI (fun G as S H ws vs R Q r h1 h hR => by
  obtain ⟨w, ns, rfl, hd, q⟩ := h
  obtain ⟨v, rfl, rv⟩ := rels1 h1
  obtain ⟨a, rfl, q2⟩ := ints_arg r rv hd
  exact ⟨a, ns, rfl, q2, fun ms p hp hs np => (n.ok r (DvL.ofInts ms) (q ms hp hs) hR).2 p np⟩) hm (by decide +kernel) ha hg (by decide) (by decide) he
/-! ### list(range(..)) -/
def rangeI (i j : Int) : List Int := (List.range (j - i).toNat).map fun k => i + (k : Nat)
theorem rgV_ints (i j : Int) : rgV i j = (rangeI i j).map V.int := by
  unfold rgV rangeI
  rw [List.map_map]; rfl
def rangeOk (i j : Int) : Prop := -1000000 ≤ i ∧ i ≤ 1000000 ∧ -1000000 ≤ j ∧ j ≤ 1000000 ∧ (j - i).toNat ≤ small
theorem rangeOk.rg {i j : Int} (h : rangeOk i j) : RgOk i j := by
  obtain ⟨h1, h2, h3, h4, h5⟩ := h
  refine ⟨?_, ?_, ?_, ?_, Nat.le_trans h5 (by decide)⟩ <;> omega
def mLrg1 (nk : NewK) (ma : ME) : ME := fun ρ S R X => ma ρ S (fun w S1 => intW w fun n => rangeOk 0 n ∧ nk ((rangeI 0 n).map .int) S1 R) X
def mLrg2 (nk : NewK) (ma mb : ME) : ME := fun ρ S R X => ma ρ S (fun w S1 => mb ρ S1 (fun u S2 => intW w fun i => intW u fun j => rangeOk i j ∧ nk ((rangeI i j).map .int) S2 R) X) X
theorem rg_fin {G : Hp} {as : List Addr} {S : So} {H : Hp} {nk : NewK} {R : RK} {Q : VK} {i j : Int} (n : IsNew nk) (r : RepS K G as S H) (h : rangeOk i j ∧ nk ((rangeI i j).map .int) S R)
    (hR : ∀ w S' G' as' v H', R w S' → Ext G as H G' as' H' → RepS K G' as' S' H' → RelW K G' as' w v → Q v H') : RgOk i j ∧ ∀ q, H q = none → Q (.ref q) (upd H q (.lst (rgV i j))) := by
  rw [rgV_ints]
  exact ⟨h.1.rg, (n.ok r (DvL.ofInts _) h.2 hR).2⟩
theorem qe_listRg1 {p2 pos2 : Pos} {nk : NewK} (n : IsNew nk) (hc : X.calm = true) (hm : X.mg "list" = none) (hm2 : X.mg "range" = none) (ha : QE X Wx a me) (hg : Gl X "list" := by rfl) (hg2 : Gl X "range" := by rfl)
    (na : starEach [a] X.env = (false, eval a X.env) :: starEach [] X.env := by rfl) (na2 : starEach [.Call (.Name "range" p2) [a] [] pos2] X.env = (false, eval (.Call (.Name "range" p2) [a] [] pos2) X.env) :: starEach [] X.env := by rfl) :
    QE X Wx (.Call (.Name "list" p) [.Call (.Name "range" p2) [a] [] pos2] [] pos) (mLrg1 nk me) := (pe_listRg hc hg hm (prg_1 hg2 hm2 ha na) na2).weak fun σ H Q h => by
  obtain ⟨G, as, ρ, S, R, RX, hE, hS, hm, hR, hX⟩ := h
  refine ⟨G, as, ρ, S, _, RX, hE, hS, hm, fun w S1 G1 as1 v H1 h1 e1 r1 rv => ?_, hX⟩
  obtain ⟨i, e2, _, h2⟩ := intW_ok rv h1
  exact ⟨i, e2, rg_fin n r1 h2 fun w S' G' as' v H' hr e r rv => hR w S' G' as' v H' hr (e1.trans e) r rv⟩
theorem qe_listRg2 {mb : ME} {p2 pos2 : Pos} {nk : NewK} (n : IsNew nk) (hc : X.calm = true) (hm : X.mg "list" = none) (hm2 : X.mg "range" = none) (ha : QE X Wx a me) (hb : QE X Wx b mb) (hg : Gl X "list" := by rfl) (hg2 : Gl X "range" := by rfl)
    (na : starEach [a, b] X.env = (false, eval a X.env) :: starEach [b] X.env := by rfl) (nb : starEach [b] X.env = (false, eval b X.env) :: starEach [] X.env := by rfl) (hp : (backTo pos2 (starEach [b] X.env)).any (·.1) = false := by rfl)
    (na2 : starEach [.Call (.Name "range" p2) [a, b] [] pos2] X.env = (false, eval (.Call (.Name "range" p2) [a, b] [] pos2) X.env) :: starEach [] X.env := by rfl) :
    QE X Wx (.Call (.Name "list" p) [.Call (.Name "range" p2) [a, b] [] pos2] [] pos) (mLrg2 nk me mb) := (pe_listRg hc hg hm (prg_2 hg2 hm2 ha hb na nb hp) na2).weak fun σ H Q h => by
  obtain ⟨G, as, ρ, S, R, RX, hE, hS, hm, hR, hX⟩ := h
  refine ⟨G, as, ρ, S, _, RX, hE, hS, hm, fun w S1 G1 as1 v H1 h1 e1 r1 rv => ?_, hX⟩
  refine ⟨G1, as1, ρ, S1, _, RX, hE.ext e1, r1, h1, fun u S2 G2 as2 v2 H2 h2 e2 r2 ru => ?_, fun C S' G' as' H' hx e r => hX C S' G' as' H' hx (e1.trans e) r⟩
  obtain ⟨i, f1, _, h3⟩ := intW_ok (rv.ext e2) h2
  obtain ⟨j, f2, _, h4⟩ := intW_ok ru h3
  exact ⟨i, j, f1, f2, rg_fin n r2 h4 fun w S' G' as' v H' hr e r rv => hR w S' G' as' v H' hr ((e1.trans e2).trans e) r rv⟩
/-! ### isinstance of data with a built-in class -/
def tyD : PyData → String
  | .none => "NoneType"
  | .bool _ => "bool"
  | .int _ => "int"
  | .str _ => "str"
  | .list _ => "list"
  | .tuple _ => "tuple"
  | .dict _ => "dict"
theorem Dv.ty {H : Hp} {d : PyData} {v : V} (h : Dv K H d v) : TyX K H v (.type (tyD d)) := by
  cases h with
  | non => exact .base .non
  | bl b => exact .base (.bl b)
  | int i => exact .base (.int i)
  | str x => exact .base (.str x)
  | lst q _ => exact .base (.lst q)
  | tup q _ =>
    rcases q with (q | ⟨o, q⟩) | ⟨o, its, n, q, c, _⟩
    · exact .base (.tup q)
    · exact .fTuple q
    · exact .kTuple q c
  | dic q _ => exact .base (.dK q)
def isIntD : PyData → Bool
  | .int _ => true
  | .bool _ => true
  | _ => false
def isBoolD : PyData → Bool
  | .bool _ => true
  | _ => false
def isListD : PyData → Bool
  | .list _ => true
  | _ => false
def isTupD : PyData → Bool
  | .tuple _ => true
  | _ => false
def isStrD : PyData → Bool
  | .str _ => true
  | _ => false
theorem kit_int (d : PyData) : kitB (tyD d) "int" = some (isIntD d) := by cases d <;> (dsimp only [tyD, isIntD]; decide +kernel)
theorem kit_bool (d : PyData) : kitB (tyD d) "bool" = some (isBoolD d) := by cases d <;> (dsimp only [tyD, isBoolD]; decide +kernel)
theorem kit_list (d : PyData) : kitB (tyD d) "list" = some (isListD d) := by cases d <;> (dsimp only [tyD, isListD]; decide +kernel)
theorem kit_tup (d : PyData) : kitB (tyD d) "tuple" = some (isTupD d) := by cases d <;> (dsimp only [tyD, isTupD]; decide +kernel)
theorem kit_str (d : PyData) : kitB (tyD d) "str" = some (isStrD d) := by cases d <;> (dsimp only [tyD, isStrD]; decide +kernel)
def mIs (g : PyData → Bool) (me : ME) : ME := fun ρ S R X => me ρ S (fun w S1 => ∃ d, dref S1 w = some d ∧ R (.p (.bool (g d))) S1) X
theorem qe_is {T : String} {x : Str} {px : Pos} {g : PyData → Bool} (hk : ∀ d, kitB (tyD d) T = some (g d)) (hv : bootBuiltins x = some (.type T)) (hm : X.mg "isinstance" = none) (hmx : X.mg x = none) (ha : QE X Wx a me) (hg : Gl X "isinstance" := by rfl) (hgx : Gl X x := by rfl)
    (hn : x ≠ "__name__" := by decide) (hd : (x == ("__debug__" : Str)) = false := by decide)
    (h1 : starEach [a, .Name x px] X.env = (false, eval a X.env) :: starEach [.Name x px] X.env := by rfl) (h2 : starEach [.Name x px] X.env = (false, eval (.Name x px) X.env) :: starEach [] X.env := by rfl) (hpl : (backTo pos (starEach [.Name x px] X.env)).any (·.1) = false := by rfl) :
    QE X Wx (.Call (.Name "isinstance" p) [a, .Name x px] [] pos) (mIs g me) :=
  (pe_callB call_isi hg hm (by decide +kernel) (pa_cons ha (pa_cons (pe_bltn (v := .ty T) hgx hmx hv rfl hn hd) pa_nil h2) h1) (by decide) (by decide) h1 hpl).weak fun σ H Q h => by
  obtain ⟨G, as, ρ, S, R, RX, hE, hS, hm, hR, hX⟩ := h
  refine ⟨G, as, ρ, S, _, RX, hE, hS, hm, fun w S1 G1 as1 v H1 h1 e1 r1 rv => ?_, hX⟩
  obtain ⟨d, hd, h2⟩ := h1
  exact ⟨v, .ty T, .type (tyD d), .type T, g d, rfl, .ty T, (dref_ok r1 rv hd).ty, kit_ty (hk d), hR _ S1 G1 as1 _ H1 h2 e1 r1 (.bl _)⟩
/-! ### methods of lists -/
def fApp (w : W) (ws : List W) (S : So) (R : RK) : Prop := ∃ k ds d, w = .c k ∧ ws = [.p d] ∧ S[k]? = some (.l ds) ∧ ds.length < small ∧ R (.p .none) (S.set k (.l (ds ++ [d])))
theorem qe_append {o e : Expr} {apos : Pos} {mo : ME} {ma : MA} (ho : QE X Wx o mo) (ha : QA X Wx [e] ma)
    (hbase : attributeBase o "append" X.env (eval o X.env) = eval o X.env := by rfl)
    (hfew : ((backTo pos (starEach [e] X.env)).all (fun x => !x.1) && (backToKw pos (keywordEach [] X.env)).all (fun x => x.1.isSome)
      && decide ([e].length + ([] : List Keyword).length + (if ([] : List Keyword).isEmpty then 0 else 1) < 30)) = true := by rfl)
    (hline : (apos.endLine == pos.line) = true := by rfl) (hs : starEach [e] X.env = (false, eval e X.env) :: starEach [] X.env := by rfl) :
    QE X Wx (.Call (.Attribute o "append" apos) [e] [] pos) (mBM fApp mo ma) := qe_bmL PySem.F.slot_list_append PySem.F.type_list_append mt_append (fun G as S H w1 v1 ws vs R Q r h1 h2 h hR => by
  obtain ⟨k, ds, d, rfl, rfl, hk, hl, q⟩ := h
  obtain ⟨a, ha, rfl⟩ := h1
  obtain ⟨v, rfl, rv⟩ := rels1 h2
  obtain ⟨o, e1, ⟨xs, rfl, e2⟩, _⟩ := r.cell k a _ ha hk
  obtain ⟨r2, x2⟩ := r.write (c' := .l (ds ++ [d])) (o := .lst (xs ++ [v])) ha hk (fun z => by cases z) ⟨_, rfl, e2.append (.cons rv .nil)⟩
  exact ⟨a, xs, v, rfl, rfl, e1, by rw [e2.length]; exact Nat.lt_of_lt_of_le hl (by decide), hR _ _ _ _ _ _ q x2 r2 .non⟩) ho ha hbase hfew hline hs
def fPopAt (w : W) (ws : List W) (S : So) (R : RK) : Prop := ∃ k ds i d, w = .c k ∧ ws = [.p (.int i)] ∧ S[k]? = some (.l ds) ∧ 0 ≤ i ∧ i < 1000000 ∧ ds[i.toNat]? = some d ∧ R (.p d) (S.set k (.l (ds.eraseIdx i.toNat)))
theorem seqIx {i : Int} {n : Nat} (h0 : 0 ≤ i) (h : i.toNat < n) : seqIndex? i n = some i.toNat := by
  have q : ixN n i = some i.toNat := by
    unfold ixN
    rw [if_pos h0, if_pos (by omega)]
  exact (ixN_seq q).1
theorem qe_popAt {o e : Expr} {apos : Pos} {mo : ME} {ma : MA} (ho : QE X Wx o mo) (ha : QA X Wx [e] ma)
    (hbase : attributeBase o "pop" X.env (eval o X.env) = eval o X.env := by rfl)
    (hfew : ((backTo pos (starEach [e] X.env)).all (fun x => !x.1) && (backToKw pos (keywordEach [] X.env)).all (fun x => x.1.isSome)
      && decide ([e].length + ([] : List Keyword).length + (if ([] : List Keyword).isEmpty then 0 else 1) < 30)) = true := by rfl)
    (hline : (apos.endLine == pos.line) = true := by rfl) (hs : starEach [e] X.env = (false, eval e X.env) :: starEach [] X.env := by rfl) :
    QE X Wx (.Call (.Attribute o "pop" apos) [e] [] pos) (mBM fPopAt mo ma) := qe_bmL PySem.F.slot_list_pop PySem.F.type_list_pop mt_popAt (fun G as S H w1 v1 ws vs R Q r h1 h2 h hR => by
  obtain ⟨k, ds, i, d, rfl, rfl, hk, h0, hl, hd, q⟩ := h
  obtain ⟨a, ha, rfl⟩ := h1
  obtain ⟨v, rfl, rv⟩ := rels1 h2
  rw [rel_int rv]
  obtain ⟨o, e1, ⟨xs, rfl, e2⟩, _⟩ := r.cell k a _ ha hk
  obtain ⟨y, hy, ry⟩ := e2.get hd
  obtain ⟨r2, x2⟩ := r.write (c' := .l (ds.eraseIdx i.toNat)) (o := .lst (xs.eraseIdx i.toNat)) ha hk (fun z => by cases z) ⟨_, rfl, e2.erase _⟩
  exact ⟨a, xs, i, i.toNat, y, rfl, rfl, e1, by omega, by omega, seqIx h0 (List.getElem?_eq_some_iff.mp hy).1, hy, hR _ _ _ _ _ _ q x2 r2 ry⟩) ho ha hbase hfew hline hs
def fExt (w : W) (ws : List W) (S : So) (R : RK) : Prop := ∃ k u ds es, w = .c k ∧ ws = [u] ∧ S[k]? = some (.l ds) ∧ dref S u = some (.list es) ∧ (ds ++ es).length ≤ small ∧ R (.p .none) (S.set k (.l (ds ++ es)))
theorem fExt_dv {G : Hp} {as : List Addr} {S : So} {H : Hp} {w : W} {v : V} {ds : List PyData} (r : RepS K G as S H) (h : RelW K G as w v) (e : dref S w = some (.list ds)) : ∃ a xs, v = .ref a ∧ H a = some (.lst xs) ∧ DvL K G ds xs := dref_list r h e
theorem qe_extend {o e : Expr} {apos : Pos} {mo : ME} {ma : MA} (ho : QE X Wx o mo) (ha : QA X Wx [e] ma)
    (hbase : attributeBase o "extend" X.env (eval o X.env) = eval o X.env := by rfl)
    (hfew : ((backTo pos (starEach [e] X.env)).all (fun x => !x.1) && (backToKw pos (keywordEach [] X.env)).all (fun x => x.1.isSome)
      && decide ([e].length + ([] : List Keyword).length + (if ([] : List Keyword).isEmpty then 0 else 1) < 30)) = true := by rfl)
    (hline : (apos.endLine == pos.line) = true := by rfl) (hs : starEach [e] X.env = (false, eval e X.env) :: starEach [] X.env := by rfl) :
    QE X Wx (.Call (.Attribute o "extend" apos) [e] [] pos) (mBM fExt mo ma) := qe_bmL PySem.F.slot_list_extend PySem.F.type_list_extend mt_extend (fun G as S H w1 v1 ws vs R Q r h1 h2 h hR => by
  obtain ⟨k, u, ds, es, rfl, rfl, hk, hd, hl, q⟩ := h
  obtain ⟨a, ha, rfl⟩ := h1
  obtain ⟨v, rfl, rv⟩ := rels1 h2
  obtain ⟨o, e1, ⟨xs, rfl, e2⟩, _⟩ := r.cell k a _ ha hk
  obtain ⟨b, ys, rfl, q3, q4⟩ := dref_list r rv hd
  obtain ⟨r2, x2⟩ := r.write (c' := .l (ds ++ es)) (o := .lst (xs ++ ys)) ha hk (fun z => by cases z) ⟨_, rfl, e2.append q4⟩
  exact ⟨a, b, xs, ys, rfl, rfl, e1, q3, by rw [e2.length, q4.length, ← List.length_append]; exact small_line hl, hR _ _ _ _ _ _ q x2 r2 .non⟩) ho ha hbase hfew hline hs
/-- xs.index(i) of whole numbers -/
def fIdxI (w : W) (ws : List W) (S : So) (R : RK) : Prop := ∃ ns i, rref S w = some (intsD ns) ∧ ws = [.p (.int i)] ∧ i ∈ ns ∧ R (.p (.int (ns.idxOf i))) S
theorem idx_at {ns : List Int} {i : Int} (h : i ∈ ns) : ns[ns.idxOf i]? = some i := by
  have := List.idxOf_lt_length_of_mem h
  rw [List.getElem?_eq_getElem this, List.getElem_idxOf]
theorem idx_before {ns : List Int} {i : Int} {m : Nat} {z : Int} (h : m < ns.idxOf i) (e : ns[m]? = some z) : z ≠ i := by
  intro q
  subst q
  obtain ⟨hm, e2⟩ := List.getElem?_eq_some_iff.mp e
  have := List.not_of_lt_findIdx (show m < ns.findIdx (· == z) from h)
  rw [e2] at this
  simp at this
theorem qe_idxI {o e : Expr} {apos : Pos} {mo : ME} {ma : MA} (ho : QE X Wx o mo) (ha : QA X Wx [e] ma)
    (hbase : attributeBase o "index" X.env (eval o X.env) = eval o X.env := by rfl)
    (hfew : ((backTo pos (starEach [e] X.env)).all (fun x => !x.1) && (backToKw pos (keywordEach [] X.env)).all (fun x => x.1.isSome)
      && decide ([e].length + ([] : List Keyword).length + (if ([] : List Keyword).isEmpty then 0 else 1) < 30)) = true := by rfl)
    (hline : (apos.endLine == pos.line) = true := by rfl) (hs : starEach [e] X.env = (false, eval e X.env) :: starEach [] X.env := by rfl) :
    QE X Wx (.Call (.Attribute o "index" apos) [e] [] pos) (mBM fIdxI mo ma) := qe_bmL PySem.F.slot_list_index PySem.F.type_list_index mt_index (fun G as S H w1 v1 ws vs R Q r h1 h2 h hR => by
  obtain ⟨ns, i, hd, rfl, hi, q⟩ := h
  obtain ⟨a, rfl, q2⟩ := ints_arg r h1 hd
  obtain ⟨v, rfl, rv⟩ := rels1 h2
  rw [rel_int rv]
  refine ⟨a, ns.map V.int, .int i, ns.idxOf i, .int i, rfl, rfl, q2, rfl, flat_ints ns, by rw [List.getElem?_map, idx_at hi]; rfl, by rw [eqV_int]; simp, fun m z hm hz => ?_, hR _ S G as _ H q Ext.refl r (.int _)⟩
  rw [List.getElem?_map] at hz
  cases e : ns[m]? with
  | none => rw [e] at hz; cases hz
  | some y =>
    rw [e] at hz
    cases hz
    rw [eqV_int]
    exact decide_eq_false (idx_before hm e)) ho ha hbase hfew hline hs
end
end Fd
set_option maxRecDepth 100000
set_option maxHeartbeats 2000000
namespace Fd
open PySem PySem.Spec PyProof.Rows L2

/-! ### targets -/
abbrev MG := W → En → (En → Prop) → Prop
structure GOk (K : PySem.W.Frag) (t : TG) (g : MG) : Prop where
  run : ∀ (G : Hp) (as : List Addr) (ρ : En) (σ : L2.St) (S : So) (H : Hp) (w : W) (v : V) (k : En → Prop) (Q : L2.St → Hp → Prop), RepE K G as ρ σ → RepS K G as S H → RelW K G as w v → g w ρ k → (∀ ρ' σ', RepE K G as ρ' σ' → k ρ' → Q σ' H) → t v σ H Q
structure QG (X : Cx) (tg : Expr) (t : TG) (g : MG) : Prop where
  pg : PG X tg t
  ok : GOk X.K t g
def mgN (i : Nat) : MG := fun w ρ k => k (ρ.set i (some w))
def setAll (ρ : En) : List Nat → List PyData → En
  | i :: is, d :: ds => setAll (ρ.set i (some (.p d))) is ds
  | _, _ => ρ
def mgT (is : List Nat) : MG := fun w ρ k => match w with
  | .p (.tuple ds) => ds.length = is.length ∧ k (setAll ρ is ds)
  | _ => False
def gNames (K : PySem.W.Frag) (n : Nat) : List Nat → TGs
  | [] => gNil
  | i :: is => gCons (gName i) (gNames K n is)
theorem gNames_ok {K : PySem.W.Frag} {n : Nat} {G : Hp} {as : List Addr} {H : Hp} {k : En → Prop} {Q : L2.St → Hp → Prop} (hQ : ∀ ρ' σ', RepE K G as ρ' σ' → k ρ' → Q σ' H) :
    ∀ (is : List Nat) (ds : List PyData) (xs : List V) (ρ : En) (σ : L2.St), RepE K G as ρ σ → DvL K G ds xs → ds.length = is.length → k (setAll ρ is ds) → gNames K n is xs σ H Q
  | [], [], _, ρ, σ, hE, h, _, hk => by cases h; exact ⟨rfl, hQ ρ σ hE hk⟩
  | i :: is, d :: ds, _, ρ, σ, hE, h, hl, hk => by
    cases h with
    | cons q r => exact ⟨_, _, rfl, gNames_ok hQ is ds _ _ _ (hE.set (w := .p d) q) r (Nat.succ.inj hl) hk⟩
  | [], d :: ds, _, _, _, _, _, hl, _ => by cases hl
  | i :: is, [], _, _, _, _, _, hl, _ => by cases hl
section
variable {X : Cx} {Wx : WX} {pos : Pos}
theorem qg_name (i : Nat) {x : Str} (hN : X.N.Nodup) (hi : X.N[i]? = some x := by rfl) (hx : Loc X.env.scope x := by first | exact Or.inl rfl | exact Or.inr rfl) (hf : X.fn x = true ∨ X.env.scope.names.lookup x = some .local := by first | exact .inl rfl | exact .inr rfl) : QG X (.Name x pos) (gName i) (mgN i) :=
  ⟨pg_name hN hi hx hf, ⟨fun G as ρ σ S H w v k Q hE hS rv h hQ => hQ _ _ (hE.set rv) h⟩⟩
theorem gTup_ok {K : PySem.W.Frag} {n : Nat} (is : List Nat) (hn : is.length = n) : GOk K (gTup K n (gNames K n is)) (mgT is) := ⟨fun G as ρ σ S H w v k Q hE hS rv h hQ => by
  unfold mgT at h
  split at h
  · rename_i ds
    obtain ⟨hl, h⟩ := h
    have rv' : Dv K G (.tuple ds) v := rv
    cases rv' with
    | tup q r => exact ⟨_, _, rfl, same_t hS.sub q, by rw [r.length, hl, hn], gNames_ok hQ is ds _ ρ σ hE r hl h⟩
  · exact h.elim⟩
/-- the names of a tuple target, by slots -/
theorem pgs_names0 {K : PySem.W.Frag} {n : Nat} : PGs X [] (gNames K n []) := pgs_nil
theorem qgs_cons {K : PySem.W.Frag} {n : Nat} {e : Expr} {es : List Expr} {i : Nat} {is : List Nat} {g : MG} (h1 : QG X e (gName i) g) (h2 : PGs X es (gNames K n is))
    (hs : (assignEach (e :: es) X.env).map (·.2) = assign e X.env :: (assignEach es X.env).map (·.2) := by rfl) : PGs X (e :: es) (gNames K n (i :: is)) := pgs_cons h1.pg h2 hs
theorem qg_tup {es : List Expr} {k : Nat} {is : List Nat} (hc : X.calm = true) (h : PGs X es (gNames X.K is.length is)) (hn : (assignEach es X.env).length = is.length := by rfl) (hst : (assignEach es X.env).findIdx? (·.1) = none := by rfl) : QG X (.Tuple es k pos) (gTup X.K is.length (gNames X.K is.length is)) (mgT is) :=
  ⟨pg_tup hc h hn hst, gTup_ok is rfl⟩

/-! ### small statements -/
def exOf (B : MEnds) (ρ : En) : RX := fun C S => B.ex C ρ S
def mSet (i : Nat) (me : ME) : MS := fun B ρ S => me ρ S (fun w S1 => B.nx (ρ.set i (some w)) S1) (exOf B ρ)
def mAsg (me : ME) (g : MG) : MS := fun B ρ S => me ρ S (fun w S1 => g w ρ fun ρ' => B.nx ρ' S1) (exOf B ρ)
def mPar (i j : Nat) (ma : MA) : MS := fun B ρ S => ma ρ S (fun ws S1 => ∃ w u, ws = [w, u] ∧ B.nx ((ρ.set i (some w)).set j (some u)) S1) (exOf B ρ)
def mNext : MS := fun B ρ S => B.nx ρ S
def mSeq (m n : MS) : MS := fun B ρ S => m { B with nx := fun ρ' S' => n B ρ' S' } ρ S
def mDrop (me : ME) : MS := fun B ρ S => me ρ S (fun _ S1 => B.nx ρ S1) (exOf B ρ)
def mRet (me : ME) : MS := fun B ρ S => me ρ S B.rt (exOf B ρ)
def mRetN : MS := fun B _ S => B.rt (.p .none) S
def mIfS (t : MT) (m n : MS) : MS := fun B ρ S => t ρ S (fun b S1 => if b = true then m B ρ S1 else n B ρ S1) (exOf B ρ)
def mBrk : MS := fun B ρ S => B.bk ρ S
def mCnt : MS := fun B ρ S => B.ct ρ S
def mRaise (C : Addr) : MS := fun B ρ S => B.ex C ρ S
def mNever : MS := fun _ _ _ => False
/-- the slots at is are forgotten -/
def wipeE (ρ : En) : List Nat → En
  | [] => ρ
  | i :: is => (wipeE ρ is).set i none
theorem wipeE_len (ρ : En) : ∀ is, (wipeE ρ is).length = ρ.length
  | [] => rfl
  | i :: is => by show ((wipeE ρ is).set i none).length = _; rw [List.length_set, wipeE_len ρ is]
theorem wipeE_get {ρ : En} {j : Nat} {w : W} : ∀ {is : List Nat}, (wipeE ρ is)[j]? = some (some w) → ρ[j]? = some (some w)
  | [], h => h
  | i :: is, h => by
    have h' : ((wipeE ρ is).set i none)[j]? = some (some w) := h
    by_cases hi : i = j
    · subst hi
      by_cases hl : i < (wipeE ρ is).length
      · rw [List.getElem?_set_self hl] at h'; cases h'
      · rw [List.getElem?_eq_none (by simpa using hl)] at h'; cases h'
    · rw [List.getElem?_set_ne hi] at h'
      exact wipeE_get h'
section
variable {K : PySem.W.Frag} {G : Hp} {as : List Addr} {S : So} {H : Hp} {ρ : En} {σ : L2.St} {B : MEnds} {D : Ends}
theorem exc_ok (hE : RepE K G as ρ σ) (hD : EndsOk K Wx G as H B D) : ∀ C S' G' as' H', exOf B ρ C S' → Ext G as H G' as' H' → RepS K G' as' S' H' → Wx (.ref C) none σ H' :=
  fun C S' G' as' H' hx e r => hD.ex C ρ S' G' as' σ H' hx e (hE.ext e) r
end
theorem qss_nil : QSs X Wx [] mNext := pss_nil.weak fun D σ H h => by
  obtain ⟨G, as, ρ, S, B, hE, hS, hm, hD⟩ := h
  exact hD.nx ρ S G as σ H hm Ext.refl hE hS
variable {st : Stmt} {rest : List Stmt} {m n : MS} {e : Expr} {me : ME}
theorem qss_cons (h1 : QS X Wx st m) (h2 : QSs X Wx rest n) : QSs X Wx (st :: rest) (mSeq m n) := (pss_cons h1 h2).weak fun D σ H h => by
  obtain ⟨G, as, ρ, S, B, hE, hS, hm, hD⟩ := h
  refine ⟨G, as, ρ, S, { B with nx := fun ρ' S' => n B ρ' S' }, hE, hS, hm, ⟨fun ρ' S' G' as' σ' H' b x rE rS => ?_, hD.rt, hD.bk, hD.ct, hD.ex⟩⟩
  exact ⟨G', as', ρ', S', B, rE, rS, b, hD.ext x⟩
theorem qss_one (h1 : QS X Wx st m) : QSs X Wx [st] m := (pss_one h1).weak fun D σ H h => h
theorem qs_pass : QS X Wx (.Pass pos) mNext := ps_pass.weak fun D σ H h => by
  obtain ⟨G, as, ρ, S, B, hE, hS, hm, hD⟩ := h
  exact hD.nx ρ S G as σ H hm Ext.refl hE hS
theorem qs_break : QS X Wx (.Break pos) mBrk := ps_break.weak fun D σ H h => by
  obtain ⟨G, as, ρ, S, B, hE, hS, hm, hD⟩ := h
  exact hD.bk ρ S G as σ H hm Ext.refl hE hS
theorem qs_set (i : Nat) {x : Str} {pos' : Pos} (hN : X.N.Nodup) (he : QE X Wx e me) (hi : X.N[i]? = some x := by rfl) (hx : Loc X.env.scope x := by first | exact Or.inl rfl | exact Or.inr rfl)
    (hs : swapsWith e (some (.Name x pos')) pos.line X.env = pure false := by rfl) (hf : X.fn x = true ∨ X.env.scope.names.lookup x = some .local := by first | exact .inl rfl | exact .inr rfl) :
    QS X Wx (.Assign [.Name x pos'] e pos) (mSet i me) := (ps_set hN hi hx he hs hf).weak fun D σ H h => by
  obtain ⟨G, as, ρ, S, B, hE, hS, hm, hD⟩ := h
  exact ⟨G, as, ρ, S, _, exOf B ρ, hE, hS, hm, fun w S1 G1 as1 v H1 h1 e1 r1 rv => hD.nx _ S1 G1 as1 _ H1 h1 e1 ((hE.ext e1).set rv) r1, exc_ok hE hD⟩
theorem qs_asg {tg : Expr} {t : TG} {g : MG} (he : QE X Wx e me) (hg : QG X tg t g) (hs : swapsWithSole [tg] e pos.line X.env = pure false := by rfl) (hw : swappedStores [tg] e X.env = pure none := by rfl)
    (h1 : (assignEach [tg] X.env).map (·.2) = [assign tg X.env] := by rfl) : QS X Wx (.Assign [tg] e pos) (mAsg me g) := (ps_asg he hg.pg hs hw h1).weak fun D σ H h => by
  obtain ⟨G, as, ρ, S, B, hE, hS, hm, hD⟩ := h
  refine ⟨G, as, ρ, S, _, exOf B ρ, hE, hS, hm, fun w S1 G1 as1 v H1 h1 e1 r1 rv => ?_, exc_ok hE hD⟩
  exact hg.ok.run G1 as1 ρ σ S1 H1 w v _ _ (hE.ext e1) r1 rv h1 fun ρ' σ' rE hk => hD.nx ρ' S1 G1 as1 σ' H1 hk e1 rE r1
theorem qs_par (i j : Nat) {x y : Str} {a b : Expr} {ma : MA} {px py pt : Pos} {kt k2 pt2} (hc : X.calm = true) (hN : X.N.Nodup) (ha : QA X Wx [a, b] ma) (hi : X.N[i]? = some x := by rfl) (hj : X.N[j]? = some y := by rfl) (hij : i ≠ j := by decide)
    (hx : X.env.scope.names.lookup x = some .local := by rfl) (hy : X.env.scope.names.lookup y = some .local := by rfl)
    (hw : swappedStores [.Tuple [.Name x px, .Name y py] kt pt] (.Tuple [a, b] k2 pt2) X.env = pure (some [x, y]) := by rfl)
    (hs : swapsWithSole [.Tuple [.Name x px, .Name y py] kt pt] (.Tuple [a, b] k2 pt2) pos.line X.env = pure false := by rfl) :
    QS X Wx (.Assign [.Tuple [.Name x px, .Name y py] kt pt] (.Tuple [a, b] k2 pt2) pos) (mPar i j ma) := (ps_par hc hN hi hj hij hx hy ha hw hs).weak fun D σ H h => by
  obtain ⟨G, as, ρ, S, B, hE, hS, hm, hD⟩ := h
  refine ⟨G, as, ρ, S, _, exOf B ρ, hE, hS, hm, fun ws S1 G1 as1 vs H1 h1 e1 r1 rv => ?_, exc_ok hE hD⟩
  obtain ⟨w, u, rfl, h1⟩ := h1
  obtain ⟨v, z, rfl, r2, r3⟩ := rels2 rv
  exact ⟨v, z, rfl, hD.nx _ S1 G1 as1 _ H1 h1 e1 (((hE.ext e1).set r2).set r3) r1⟩
theorem qs_expr (he : QE X Wx e me) (hs : swapsWith e none pos.line X.env = pure false := by rfl) : QS X Wx (.Expr e pos) (mDrop me) := (ps_expr he hs).weak fun D σ H h => by
  obtain ⟨G, as, ρ, S, B, hE, hS, hm, hD⟩ := h
  exact ⟨G, as, ρ, S, _, exOf B ρ, hE, hS, hm, fun w S1 G1 as1 v H1 h1 e1 r1 rv => hD.nx ρ S1 G1 as1 σ H1 h1 e1 (hE.ext e1) r1, exc_ok hE hD⟩
theorem qs_ret (he : QE X Wx e me) : QS X Wx (.Return (some e) pos) (mRet me) := (ps_ret he).weak fun D σ H h => by
  obtain ⟨G, as, ρ, S, B, hE, hS, hm, hD⟩ := h
  exact ⟨G, as, ρ, S, _, exOf B ρ, hE, hS, hm, fun w S1 G1 as1 v H1 h1 e1 r1 rv => hD.rt w S1 G1 as1 v H1 h1 e1 r1 rv, exc_ok hE hD⟩
theorem qs_retN : QS X Wx (.Return none pos) mRetN := ps_retN.weak fun D σ H h => by
  obtain ⟨G, as, ρ, S, B, hE, hS, hm, hD⟩ := h
  exact hD.rt _ S G as _ H hm Ext.refl hS Dv.non
theorem qs_if {c : Expr} {a b : List Stmt} {t : MT} (hc : QT X Wx c t) (ha : QSs X Wx a m) (hb : QSs X Wx b n) : QS X Wx (.If c a b pos) (mIfS t m n) := (ps_if hc ha hb).weak fun D σ H h => by
  obtain ⟨G, as, ρ, S, B, hE, hS, hm, hD⟩ := h
  refine ⟨G, as, ρ, S, _, exOf B ρ, hE, hS, hm, fun c S1 G1 as1 c' H1 h1 e1 r1 rv => ?_, exc_ok hE hD⟩
  cases rv
  cases c with
  | true => exact ⟨G1, as1, ρ, S1, B, hE.ext e1, r1, h1, hD.ext e1⟩
  | false => exact ⟨G1, as1, ρ, S1, B, hE.ext e1, r1, h1, hD.ext e1⟩
/-- raise C('..'), C an own class -/
theorem qs_raise {x msg : Str} {j : Nat} {p p2 pos2 : Pos} {C : Addr} (hc : X.calm = true) (tk : Takes X Wx) (q : PySem.W.excIn X.K C He.veBase "ValueError.__new__" = true) (gC : X.mg x = some (.ref C)) (kC : PySem.W.keepIn X.K (.ref C) = true) (r : Raises X (.ref C)) (hg : Gl X x := by rfl) (hdb : (x == ("__debug__" : Str)) = false := by decide) :
    QS X Wx (.Raise (some (.Call (.Name x p) [.Constant (.str msg) j p2] [] pos)) none pos2) (mRaise C) := (ps_raise hc tk (pmk_own PySem.F.excBase_ValueError q gC kC r hg hdb)).weak fun D σ H h => by
  obtain ⟨G, as, ρ, S, B, hE, hS, hm, hD⟩ := h
  exact hD.ex C ρ S G as σ H hm Ext.refl hE hS
/-- x += e, whole numbers -/
def mAugI (i : Nat) (g : Int → Int → Int) (me : ME) : MS := fun B ρ S => getW ρ i fun w => me ρ S (fun u S1 => intW w fun a => intW u fun b => B.nx (ρ.set i (some (.p (.int (g a b))))) S1) (exOf B ρ)
theorem qs_augI (i : Nat) {x : Str} {op : Operator} {g : Int → Int → Int} {pos' : Pos} (hN : X.N.Nodup) (he : QE X Wx e me) (ho : PIp X op (ipI g)) (hi : X.N[i]? = some x := by rfl) (hx : Loc X.env.scope x := by first | exact Or.inl rfl | exact Or.inr rfl) (hf : X.fn x = true ∨ X.env.scope.names.lookup x = some .local := by first | exact .inl rfl | exact .inr rfl) :
    QS X Wx (.AugAssign (.Name x pos') op e pos) (mAugI i g me) := (ps_aug hN hi hx he ho hf).weak fun D σ H h => by
  obtain ⟨G, as, ρ, S, B, hE, hS, hm, hD⟩ := h
  unfold mAugI getW at hm
  split at hm
  · rename_i w ew
    obtain ⟨v, ev, rv⟩ := hE.get i w ew
    refine ⟨v, ev, G, as, ρ, S, _, exOf B ρ, hE, hS, hm, fun u S1 G1 as1 z H1 h1 e1 r1 rz => ?_, exc_ok hE hD⟩
    obtain ⟨a, f1, _, h2⟩ := intW_ok (rv.ext e1) h1
    obtain ⟨b, f2, _, h3⟩ := intW_ok rz h2
    exact ⟨a, b, f1, f2, hD.nx _ S1 G1 as1 _ H1 h3 e1 ((hE.ext e1).set (w := .p (.int (g a b))) (Dv.int _)) r1⟩
  · exact hm.elim
/-- xs[i] = e, xs an own cell -/
def mSetIx (me mo mi : ME) : MS := fun B ρ S => me ρ S (fun w S1 => mo ρ S1 (fun o S2 => mi ρ S2 (fun u S3 => ∃ k ds j d i, o = .c k ∧ S3[k]? = some (.l ds) ∧ u = .p (.int i) ∧ ixN ds.length i = some j ∧ w = .p d ∧ B.nx ρ (S3.set k (.l (ds.set j d)))) (exOf B ρ)) (exOf B ρ)) (exOf B ρ)
theorem qs_setIx {o i : Expr} {mo mi : ME} {px : Pos} (he : QE X Wx e me) (ho : QE X Wx o mo) (hi : QE X Wx i mi) (hs : swapsWithSole [.Subscript o i px] e pos.line X.env = pure false := by rfl) (hw : swappedStores [.Subscript o i px] e X.env = pure none := by rfl)
    (h1 : (assignEach [.Subscript o i px] X.env).map (·.2) = [assign (.Subscript o i px) X.env] := by rfl)
    (ha : ∀ v, assign (.Subscript o i px) X.env v = (do
      let ov ← holding [v] (eval o X.env)
      let iv ← holding [v, ov] (eval i X.env)
      standAt px
      holding [v, ov, iv] (setItem ov iv v)
      release [v, ov, iv] []) := by intro _; rfl) : QS X Wx (.Assign [.Subscript o i px] e pos) (mSetIx me mo mi) := (ps_asg he (pg_sub ho hi set_list ha) hs hw h1).weak fun D σ H h => by
  obtain ⟨G, as, ρ, S, B, hE, hS, hm, hD⟩ := h
  refine ⟨G, as, ρ, S, _, exOf B ρ, hE, hS, hm, fun w S1 G1 as1 v H1 h1 e1 r1 rv => ?_, exc_ok hE hD⟩
  refine ⟨G1, as1, ρ, S1, _, exOf B ρ, hE.ext e1, r1, h1, fun o S2 G2 as2 vo H2 h2 e2 r2 ro => ?_, exc_ok (hE.ext e1) (hD.ext e1)⟩
  have e12 := e1.trans e2
  refine ⟨G2, as2, ρ, S2, _, exOf B ρ, hE.ext e12, r2, h2, fun u S3 G3 as3 vu H3 h3 e3 r3 ru => ?_, exc_ok (hE.ext e12) (hD.ext e12)⟩
  have e13 := e12.trans e3
  obtain ⟨k, ds, j, d, i, rfl, hk, rfl, hj, rfl, h4⟩ := h3
  obtain ⟨a, ha, rfl⟩ := ro.ext e3
  obtain ⟨ob, f1, ⟨xs, rfl, f2⟩, _⟩ := r3.cell k a _ ha hk
  have rd : Dv X.K G3 d v := (rv.ext e2).ext e3
  obtain ⟨r4, x4⟩ := r3.write (c' := .l (ds.set j d)) (o := .lst (xs.set j v)) ha hk (fun z => by cases z) ⟨_, rfl, f2.set rd j⟩
  exact ⟨a, xs, i, j, rfl, rel_int ru, f1, by rw [f2.length]; exact hj, hD.nx ρ _ G3 as3 σ _ h4 (e13.trans x4) (hE.ext (e13.trans x4)) r4⟩

/-! ### steps of the proof alone -/
/-- slots are forgotten; a cell of data becomes data -/
def mWipe (is : List Nat) (m : MS) : MS := fun B ρ S => m B (wipeE ρ is) S
theorem qs_wipe (is : List Nat) (h : QS X Wx st m) : QS X Wx st (mWipe is m) := PS.weak h fun D σ H h => by
  obtain ⟨G, as, ρ, S, B, hE, hS, hm, hD⟩ := h
  exact ⟨G, as, wipeE ρ is, S, B, hE.weak (wipeE_len ρ is) fun i w e => wipeE_get e, hS, hm, hD⟩
theorem qss_wipe (is : List Nat) (h : QSs X Wx rest m) : QSs X Wx rest (mWipe is m) := PSs.weak h fun D σ H h => by
  obtain ⟨G, as, ρ, S, B, hE, hS, hm, hD⟩ := h
  exact ⟨G, as, wipeE ρ is, S, B, hE.weak (wipeE_len ρ is) fun i w e => wipeE_get e, hS, hm, hD⟩
def mFrz (i : Nat) (m : MS) : MS := fun B ρ S => ∃ k ds, ρ[i]? = some (some (.c k)) ∧ S[k]? = some (.l ds) ∧ m B (ρ.set i (some (.p (.list ds)))) (S.set k .dead)
theorem frz_ok {K : PySem.W.Frag} {i : Nat} {D : Ends} {σ : L2.St} {H : Hp} (h : LiftS K Wx (mFrz i m) D σ H) : LiftS K Wx m D σ H := by
  obtain ⟨G, as, ρ, S, B, hE, hS, hm, hD⟩ := h
  obtain ⟨k, ds, h1, h2, h3⟩ := hm
  obtain ⟨v, e1, a, ha, rfl⟩ := hE.get i _ h1
  obtain ⟨xs, f1, r2, x2, dv⟩ := hS.freeze ha h2
  refine ⟨_, as, _, _, B, ?_, r2, h3, hD.ext x2⟩
  have hE2 := hE.ext x2
  refine ⟨by simpa using hE2.len, fun j w e => ?_⟩
  by_cases hj : i = j
  · subst hj
    rw [List.getElem?_set_self (List.getElem?_eq_some_iff.mp h1).1] at e
    have e' : W.p (.list ds) = w := Option.some.inj (Option.some.inj e)
    subst e'
    exact ⟨_, e1, dv⟩
  · rw [List.getElem?_set_ne hj] at e
    exact hE2.get j w e
theorem qs_frz (i : Nat) (h : QS X Wx st m) : QS X Wx st (mFrz i m) := PS.weak h fun D σ H h => frz_ok h
theorem qss_frz (i : Nat) (h : QSs X Wx rest m) : QSs X Wx rest (mFrz i m) := PSs.weak h fun D σ H h => frz_ok h
/-- what follows is shown once, from M -/
def mCut (m n : MS) : MS := fun B ρ S => ∃ M : En → So → Prop, m { B with nx := M } ρ S ∧ ∀ ρ' S', M ρ' S' → n B ρ' S'
theorem qss_cut (h1 : QS X Wx st m) (h2 : QSs X Wx rest n) : QSs X Wx (st :: rest) (mCut m n) := (pss_cons h1 h2).weak fun D σ H h => by
  obtain ⟨G, as, ρ, S, B, hE, hS, ⟨M, hm, hn⟩, hD⟩ := h
  refine ⟨G, as, ρ, S, { B with nx := M }, hE, hS, hm, ⟨fun ρ' S' G' as' σ' H' b x rE rS => ?_, hD.rt, hD.bk, hD.ct, hD.ex⟩⟩
  exact ⟨G', as', ρ', S', B, rE, rS, hn ρ' S' b, hD.ext x⟩

/-! ### what is walked -/
abbrev MI := En → So → (List W → (So → Prop) → So → Prop) → RX → Prop
/-- the state stands later on, the stores as gd says -/
def Later (K : PySem.W.Frag) (G : Hp) (as : List Addr) (gd : So → Prop) (G2 : Hp) (as2 : List Addr) (H : Hp) : Prop := Same G G2 ∧ (∃ bs, as2 = as ++ bs) ∧ ∃ S2, RepS K G2 as2 S2 H ∧ gd S2
structure WalkD (K : PySem.W.Frag) (G : Hp) (as : List Addr) (items : List W) (gd : So → Prop) (J : It) : Prop where
  go : ∀ i H G2 as2, i < items.length → Later K G as gd G2 as2 H → J.go i H
  stop : ∀ H G2 as2, Later K G as gd G2 as2 H → J.stop items.length H
  yld : ∀ i H v H' G2 as2, i < items.length → Later K G as gd G2 as2 H → J.yld i H v H' → ∃ it G3, items[i]? = some it ∧ Same G2 G3 ∧ Same G3 H' ∧ Same H H' ∧ (∀ b o, H b = some o → G2 b = none → G3 b = none) ∧ RelW K G3 as2 it v
theorem WalkD.walk {K : PySem.W.Frag} {G : Hp} {as : List Addr} {items : List W} {gd : So → Prop} {J : It} (w : WalkD K G as items gd J) : Walk J items.length (fun H => ∃ G2 as2, Later K G as gd G2 as2 H) (fun i H x H' => J.yld i H x H') :=
  ⟨fun i H hi ⟨G2, as2, l⟩ => w.go i H G2 as2 hi l, fun H ⟨G2, as2, l⟩ => w.stop H G2 as2 l, fun _ _ _ _ _ _ y => y⟩
def LiftI (K : PySem.W.Frag) (Wx : WX) (mi : MI) : TI := fun σ H R => ∃ (G : Hp) (as : List Addr) (ρ : En) (S : So) (Rm : List W → (So → Prop) → So → Prop) (RX : RX), RepE K G as ρ σ ∧ RepS K G as S H ∧ mi ρ S Rm RX ∧
  (∀ items gd S' G' as' H' J, Rm items gd S' → Ext G as H G' as' H' → RepS K G' as' S' H' → WalkD K G' as' items gd J → R J H') ∧ (∀ C S' G' as' H', RX C S' → Ext G as H G' as' H' → RepS K G' as' S' H' → Wx (.ref C) none σ H')
def QI (X : Cx) (Wx : WX) (tg iter : Expr) (mi : MI) : Prop := PI X tg iter (LiftI X.K Wx mi)
theorem _root_.L2.PI.weak {tg iter : Expr} {t t' : TI} (h : PI X tg iter t) (w : ∀ σ H Q, t' σ H Q → t σ H Q) : PI X tg iter t' := ⟨fun pins s σ H R I q => h.run pins s σ H R I (w σ H R q)⟩
end
section
variable {K : PySem.W.Frag} {G : Hp} {as : List Addr}
/-- a list that stands, as its data, whenever gd holds of the store -/
def Live (K : PySem.W.Frag) (G : Hp) (as : List Addr) (gd : So → Prop) (a : Addr) (ds : List PyData) : Prop := ∀ G2 as2 H, Later K G as gd G2 as2 H → ∃ xs, SqL K H a xs ∧ DvL K G2 ds xs
theorem walkD_list {a : Addr} {ds : List PyData} {gd : So → Prop} (h : Live K G as gd a ds) : WalkD K G as (ds.map .p) gd (Itl K a) where
  go := fun i H G2 as2 hi l => by
    obtain ⟨xs, q, dv⟩ := h G2 as2 H l
    exact walk_list.goes i H (by rw [dv.length]; simpa using hi) q
  stop := fun H G2 as2 l => by
    obtain ⟨xs, q, dv⟩ := h G2 as2 H l
    have := walk_list.stops H q
    rw [dv.length] at this
    rw [List.length_map]; exact this
  yld := fun i H v H' G2 as2 hi l y => by
    obtain ⟨xs, q, dv⟩ := h G2 as2 H l
    obtain ⟨rfl, e⟩ := walk_list.yields i H v H' (by rw [dv.length]; simpa using hi) q y
    obtain ⟨_, _, S2, r2, _⟩ := l
    obtain ⟨d, hd, rd⟩ := dv.getV e
    exact ⟨.p d, G2, by rw [List.getElem?_map, hd]; rfl, Same.refl _, r2.sub, Same.refl _, fun _ _ _ g => g, rd⟩
theorem walkD_tup {a : Addr} {xs : List V} {ds : List PyData} (h : SqT K G a xs) (dv : DvL K G ds xs) : WalkD K G as (ds.map .p) (fun _ => True) (Itt K a) where
  go := fun i H G2 as2 hi l => by
    obtain ⟨s1, _, S2, r2, _⟩ := l
    exact walk_tup.goes i H (by rw [dv.length]; simpa using hi) (same_t (s1.trans r2.sub) h)
  stop := fun H G2 as2 l => by
    obtain ⟨s1, _, S2, r2, _⟩ := l
    have := walk_tup.stops H (same_t (s1.trans r2.sub) h)
    rw [dv.length] at this
    rw [List.length_map]; exact this
  yld := fun i H v H' G2 as2 hi l y => by
    obtain ⟨s1, _, S2, r2, _⟩ := l
    obtain ⟨rfl, e⟩ := walk_tup.yields i H v H' (by rw [dv.length]; simpa using hi) (same_t (s1.trans r2.sub) h) y
    obtain ⟨d, hd, rd⟩ := dv.getV e
    exact ⟨.p d, G2, by rw [List.getElem?_map, hd]; rfl, Same.refl _, r2.sub, Same.refl _, fun _ _ _ g => g, Dv.mono s1 d rd⟩
def rangeW (lo : Int) (n : Nat) : List W := (List.range n).map fun k => .p (.int (lo + (k : Nat)))
theorem rangeW_get {lo : Int} {n i : Nat} (h : i < n) : (rangeW lo n)[i]? = some (.p (.int (lo + (i : Nat)))) := by
  unfold rangeW
  rw [List.getElem?_map, List.getElem?_range h]; rfl
theorem rangeW_len (lo : Int) (n : Nat) : (rangeW lo n).length = n := by unfold rangeW; rw [List.length_map, List.length_range]
theorem walkD_range (lo : Int) (n : Nat) : WalkD K G as (rangeW lo n) (fun _ => True) (Itr lo n) where
  go := fun i H G2 as2 hi l => by rw [rangeW_len] at hi; exact hi
  stop := fun H G2 as2 l => by rw [rangeW_len]; exact Nat.le_refl n
  yld := fun i H v H' G2 as2 hi l y => by
    obtain ⟨rfl, rfl⟩ := y
    obtain ⟨_, _, S2, r2, _⟩ := l
    rw [rangeW_len] at hi
    exact ⟨_, G2, rangeW_get hi, Same.refl _, r2.sub, Same.refl _, fun _ _ _ g => g, Dv.int _⟩
theorem pair_new {H : Hp} {T : Addr} {x y : V} {G2 : Hp} {d e : PyData} (s2 : Same G2 H) (hT : H T = none) (r1 : Dv K G2 d x) (r2 : Dv K G2 e y) :
    ∃ G3, Same G2 G3 ∧ Same G3 (upd H T (.tup [x, y])) ∧ Same H (upd H T (.tup [x, y])) ∧ (∀ b o, H b = some o → G2 b = none → G3 b = none) ∧ RelW K G3 as (.p (.tuple [d, e])) (.ref T) := by
  have gT := s2.free hT
  have sG : Same G2 (upd G2 T (.tup [x, y])) := fun b u z => by rw [upd_ne (ne_of_none z gT)]; exact z
  refine ⟨upd G2 T (.tup [x, y]), sG, fun b u z => ?_, fun b u z => by rw [upd_ne (ne_of_none z hT)]; exact z, fun b u z g => by rw [upd_ne (ne_of_none z hT)]; exact g, ?_⟩
  · by_cases hb : b = T
    · subst hb; rw [upd_same] at z ⊢; exact z
    · rw [upd_ne hb] at z ⊢; exact s2 b u z
  · exact Dv.tup (SqT.of upd_same) (.cons (Dv.mono sG _ r1) (.cons (Dv.mono sG _ r2) .nil))
def zipW (ds es : List PyData) : List W := (ds.zip es).map fun p => .p (.tuple [p.1, p.2])
def enumW (ds : List PyData) : List W := ds.mapIdx fun i d => .p (.tuple [.int (i : Nat), d])
theorem zipW_len (ds es : List PyData) : (zipW ds es).length = min ds.length es.length := by unfold zipW; rw [List.length_map, List.length_zip]
theorem zipW_get {ds es : List PyData} {i : Nat} {d e : PyData} (h1 : ds[i]? = some d) (h2 : es[i]? = some e) : (zipW ds es)[i]? = some (.p (.tuple [d, e])) := by
  unfold zipW
  rw [List.getElem?_map, (List.getElem?_zip_eq_some (z := (d, e))).mpr ⟨h1, h2⟩]; rfl
theorem walkD_zip {a b : Addr} {ds es : List PyData} {g1 g2 : So → Prop} (h1 : Live K G as g1 a ds) (h2 : Live K G as g2 b es) : WalkD K G as (zipW ds es) (fun S => g1 S ∧ g2 S) (Itz K a b) where
  go := fun i H G2 as2 hi ⟨s1, p, S2, r2, q1, q2⟩ => by
    obtain ⟨xs, x1, dx⟩ := h1 G2 as2 H ⟨s1, p, S2, r2, q1⟩
    obtain ⟨ys, y1, dy⟩ := h2 G2 as2 H ⟨s1, p, S2, r2, q2⟩
    rw [zipW_len] at hi
    exact (walk_zip (xs := xs) (ys := ys) rfl).goes i H (by rw [dx.length, dy.length]; exact hi) ⟨x1, y1⟩
  stop := fun H G2 as2 ⟨s1, p, S2, r2, q1, q2⟩ => by
    obtain ⟨xs, x1, dx⟩ := h1 G2 as2 H ⟨s1, p, S2, r2, q1⟩
    obtain ⟨ys, y1, dy⟩ := h2 G2 as2 H ⟨s1, p, S2, r2, q2⟩
    have := (walk_zip (xs := xs) (ys := ys) rfl).stops H ⟨x1, y1⟩
    rw [dx.length, dy.length] at this
    rw [zipW_len]; exact this
  yld := fun i H v H' G2 as2 hi ⟨s1, p, S2, r2, q1, q2⟩ y => by
    obtain ⟨xs, x1, dx⟩ := h1 G2 as2 H ⟨s1, p, S2, r2, q1⟩
    obtain ⟨ys, y1, dy⟩ := h2 G2 as2 H ⟨s1, p, S2, r2, q2⟩
    rw [zipW_len] at hi
    obtain ⟨T, x, z, rfl, hT, rfl, e1, e2⟩ := (walk_zip (xs := xs) (ys := ys) rfl).yields i H v H' (by rw [dx.length, dy.length]; exact hi) ⟨x1, y1⟩ y
    obtain ⟨d, hd, rd⟩ := dx.getV e1
    obtain ⟨e, he, re⟩ := dy.getV e2
    obtain ⟨G3, f1, f2, f3, f4, f5⟩ := pair_new (as := as2) r2.sub hT rd re
    exact ⟨_, G3, zipW_get hd he, f1, f2, f3, f4, f5⟩
theorem walkD_enum {a : Addr} {ds : List PyData} {gd : So → Prop} (h : Live K G as gd a ds) : WalkD K G as (enumW ds) gd (Ite K a) where
  go := fun i H G2 as2 hi l => by
    obtain ⟨xs, q, dv⟩ := h G2 as2 H l
    exact walk_enum.goes i H (by rw [dv.length]; simpa [enumW] using hi) q
  stop := fun H G2 as2 l => by
    obtain ⟨xs, q, dv⟩ := h G2 as2 H l
    have := walk_enum.stops H q
    rw [dv.length] at this
    unfold enumW
    rw [List.length_mapIdx]; exact this
  yld := fun i H v H' G2 as2 hi l y => by
    obtain ⟨xs, q, dv⟩ := h G2 as2 H l
    obtain ⟨T, x, z, rfl, hT, rfl, e1, e2⟩ := walk_enum.yields i H v H' (by rw [dv.length]; simpa [enumW] using hi) q y
    obtain ⟨_, _, S2, r2, _⟩ := l
    cases e1
    obtain ⟨d, hd, rd⟩ := dv.getV e2
    obtain ⟨G3, f1, f2, f3, f4, f5⟩ := pair_new (as := as2) (d := .int (i : Nat)) r2.sub hT (Dv.int _) rd
    exact ⟨_, G3, by unfold enumW; rw [List.getElem?_mapIdx, hd]; rfl, f1, f2, f3, f4, f5⟩
end
/-- a list to be walked: its data, what the store must keep -/
def itD (S : So) : W → Option (List PyData × (So → Prop))
  | .p (.list ds) => some (ds, fun _ => True)
  | .s ds => some (ds, fun _ => True)
  | .c k => match S[k]? with
    | some (.l ds) => some (ds, fun S' => S'[k]? = some (.l ds))
    | _ => none
  | _ => none
theorem itD_ok {K : PySem.W.Frag} {G : Hp} {as : List Addr} {S : So} {H : Hp} {w : W} {v : V} {ds : List PyData} {gd : So → Prop} (r : RepS K G as S H) (h : RelW K G as w v) (e : itD S w = some (ds, gd)) : gd S ∧ ∃ a, v = .ref a ∧ Live K G as gd a ds := by
  have std : ∀ {a : Addr} {xs : List V}, SqL K G a xs → DvL K G ds xs → Live K G as (fun _ => True) a ds := fun q dv G2 as2 H2 ⟨s1, _, S2, r2, _⟩ => ⟨_, (s1.trans r2.sub).seq q, dv.mono s1⟩
  have e0 : itD S w = some (ds, gd) := e
  match w, h, e with
  | .p (.list es), h, e =>
    have e' : some (es, fun _ : So => True) = some (ds, gd) := e
    cases e'
    have h' : Dv K G (.list ds) v := h
    cases h' with
    | lst q dv => exact ⟨trivial, _, rfl, std (SqL.of q) dv⟩
  | .s es, h, e =>
    have e' : some (es, fun _ : So => True) = some (ds, gd) := e
    cases e'
    obtain ⟨a, xs, rfl, q, dv⟩ := h
    exact ⟨trivial, a, rfl, std q dv⟩
  | .c k, h, e =>
    obtain ⟨a, ha, rfl⟩ := h
    have e' : (match S[k]? with | some (.l ds) => some (ds, fun S' : So => S'[k]? = some (Cell.l ds)) | _ => none) = some (ds, gd) := e
    cases hk : S[k]? with
    | none => rw [hk] at e'; cases e'
    | some c =>
      rw [hk] at e'
      cases c with
      | l es =>
        have e2 : some (es, fun S' : So => S'[k]? = some (Cell.l es)) = some (ds, gd) := e'
        cases e2
        refine ⟨hk, a, rfl, fun G2 as2 H2 ⟨s1, ⟨bs, hb⟩, S2, r2, g2⟩ => ?_⟩
        have ha2 : as2[k]? = some a := by rw [hb, List.getElem?_append_left (List.getElem?_eq_some_iff.mp ha).1]; exact ha
        obtain ⟨o, f1, ⟨xs, rfl, f2⟩, _⟩ := r2.cell k a _ ha2 g2
        exact ⟨xs, SqL.of f1, f2⟩
      | _ => cases e'
/-- a list, a tuple of data -/
def mItL (me : ME) : MI := fun ρ S R X => me ρ S (fun w S1 => ∃ ds gd, itD S1 w = some (ds, gd) ∧ R (ds.map .p) gd S1) X
def mItT (me : ME) : MI := fun ρ S R X => me ρ S (fun w S1 => ∃ ds, w = .p (.tuple ds) ∧ R (ds.map .p) (fun _ => True) S1) X
def bound (i : Int) : Prop := -1000000000 ≤ i ∧ i ≤ 1000000000
def mItR1 (me : ME) : MI := fun ρ S R X => me ρ S (fun w S1 => intW w fun j => bound j ∧ R (rangeW 0 j.toNat) (fun _ => True) S1) X
def mItR2 (ma mb : ME) : MI := fun ρ S R X => ma ρ S (fun w S1 => mb ρ S1 (fun u S2 => intW w fun i => intW u fun j => (bound i ∧ bound j) ∧ R (rangeW i (j - i).toNat) (fun _ => True) S2) X) X
def mItZ (ma mb : ME) : MI := fun ρ S R X => ma ρ S (fun w S1 => mb ρ S1 (fun u S2 => ∃ ds es g1 g2, itD S2 w = some (ds, g1) ∧ itD S2 u = some (es, g2) ∧ R (zipW ds es) (fun S => g1 S ∧ g2 S) S2) X) X
def mItE (me : ME) : MI := fun ρ S R X => me ρ S (fun w S1 => ∃ ds gd, itD S1 w = some (ds, gd) ∧ R (enumW ds) gd S1) X
section
variable {X : Cx} {Wx : WX} {tg a b : Expr} {ma mb me : ME} {p pos tpos : Pos}
theorem qi_list (he : QE X Wx a me) : QI X Wx tg a (mItL me) := (pi_list he).weak fun σ H R h => by
  obtain ⟨G, as, ρ, S, Rm, RX, hE, hS, hm, hR, hX⟩ := h
  refine ⟨G, as, ρ, S, _, RX, hE, hS, hm, fun w S1 G1 as1 v H1 h1 e1 r1 rv => ?_, hX⟩
  obtain ⟨ds, gd, hd, h2⟩ := h1
  obtain ⟨g0, a, rfl, lv⟩ := itD_ok r1 rv hd
  obtain ⟨xs, q, _⟩ := lv G1 as1 H1 ⟨Same.refl _, ⟨[], by simp⟩, S1, r1, g0⟩
  exact ⟨a, rfl, ⟨xs, q⟩, hR _ _ S1 G1 as1 H1 _ h2 e1 r1 (walkD_list lv)⟩
theorem qi_tup (he : QE X Wx a me) : QI X Wx tg a (mItT me) := (pi_tup he).weak fun σ H R h => by
  obtain ⟨G, as, ρ, S, Rm, RX, hE, hS, hm, hR, hX⟩ := h
  refine ⟨G, as, ρ, S, _, RX, hE, hS, hm, fun w S1 G1 as1 v H1 h1 e1 r1 rv => ?_, hX⟩
  obtain ⟨ds, rfl, h2⟩ := h1
  have rv' : Dv X.K G1 (.tuple ds) v := rv
  cases rv' with
  | tup q dv => exact ⟨_, rfl, ⟨_, same_t r1.sub q⟩, hR _ _ S1 G1 as1 H1 _ h2 e1 r1 (walkD_tup q dv)⟩
theorem one_r {σ : L2.St} {H : Hp} {Q : V → Hp → Prop} {te : TE} (h : te σ H Q) : tCons te tNil σ H (fun vs H1 => ∃ v, vs = [v] ∧ Q v H1) ∨ True := .inr trivial
theorem qi_range1 (hm : X.mg "range" = none) (ha : QA X Wx [a] (mCons me mNil)) (hg : Gl X "range" := by rfl) (hs : starEach [a] X.env = [(false, eval a X.env)] := by rfl) : QI X Wx tg (.Call (.Name "range" p) [a] [] pos) (mItR1 me) := (pi_range1 hg hm ha hs).weak fun σ H R h => by
  obtain ⟨G, as, ρ, S, Rm, RX, hE, hS, hm, hR, hX⟩ := h
  refine ⟨G, as, ρ, S, fun ws S1 => ∃ w, ws = [w] ∧ intW w fun j => bound j ∧ Rm (rangeW 0 j.toNat) (fun _ => True) S1, RX, hE, hS, ?_, fun ws S1 G1 as1 vs H1 h1 e1 r1 rv => ?_, hX⟩
  · have hm' : me ρ S (fun w S1 => intW w fun j => bound j ∧ Rm (rangeW 0 j.toNat) (fun _ => True) S1) RX := hm
    show me ρ S (fun w S1 => ∃ w', [w] = [w'] ∧ intW w' fun j => bound j ∧ Rm (rangeW 0 j.toNat) (fun _ => True) S1) RX
    have : (fun w S1 => ∃ w', [w] = [w'] ∧ intW w' fun j => bound j ∧ Rm (rangeW 0 j.toNat) (fun _ => True) S1) = (fun w S1 => intW w fun j => bound j ∧ Rm (rangeW 0 j.toNat) (fun _ => True) S1) := by
      funext w S1
      exact propext ⟨fun ⟨w', e, h⟩ => by cases e; exact h, fun h => ⟨w, rfl, h⟩⟩
    rw [this]; exact hm'
  · obtain ⟨w, rfl, h2⟩ := h1
    obtain ⟨v, rfl, rw_⟩ := rels1 rv
    obtain ⟨j, rfl, _, ⟨b1, b2⟩, h3⟩ := intW_ok rw_ h2
    exact ⟨j, rfl, by omega, by omega, hR _ _ S1 G1 as1 H1 _ h3 e1 r1 (walkD_range 0 j.toNat)⟩
theorem me_congr {me : ME} {ρ : En} {S : So} {R R' : RK} {RX : RX} (h : me ρ S R RX) (e : R = R') : me ρ S R' RX := e ▸ h
theorem qi_range2 (hm : X.mg "range" = none) (ha : QA X Wx [a, b] (mCons ma (mCons mb mNil))) (hg : Gl X "range" := by rfl) (hs : starEach [a, b] X.env = [(false, eval a X.env), (false, eval b X.env)] := by rfl) (hs2 : starEach [b] X.env = [(false, eval b X.env)] := by rfl) :
    QI X Wx tg (.Call (.Name "range" p) [a, b] [] pos) (mItR2 ma mb) := (pi_range2 hg hm ha hs hs2).weak fun σ H R h => by
  obtain ⟨G, as, ρ, S, Rm, RX, hE, hS, hm, hR, hX⟩ := h
  refine ⟨G, as, ρ, S, fun ws S2 => ∃ w u, ws = [w, u] ∧ intW w fun i => intW u fun j => (bound i ∧ bound j) ∧ Rm (rangeW i (j - i).toNat) (fun _ => True) S2, RX, hE, hS, ?_, fun ws S1 G1 as1 vs H1 h1 e1 r1 rv => ?_, hX⟩
  · refine me_congr (me := ma) hm ?_
    funext w S1
    refine congrArg (fun z => mb ρ S1 z RX) ?_
    funext u S2
    exact propext ⟨fun h => ⟨w, u, rfl, h⟩, fun ⟨w', u', e, h⟩ => by cases e; exact h⟩
  · obtain ⟨w, u, rfl, h2⟩ := h1
    obtain ⟨v, z, rfl, rw_, ru⟩ := rels2 rv
    obtain ⟨i, rfl, _, h3⟩ := intW_ok rw_ h2
    obtain ⟨j, rfl, _, ⟨⟨b1, b2⟩, b3, b4⟩, h4⟩ := intW_ok ru h3
    exact ⟨i, j, rfl, ⟨by omega, by omega, by omega, by omega⟩, hR _ _ S1 G1 as1 H1 _ h4 e1 r1 (walkD_range i (j - i).toNat)⟩
theorem qi_zip {elts : List Expr} {kk : Nat} (hm : X.mg "zip" = none) (ha : QA X Wx [a, b] (mCons ma (mCons mb mNil))) (hg : Gl X "zip" := by rfl) (hs : starEach [a, b] X.env = (false, eval a X.env) :: starEach [b] X.env := by rfl) (hpl : (backTo pos (starEach [b] X.env)).any (·.1) = false := by rfl) :
    QI X Wx (.Tuple elts kk tpos) (.Call (.Name "zip" p) [a, b] [] pos) (mItZ ma mb) := (pi_zip hg hm ha hs hpl).weak fun σ H R h => by
  obtain ⟨G, as, ρ, S, Rm, RX, hE, hS, hm, hR, hX⟩ := h
  refine ⟨G, as, ρ, S, fun ws S2 => ∃ w u, ws = [w, u] ∧ ∃ ds es g1 g2, itD S2 w = some (ds, g1) ∧ itD S2 u = some (es, g2) ∧ Rm (zipW ds es) (fun S => g1 S ∧ g2 S) S2, RX, hE, hS, ?_, fun ws S1 G1 as1 vs H1 h1 e1 r1 rv => ?_, hX⟩
  · refine me_congr (me := ma) hm ?_
    funext w S1
    refine congrArg (fun z => mb ρ S1 z RX) ?_
    funext u S2
    exact propext ⟨fun h => ⟨w, u, rfl, h⟩, fun ⟨w', u', e, h⟩ => by cases e; exact h⟩
  · obtain ⟨w, u, rfl, ds, es, g1, g2, hd, he, h2⟩ := h1
    obtain ⟨v, z, rfl, rw_, ru⟩ := rels2 rv
    obtain ⟨p1, a1, rfl, l1⟩ := itD_ok r1 rw_ hd
    obtain ⟨p2, a2, rfl, l2⟩ := itD_ok r1 ru he
    obtain ⟨xs, q1, _⟩ := l1 G1 as1 H1 ⟨Same.refl _, ⟨[], by simp⟩, S1, r1, p1⟩
    obtain ⟨ys, q2, _⟩ := l2 G1 as1 H1 ⟨Same.refl _, ⟨[], by simp⟩, S1, r1, p2⟩
    exact ⟨a1, a2, xs, ys, rfl, q1, q2, hR _ _ S1 G1 as1 H1 _ h2 e1 r1 (walkD_zip l1 l2)⟩
theorem qi_enum {elts : List Expr} {kk : Nat} (hm : X.mg "enumerate" = none) (ha : QA X Wx [a] (mCons me mNil)) (hg : Gl X "enumerate" := by rfl) (hs : starEach [a] X.env = [(false, eval a X.env)] := by rfl) :
    QI X Wx (.Tuple elts kk tpos) (.Call (.Name "enumerate" p) [a] [] pos) (mItE me) := (pi_enum hg hm ha hs).weak fun σ H R h => by
  obtain ⟨G, as, ρ, S, Rm, RX, hE, hS, hm, hR, hX⟩ := h
  refine ⟨G, as, ρ, S, fun ws S2 => ∃ w, ws = [w] ∧ ∃ ds gd, itD S2 w = some (ds, gd) ∧ Rm (enumW ds) gd S2, RX, hE, hS, ?_, fun ws S1 G1 as1 vs H1 h1 e1 r1 rv => ?_, hX⟩
  · refine me_congr (me := me) hm ?_
    funext w S1
    exact propext ⟨fun h => ⟨w, rfl, h⟩, fun ⟨w', e, h⟩ => by cases e; exact h⟩
  · obtain ⟨w, rfl, ds, gd, hd, h2⟩ := h1
    obtain ⟨v, rfl, rw_⟩ := rels1 rv
    obtain ⟨p1, a1, rfl, l1⟩ := itD_ok r1 rw_ hd
    obtain ⟨xs, q1, _⟩ := l1 G1 as1 H1 ⟨Same.refl _, ⟨[], by simp⟩, S1, r1, p1⟩
    exact ⟨a1, xs, rfl, q1, hR _ _ S1 G1 as1 H1 _ h2 e1 r1 (walkD_enum l1)⟩
/-! ### for, while -/
def mFor (mi : MI) (g : MG) (mb : MS) : MS := fun B ρ S => mi ρ S (fun items gd S1 => ∃ I : Nat → En → So → Prop, I 0 ρ S1 ∧
  (∀ i it ρ' S', items[i]? = some it → I i ρ' S' → g it ρ' fun ρ2 => mb { B with nx := I (i + 1), ct := I (i + 1), bk := B.nx } ρ2 S') ∧ (∀ ρ' S', I items.length ρ' S' → B.nx ρ' S') ∧ ∀ i ρ' S', I i ρ' S' → gd S') (exOf B ρ)
theorem qs_for {iter : Expr} {body : List Stmt} {mi : MI} {t : TG} {g : MG} {mb : MS} (hp : PassesOwn (model X.prog X.w) X.A X.env X.xe) (hc : X.calm = true) (hi : QI X Wx tg iter mi) (hg : QG X tg t g) (hb : QSs X Wx body mb)
    (hs : ∀ x, foldedSetIterable iter X.env x = pure x := by intro _; rfl) : QS X Wx (.For tg iter body [] pos) (mFor mi g mb) := (ps_for hp hc hi hg.pg hb hs).weak fun D σ H h => by
  obtain ⟨G, as, ρ, S, B, hE, hS, hm, hD⟩ := h
  refine ⟨G, as, ρ, S, _, exOf B ρ, hE, hS, hm, fun items gd S1 G1 as1 H1 J hI e1 r1 wd => ?_, exc_ok hE hD⟩
  obtain ⟨I, h0, hst, hen, hgd⟩ := hI
  have lt : ∀ {i : Nat} {G2 : Hp} {as2 : List Addr} {ρ2 : En} {S2 : So} {H' : Hp}, Ext G1 as1 H1 G2 as2 H' → RepS X.K G2 as2 S2 H' → I i ρ2 S2 → Later X.K G1 as1 gd G2 as2 H' := fun x r h => ⟨x.g, x.a, _, r, hgd _ _ _ h⟩
  refine for_it wd.walk (fun i σ' H' => ∃ G2 as2 ρ2 S2, Ext G1 as1 H1 G2 as2 H' ∧ RepE X.K G2 as2 ρ2 σ' ∧ RepS X.K G2 as2 S2 H' ∧ I i ρ2 S2) ⟨G1, as1, ρ, S1, Ext.refl, hE.ext e1, r1, h0⟩ (fun i σ' H' _ hp => ?_) (fun i x σ' Hh H' hi hp y => ?_) fun σ' H' hp => ?_
  · obtain ⟨G2, as2, ρ2, S2, x2, _, r2, _⟩ := hp
    exact ⟨G2, as2, lt x2 r2 (by assumption)⟩
  · obtain ⟨G2, as2, ρ2, S2, x2, rE2, r2, hi2⟩ := hp
    obtain ⟨it, G3, q0, q1, q2, q3, q4, q5'⟩ := wd.yld i Hh x H' G2 as2 hi (lt x2 r2 hi2) y
    have x3 : Ext G2 as2 Hh G3 as2 H' := ⟨q1, ⟨[], by simp⟩, fun b o z _ => q3 b o z, fun b o z g _ => q4 b o z g, fun b m n => absurd m n⟩
    have r3 : RepS X.K G3 as2 S2 H' := ⟨q2, r2.len, r2.nd, fun k a c h1 h2 => by
      obtain ⟨o, f1, f2, f3⟩ := r2.cell k a c h1 h2
      exact ⟨o, q3 a o f1, f2.mono q1 fun _ _ z => z, fun hd => q4 a o f1 (f3 hd)⟩⟩
    refine hg.ok.run G3 as2 ρ2 σ' S2 H' it x _ _ (rE2.ext x3) r3 q5' (hst i it ρ2 S2 q0 hi2) fun ρ' σ'' rE hk => ?_
    have x13 := x2.trans x3
    refine ⟨G3, as2, ρ', S2, _, rE, r3, hk, ⟨fun ρ4 S4 G4 as4 σ4 H4 b x r4 r5 => ⟨G4, as4, ρ4, S4, x13.trans x, r4, r5, b⟩, (hD.ext (e1.trans x13)).rt, fun ρ4 S4 G4 as4 σ4 H4 b x r4 r5 => hD.nx ρ4 S4 G4 as4 σ4 H4 b ((e1.trans x13).trans x) r4 r5,
      fun ρ4 S4 G4 as4 σ4 H4 b x r4 r5 => ⟨G4, as4, ρ4, S4, x13.trans x, r4, r5, b⟩, (hD.ext (e1.trans x13)).ex⟩⟩
  · obtain ⟨G2, as2, ρ2, S2, x2, rE2, r2, hi2⟩ := hp
    exact hD.nx ρ2 S2 G2 as2 σ' H' (hen ρ2 S2 hi2) (e1.trans x2) rE2 r2
def mWhile (t : MT) (mb : MS) : MS := fun B ρ S => ∃ I : Nat → En → So → Prop, (∃ m, I m ρ S) ∧ ∀ m ρ' S', I m ρ' S' →
  t ρ' S' (fun b S1 => if b = true then mb { B with nx := fun ρ2 S2 => ∃ m', m' < m ∧ I m' ρ2 S2, ct := fun ρ2 S2 => ∃ m', m' < m ∧ I m' ρ2 S2, bk := B.nx } ρ' S1 else B.nx ρ' S1) (exOf B ρ')
theorem qs_while {c : Expr} {body : List Stmt} {t : MT} {mb : MS} (hp : PassesOwn (model X.prog X.w) X.A X.env X.xe) (hc : QT X Wx c t) (hb : QSs X Wx body mb) : QS X Wx (.While c body [] pos) (mWhile t mb) := (ps_while hp hc hb).weak fun D σ H h => by
  obtain ⟨G, as, ρ, S, B, hE, hS, ⟨I, ⟨m0, h0⟩, hst⟩, hD⟩ := h
  refine ⟨fun m σ' H' => ∃ G2 as2 ρ2 S2, Ext G as H G2 as2 H' ∧ RepE X.K G2 as2 ρ2 σ' ∧ RepS X.K G2 as2 S2 H' ∧ I m ρ2 S2, ⟨m0, G, as, ρ, S, Ext.refl, hE, hS, h0⟩, fun m σ' H' hp => ?_⟩
  obtain ⟨G2, as2, ρ2, S2, x2, rE2, r2, hi2⟩ := hp
  have hD2 := hD.ext x2
  refine ⟨G2, as2, ρ2, S2, _, exOf B ρ2, rE2, r2, hst m ρ2 S2 hi2, fun b S3 G3 as3 b' H3 h3 x3 r3 rb => ?_, exc_ok rE2 hD2⟩
  cases rb
  cases b with
  | false =>
    rw [if_neg Bool.false_ne_true] at h3 ⊢
    exact hD2.nx ρ2 S3 G3 as3 σ' H3 h3 x3 (rE2.ext x3) r3
  | true =>
    rw [if_pos rfl] at h3 ⊢
    have x23 := x2.trans x3
    refine ⟨fun σ4 H4 => ∃ m', m' < m ∧ ∃ G4 as4 ρ4 S4, Ext G as H G4 as4 H4 ∧ RepE X.K G4 as4 ρ4 σ4 ∧ RepS X.K G4 as4 S4 H4 ∧ I m' ρ4 S4, fun σ4 H4 hn => hn, ?_⟩
    refine ⟨G3, as3, ρ2, S3, _, rE2.ext x3, r3, h3, ⟨fun ρ4 S4 G4 as4 σ4 H4 b x r4 r5 => ?_, (hD2.ext x3).rt, fun ρ4 S4 G4 as4 σ4 H4 b x r4 r5 => hD.nx ρ4 S4 G4 as4 σ4 H4 b (x23.trans x) r4 r5, fun ρ4 S4 G4 as4 σ4 H4 b x r4 r5 => ?_, (hD2.ext x3).ex⟩⟩
    · obtain ⟨m', hm', hi'⟩ := b
      exact ⟨m', hm', G4, as4, ρ4, S4, x23.trans x, r4, r5, hi'⟩
    · obtain ⟨m', hm', hi'⟩ := b
      exact ⟨m', hm', G4, as4, ρ4, S4, x23.trans x, r4, r5, hi'⟩
end
end Fd
set_option maxRecDepth 100000
set_option maxHeartbeats 2000000
namespace Fd
open PySem PySem.Spec PyProof.Rows L2

/-! ### list comprehensions -/
def del (H : Hp) (a : Addr) : Hp := fun b => if b = a then none else H b
theorem del_same {H : Hp} {a : Addr} : del H a a = none := by unfold del; rw [if_pos rfl]
theorem del_ne {H : Hp} {a b : Addr} (h : b ≠ a) : del H a b = H b := by unfold del; rw [if_neg h]
theorem upd_del {H : Hp} {a : Addr} {o : HO} : upd H a o = upd (del H a) a o := by
  funext b
  by_cases h : b = a
  · subst h; rw [upd_same, upd_same]
  · rw [upd_ne h, upd_ne h, del_ne h]
theorem upd_self {H : Hp} {a : Addr} {o : HO} (h : H a = some o) : upd H a o = H := by
  funext b
  by_cases hb : b = a
  · subst hb; rw [upd_same, h]
  · rw [upd_ne hb]
section
variable {K : PySem.W.Frag} {G G' : Hp} {as as' : List Addr} {S S' : So} {H H' : Hp}
/-- without the list D that is being made: D is no cell and not in G -/
theorem RepS.del (r : RepS K G as S H) {D : Addr} (g : G D = none) (n : D ∉ as) : RepS K G as S (Fd.del H D) := ⟨fun b o e => by
  rw [del_ne (ne_of_none e g)]; exact r.sub b o e, r.len, r.nd, fun k a c h1 h2 => by
  obtain ⟨o, f1, f2, f3⟩ := r.cell k a c h1 h2
  exact ⟨o, by rw [del_ne (fun z => n (by rw [← z]; exact List.mem_of_getElem? h1))]; exact f1, f2, f3⟩⟩
/-- a step from the heap with D is a step from the heap without it -/
theorem Ext.delD {D : Addr} {o : HO} (hD : H D = none) (gD : G D = none) (n : D ∉ as) (e : Ext G as (upd H D o) G' as' H') : Ext G as H G' as' (Fd.del H' D) ∧ H' D = some o ∧ G' D = none ∧ D ∉ as' := by
  have h1 : upd H D o D = some o := upd_same
  have h2 := e.f D o h1 n
  have h3 := e.n D o h1 gD n
  have h4 : D ∉ as' := e.out h1 n
  refine ⟨⟨e.g, e.a, fun b u z m => ?_, fun b u z g m => ?_, fun b m q => ?_⟩, h2, h3, h4⟩
  · have hb : b ≠ D := ne_of_none z hD
    rw [del_ne hb]
    exact e.f b u (by rw [upd_ne hb]; exact z) m
  · have hb : b ≠ D := ne_of_none z hD
    exact e.n b u (by rw [upd_ne hb]; exact z) g m
  · have hb : b ≠ D := fun z => h4 (z ▸ m)
    have := e.w b m q
    rw [upd_ne hb] at this; exact this
end
def noX : RX := fun _ _ => False
abbrev Wx0 : WX := fun _ _ _ _ => False
def mYes : MT := fun _ S R _ => R true S
def stepLc (g : MG) (mt : MT) (me : ME) (ρw : En) (it : W) (S : So) (yes : PyData → So → Prop) (no : So → Prop) : Prop :=
  g it ρw fun ρ2 => mt ρ2 S (fun b S3 => if b = true then me ρ2 S3 (fun w S4 => ∃ d, w = .p d ∧ yes d S4) noX else no S3) noX
def mLc (nk : NewK) (mi : MI) (g : MG) (mt : MT) (me : ME) (vs : List Nat) : ME := fun ρ S R X => mi ρ S (fun items gd S1 => items.length ≤ small ∧ ∃ J : Nat → List PyData → So → Prop, J 0 [] S1 ∧
  (∀ i it acc S', items[i]? = some it → J i acc S' → stepLc g mt me (wipeE ρ vs) it S' (fun d S4 => J (i + 1) (acc ++ [d]) S4) (fun S3 => J (i + 1) acc S3)) ∧ (∀ acc S', J items.length acc S' → nk acc S' R) ∧ ∀ i acc S', J i acc S' → gd S') X
structure QTs (X : Cx) (ifs : List Expr) (t : MT) : Prop where
  pts : PTs X ifs (Lift X.K Wx0 relT t)
theorem wipe_rel {K : PySem.W.Frag} {G : Hp} {as : List Addr} {ρ : En} {σ : L2.St} (h : RepE K G as ρ σ) : ∀ vs : List Nat, RepE K G as (wipeE ρ vs) (wipe σ vs)
  | [] => h
  | v :: vs => by
    have ih := wipe_rel h vs
    refine ⟨by show ((wipeE ρ vs).set v none).length = ((wipe σ vs).set v none).length; rw [List.length_set, List.length_set]; exact ih.len, fun i w e => ?_⟩
    have e' : ((wipeE ρ vs).set v none)[i]? = some (some w) := e
    show ∃ u, ((wipe σ vs).set v none)[i]? = some (some u) ∧ _
    by_cases hv : v = i
    · subst hv
      by_cases hl : v < (wipeE ρ vs).length
      · rw [List.getElem?_set_self hl] at e'; cases e'
      · rw [List.getElem?_eq_none (by simpa using hl)] at e'; cases e'
    · rw [List.getElem?_set_ne hv] at e' ⊢
      exact ih.get i w e'
/-- what a target leaves of the other slots -/
structure TOk (t : TG) (vs : List Nat) : Prop where
  run : ∀ (v : V) (σ σ0 : L2.St) (H : Hp) (Q : L2.St → Hp → Prop), wipe σ vs = wipe σ0 vs → t v σ H Q → t v σ H fun σ2 H2 => wipe σ2 vs = wipe σ0 vs ∧ Q σ2 H2
theorem wipe_set {σ : L2.St} {i : Nat} {x : Option V} : ∀ {vs : List Nat}, i ∈ vs → wipe (σ.set i x) vs = wipe σ vs
  | v :: vs, h => by
    show (wipe (σ.set i x) vs).set v none = (wipe σ vs).set v none
    by_cases hm : i ∈ vs
    · rw [wipe_set hm]
    · have hv : i = v := by
        rcases List.mem_cons.mp h with h | h
        · exact h
        · exact absurd h hm
      subst hv
      have key : ∀ us : List Nat, (wipe (σ.set i x) us).set i none = (wipe σ us).set i none := by
        intro us
        induction us with
        | nil => show (σ.set i x).set i none = σ.set i none; rw [List.set_set]
        | cons u us ih =>
          show ((wipe (σ.set i x) us).set u none).set i none = ((wipe σ us).set u none).set i none
          by_cases hu : u = i
          · subst hu; rw [List.set_set, List.set_set]; exact ih
          · rw [List.set_comm none none hu, ih, ← List.set_comm none none hu]
      exact key vs
theorem wipe_wipe (σ : L2.St) (vs : List Nat) : wipe (wipe σ vs) vs = wipe σ vs := by
  have key : ∀ (us : List Nat), (∀ u ∈ us, u ∈ vs) → wipe (wipe σ us) vs = wipe σ vs := by
    intro us
    induction us with
    | nil => intro _; rfl
    | cons u us ih =>
      intro h
      show wipe ((wipe σ us).set u none) vs = _
      rw [wipe_set (h u List.mem_cons_self)]
      exact ih fun z hz => h z (List.mem_cons_of_mem _ hz)
  exact key vs fun _ h => h
theorem tok_name {i : Nat} {vs : List Nat} (h : i ∈ vs) : TOk (gName i) vs := ⟨fun v σ σ0 H Q e q => ⟨(wipe_set h).trans e, q⟩⟩
theorem tok_names {K : PySem.W.Frag} {n : Nat} {vs : List Nat} : ∀ (is : List Nat), (∀ i ∈ is, i ∈ vs) → ∀ (xs : List V) (σ : L2.St) (H : Hp) (Q : L2.St → Hp → Prop) (σ0 : L2.St), wipe σ vs = wipe σ0 vs → gNames K n is xs σ H Q → gNames K n is xs σ H fun σ2 H2 => wipe σ2 vs = wipe σ0 vs ∧ Q σ2 H2
  | [], _, xs, σ, H, Q, σ0, e, ⟨h1, h2⟩ => ⟨h1, e, h2⟩
  | i :: is, hm, xs, σ, H, Q, σ0, e, ⟨v, r, h1, h2⟩ => ⟨v, r, h1, tok_names is (fun z hz => hm z (List.mem_cons_of_mem _ hz)) r _ H Q σ0 (by rw [wipe_set (hm i List.mem_cons_self)]; exact e) h2⟩
theorem tok_tup {K : PySem.W.Frag} {n : Nat} {is vs : List Nat} (hm : ∀ i ∈ is, i ∈ vs) : TOk (gTup K n (gNames K n is)) vs := ⟨fun v σ σ0 H Q e0 h => by
  obtain ⟨a, xs, e, h1, h2, h3⟩ := h
  exact ⟨a, xs, e, h1, h2, tok_names is hm xs σ H Q σ0 e0 h3⟩⟩
section
variable {X : Cx}
theorem qts_nil : QTs X [] mYes := ⟨⟨fun pins s σ H Q I h => pts_nil.run pins s σ H Q I (by
  obtain ⟨G, as, ρ, S, R, RX, hE, hS, hm, hR, hX⟩ := h
  exact hR true S G as true H hm Ext.refl hS rfl)⟩⟩
theorem qts_one {c : Expr} {t : MT} (h : QT X Wx0 c t) : QTs X [c] t := ⟨pts_one h⟩
theorem lift_lc {K : PySem.W.Frag} {Wx : WX} {nk : NewK} {mi : MI} {g : MG} {mt : MT} {me : ME} {vs : List Nat} {t : TG} (n : IsNew nk) (ok : GOk K t g) (tok : TOk t vs) {σ : L2.St} {H : Hp} {Q : VK} (h : Lift K Wx (RelW K) (mLc nk mi g mt me vs) σ H Q) :
    tLc (LiftI K Wx mi) t (Lift K Wx0 relT mt) (Lift K Wx0 (RelW K) me) vs σ H Q := by
  obtain ⟨G, as, ρ, S, R, RX, hE, hS, hm, hR, hX⟩ := h
  refine ⟨G, as, ρ, S, _, RX, hE, hS, hm, fun items gd S1 G1 as1 H1 J hJ e1 r1 wd => ?_, hX⟩
  obtain ⟨hlen, P, h0, hst, hen, hgd⟩ := hJ
  intro D hD
  have g1 : G1 D = none := r1.sub.free hD
  have n1 : D ∉ as1 := fun m => by
    obtain ⟨k, hk, e⟩ := List.getElem_of_mem m
    have hk2 : k < S1.length := by rw [← r1.len]; exact hk
    obtain ⟨u, f1, _⟩ := r1.cell k D S1[k] (by rw [List.getElem?_eq_getElem hk, e]) (List.getElem?_eq_getElem hk2)
    rw [hD] at f1; cases f1
  refine lc_it wd.walk (fun i H' => ∃ H2 G2 as2 S2 acc xs, H' = upd H2 D (.lst xs) ∧ H2 D = none ∧ G2 D = none ∧ D ∉ as2 ∧ Ext G1 as1 H1 G2 as2 H2 ∧ RepS K G2 as2 S2 H2 ∧ DvL K G2 acc xs ∧ acc.length ≤ i ∧ P i acc S2)
    ⟨H1, G1, as1, S1, [], [], rfl, hD, g1, n1, Ext.refl, r1, .nil, Nat.le_refl _, h0⟩ (fun i H' _ hp => ?_) (fun i x Hh H' hi hp y => ?_) fun H' hp => ?_
  · obtain ⟨H2, G2, as2, S2, acc, xs, rfl, d1, d2, d3, x2, r2, dv, hl, hP⟩ := hp
    obtain ⟨r2', _⟩ := r2.laidH (o := .lst xs) d1
    exact ⟨G2, as2, x2.g, x2.a, S2, r2', hgd _ _ _ hP⟩
  · obtain ⟨H2, G2, as2, S2, acc, xs, rfl, d1, d2, d3, x2, r2, dv, hl, hP⟩ := hp
    obtain ⟨r2', x2'⟩ := r2.laidH (o := .lst xs) d1
    obtain ⟨it, G3, q0, q1, q2, q3, q4, q5'⟩ := wd.yld i _ x H' G2 as2 hi ⟨x2.g, x2.a, S2, r2', hgd _ _ _ hP⟩ y
    have x3 : Ext G2 as2 (upd H2 D (.lst xs)) G3 as2 H' := ⟨q1, ⟨[], by simp⟩, fun b o z _ => q3 b o z, fun b o z g _ => q4 b o z g, fun b m n => absurd m n⟩
    have r3 : RepS K G3 as2 S2 H' := ⟨q2, r2'.len, r2'.nd, fun k a c h1 h2 => by
      obtain ⟨o, f1, f2, f3⟩ := r2'.cell k a c h1 h2
      exact ⟨o, q3 a o f1, f2.mono q1 fun _ _ z => z, fun hd => q4 a o f1 (f3 hd)⟩⟩
    have rw3 : RepE K G3 as2 (wipeE ρ vs) (wipe σ vs) := ((wipe_rel (hE.ext e1) vs).ext x2).ext x3
    have step := hst i it acc S2 q0 hP
    refine tok.run x (wipe σ vs) σ H' _ (wipe_wipe σ vs) (ok.run G3 as2 (wipeE ρ vs) (wipe σ vs) S2 H' it x _ (fun σ2 H2' => Lift K Wx0 relT mt σ2 H2' fun b H3 =>
      if b = true then Lift K Wx0 (RelW K) me σ2 H3 fun y H4 => ∃ acc', H4 D = some (.lst acc') ∧ acc'.length < sizeLine ∧ ∃ H5 G5 as5 S5 acc5 xs5, upd H4 D (.lst (acc' ++ [y])) = upd H5 D (.lst xs5) ∧ H5 D = none ∧ G5 D = none ∧ D ∉ as5 ∧ Ext G1 as1 H1 G5 as5 H5 ∧ RepS K G5 as5 S5 H5 ∧ DvL K G5 acc5 xs5 ∧ acc5.length ≤ i + 1 ∧ P (i + 1) acc5 S5
      else ∃ H5 G5 as5 S5 acc5 xs5, H3 = upd H5 D (.lst xs5) ∧ H5 D = none ∧ G5 D = none ∧ D ∉ as5 ∧ Ext G1 as1 H1 G5 as5 H5 ∧ RepS K G5 as5 S5 H5 ∧ DvL K G5 acc5 xs5 ∧ acc5.length ≤ i + 1 ∧ P (i + 1) acc5 S5) rw3 r3 q5' step fun ρ2 σ2 rE hk => ?_)
    · refine ⟨G3, as2, ρ2, S2, _, noX, rE, r3, hk, fun b S4 G4 as4 b' H4 h4 x4 r4 rb => ?_, fun _ _ _ _ _ z => z.elim⟩
      cases rb
      have x34 := x3.trans x4
      obtain ⟨y1, y2, y3, y4⟩ := Ext.delD d1 d2 d3 x34
      cases b with
      | false =>
        rw [if_neg Bool.false_ne_true] at h4 ⊢
        exact ⟨del H4 D, G4, as4, S4, acc, xs, by rw [← upd_del, upd_self y2], del_same, y3, y4, x2.trans y1, r4.del y3 y4, dv.mono x34.g, by omega, h4⟩
      | true =>
        rw [if_pos rfl] at h4 ⊢
        refine ⟨G4, as4, ρ2, S4, _, noX, rE.ext x4, r4, h4, fun w S5 G5 as5 v H5 h5 x5 r5 rv => ?_, fun _ _ _ _ _ z => z.elim⟩
        obtain ⟨d, rfl, h5⟩ := h5
        have x35 := x34.trans x5
        obtain ⟨y1, y2, y3, y4⟩ := Ext.delD d1 d2 d3 x35
        have hlen2 : acc.length < small := Nat.lt_of_le_of_lt hl (Nat.lt_of_lt_of_le hi hlen)
        refine ⟨xs, y2, by rw [dv.length]; exact Nat.lt_trans hlen2 (by decide), del H5 D, G5, as5, S5, acc ++ [d], xs ++ [v], upd_del, del_same, y3, y4, x2.trans y1, r5.del y3 y4, (dv.mono x35.g).append (.cons rv .nil), ?_, h5⟩
        rw [List.length_append]
        exact Nat.succ_le_succ hl
  · obtain ⟨H2, G2, as2, S2, acc, xs, rfl, d1, d2, d3, x2, r2, dv, hl, hP⟩ := hp
    exact (n.ok r2 dv (hen acc S2 hP) fun w S' G' as' v H' hr e r rv => hR w S' G' as' v H' hr ((e1.trans x2).trans e) r rv).2 D d1
end

section
variable {X : Cx} {Wx : WX} {tg elt iter : Expr} {ifs : List Expr} {scope : Scope} {own : List (Str × Nat)} {pos : Pos} {nk : NewK} {mi : MI} {t : TG} {g : MG} {mt : MT} {me : ME} {vs : List Nat}
theorem qe_lc (n : IsNew nk) (hc : X.calm = true) (hN : X.N.Nodup) (hi : QI X Wx tg iter mi) (ok : BlkOk X.N X.env.scope scope own) (tok : TOk t vs) (gok : GOk X.K t g)
    (hg : ∀ (s : Shared) (H : Hp) (C : Addr) (cl : List (Str × Addr)) (fp : List Addr), QG (X.blk s H scope (compEnvC scope cl C X.env) fp) tg t g)
    (ht : ∀ (s : Shared) (H : Hp) (C : Addr) (cl : List (Str × Addr)) (fp : List Addr), QTs (X.blk s H scope (compEnvC scope cl C X.env) fp) ifs mt)
    (he : ∀ (s : Shared) (H : Hp) (C : Addr) (cl : List (Str × Addr)) (fp : List Addr), QE (X.blk s H scope (compEnvC scope cl C X.env) fp) Wx0 elt me) (hv : own.map (·.2) = vs := by rfl) (hs : ∀ x, foldedSetIterable iter X.env x = pure x := by intro _; rfl) :
    QE X Wx (.ListComp elt [⟨tg, iter, ifs, 0⟩] scope pos) (mLc nk mi g mt me vs) :=
  by
    subst hv
    exact (pe_lc (te := Lift X.K Wx0 (RelW X.K) me) (tt := Lift X.K Wx0 relT mt) hc hN hi ok (fun s H C cl fp => (hg s H C cl fp).pg) (fun s H C cl fp => (ht s H C cl fp).pts) (fun s H C cl fp => he s H C cl fp) hs).weak fun σ H Q h => lift_lc n gok tok h
theorem qs_setLc (i : Nat) {y : Str} {py : Pos} {spos : Pos} (n : IsNew nk) (hc : X.calm = true) (hN : X.N.Nodup) (hi : QI X Wx tg iter mi) (ok : BlkOk X.N X.env.scope scope own) (tok : TOk t vs) (gok : GOk X.K t g)
    (hg : ∀ (s : Shared) (H : Hp) (C : Addr) (cl : List (Str × Addr)) (fp : List Addr), QG (X.blk s H scope (compEnvC scope cl C X.env) fp) tg t g)
    (ht : ∀ (s : Shared) (H : Hp) (C : Addr) (cl : List (Str × Addr)) (fp : List Addr), QTs (X.blk s H scope (compEnvC scope cl C X.env) fp) ifs mt)
    (he : ∀ (s : Shared) (H : Hp) (C : Addr) (cl : List (Str × Addr)) (fp : List Addr), QE (X.blk s H scope (compEnvC scope cl C X.env) fp) Wx0 elt me)
    (hsw : swapsWith (.ListComp elt [⟨tg, iter, ifs, 0⟩] scope pos) (some (.Name y py)) spos.line X.env = pure true) (hy : X.N[i]? = some y := by rfl) (hyl : X.env.scope.names.lookup y = some .local := by rfl) (hv : own.map (·.2) = vs := by rfl) (hs : ∀ x, foldedSetIterable iter X.env x = pure x := by intro _; rfl) :
    QS X Wx (.Assign [.Name y py] (.ListComp elt [⟨tg, iter, ifs, 0⟩] scope pos) spos) (mSet i (mLc nk mi g mt me vs)) :=
  by
  subst hv
  exact (ps_setLc (te := Lift X.K Wx0 (RelW X.K) me) (tt := Lift X.K Wx0 relT mt) hc hN hy hyl hsw hi ok (fun s H C cl fp => (hg s H C cl fp).pg) (fun s H C cl fp => (ht s H C cl fp).pts) (fun s H C cl fp => he s H C cl fp) hs).weak fun D σ H h => by
    obtain ⟨G, as, ρ, S, B, hE, hS, hm, hD⟩ := h
    refine lift_lc (Wx := Wx) n gok tok ⟨G, as, ρ, S, _, exOf B ρ, hE, hS, hm, fun w S1 G1 as1 v H1 h1 e1 r1 rv => ?_, exc_ok hE hD⟩
    exact hD.nx _ S1 G1 as1 _ H1 h1 e1 ((hE.ext e1).set rv) r1
end
end Fd
set_option maxRecDepth 100000
set_option maxHeartbeats 2000000
namespace Fd
open PySem PySem.Spec PyProof.Rows L2

/-! ### defs -/
/-- as FnOk, where no guard runs around the call (repr asks that) -/
structure FnG (P : Program) (w : World) (K : PySem.W.Frag) (mg : Str → Option Value) (base : Heap) (k : Nat) (f : Addr) (fd : FuncData) (ps : List Str) (sp : Sp) : Prop where
  len : ∀ vs H Q E, sp vs H Q E → vs.length = ps.length
  run : ∀ (A : Around) (outer : List Env) (s : Shared) (H : Hp) (args : Args) (us : List Value) (vs : List V) (Q : VK) (E : XK), Room k A → A.guards = some [] → Env0 P w K mg base A outer s H → BindsTo s fd args (ps.zip us) → Vals vs us →
    sp vs H Q E → codeAny (model P w) A (.call (.ref f) args) (CR (L2.CX P w) outer P w H s Q E) s
section
variable {P : Program} {w : World} {K : PySem.W.Frag} {mg : Str → Option Value} {base : Heap}
/-- a def by its body -/
theorem fnG_of {x qual : Str} {params : Arguments} {body : List Stmt} {scope : Scope} {dvs : List V} {kws : List (Str × V)} {f : Addr} {fd : FuncData} {N ps : List Str} {k : Nat} {sp : Sp} (F : FunD K x qual params body scope dvs kws f fd) (sc : FnScope N ps scope)
    (hlen : ∀ vs H Q E, sp vs H Q E → vs.length = ps.length)
    (hbody : ∀ (cdv : Value) (A : Around) (outer : List Env) (s : Shared) (H : Hp) (vs : List V) (Q : VK) (E : XK), Room k (A.deeper (envOfC qual scope s.heap.objs.size f cdv)) → (A.deeper (envOfC qual scope s.heap.objs.size f cdv)).guards = some [] → sp vs H Q E →
      ∃ t, PSs (cxOf (L2.CX P w) P w K mg base N qual scope f cdv A outer s H E) body t ∧ t { nx := fun _ H' => Q .non H', rt := Q } (start N vs) H) : FnG P w K mg base (k + 1) f fd ps sp := by
  obtain ⟨oc, od, dV, kV, doc, pm, an, cdv, ct, osl, rfl, lk, hcd, _, _⟩ := F.ex
  constructor
  · exact hlen
  · intro A outer s H args us vs Q E room hgd env binds rel want
    have lengths := hlen _ _ _ _ want
    have inK : K.In s.heap := env.mod.kin.keeps fun b o q => (env.bs b o q).1
    have nolim : s.heap.NoLimit := env.mod.nolimit.keeps fun b o q => (env.bs b o q).1
    have kinds : ∀ y ∈ ps.zip us, scope.names.lookup y.1 = some .local ∨ (scope.names.lookup y.1 = some .cell ∧ ((cellsFrom (s.heap.objs.size + 1) scope.names []).lookup y.1).isSome = true) := by
      intro y hy
      obtain ⟨z, u⟩ := y
      cases sc.par z (List.of_mem_zip hy).1 with
      | inl q => exact .inl q
      | inr q => exact .inr ⟨q, PySem.W.cellsFrom_some _ _ _ (.inl q)⟩
    apply codeAny_call_function room.depth (inK _ _ lk) rfl sc.co sc.gen rfl (PySem.W.codeRec_of inK hcd)
    apply binds
    refine wpAny_newFunctionEnv_cells sc.kind kinds fun env1 he s1 hin => ?_
    cases he
    refine ⟨nolim.keeps hin.toInCall.keep, codeAny_func ?_⟩
    obtain ⟨t, ht, hq⟩ := hbody cdv A outer s H vs Q E (room.deeper _) hgd want
    have I0 := inv_start (CX := L2.CX P w) (E := E) sc room.hd env lengths rel hin
    refine wpAny_mono (ht.run [] s1 (start N vs) H _ I0 hq) ?_ fun _ _ q => q
    intro fl s' hs
    cases fl with
    | next =>
      obtain ⟨σ', H', J, q⟩ := hs
      exact ⟨V.non, H', J.os, J.bare, J.base, J.hok, rfl, q⟩
    | ret u =>
      obtain ⟨v, σ', H', J, rv, q⟩ := hs
      exact ⟨v, H', J.os, J.bare, J.base, J.hok, rv, q⟩
    | brk =>
      obtain ⟨_, _, _, q⟩ := hs
      exact q.elim
    | cont =>
      obtain ⟨_, _, _, q⟩ := hs
      exact q.elim
theorem FnG.up {j k : Nat} {f : Addr} {fd : FuncData} {ps : List Str} {sp : Sp} (F : FnG P w K mg base j f fd ps sp) (h : j ≤ k) : FnG P w K mg base k f fd ps sp :=
  ⟨F.len, fun A outer s H args us vs Q E hr hg => F.run A outer s H args us vs Q E (hr.mono h) hg⟩
end
/-- what a body needs of a callee: at the name x, with the defaults dws behind the written arguments -/
structure Cal (P : Program) (w : World) (K : PySem.W.Frag) (mg : Str → Option Value) (base : Heap) (A : Around) (x : Str) (dws : List V) (sp : Sp) : Prop where
  ex : ∃ (k : Nat) (f : Addr) (fd : FuncData) (ps : List Str) (ds : List Value), FnG P w K mg base k f fd ps sp ∧ Room k A ∧ mg x = some (.ref f) ∧ PySem.W.keepIn K (.ref f) = true ∧ Binds K fd ps ds ∧ Vals dws ds
  gd : A.guards = some []
section
variable {X : Cx} {x : Str} {dws : List V} {sp : Sp} {Wx : WX} {p pos : Pos} {e : Expr} {es : List Expr} {ta : TA}
theorem pe_cal (c : Cal X.prog X.w X.K X.mg X.base X.A x dws sp) (tk : Takes X Wx) (ha : PA X (e :: es) ta) (hg : Gl X x := by rfl) (hdb : (x == ("__debug__" : Str)) = false := by decide) (he : starEach (e :: es) X.env = (false, eval e X.env) :: starEach es X.env := by rfl)
    (hpl : (backTo pos (starEach es X.env)).any (·.1) = false := by rfl) : PE X (.Call (.Name x p) (e :: es) [] pos) (fun σ H Q => ta σ H fun vs H1 => sp (vs ++ dws) H1 Q (WE Wx σ)) := by
  obtain ⟨⟨k, f, fd, ps, ds, F, hr, hm, hk, hb, hd⟩, gd⟩ := c
  constructor
  intro pins s σ H Q I h
  apply wpAny_Call_Name_kw
  apply ld_glob I hg hm _ hdb
  apply PySem.W.callWith_K (h₀ := X.base) I.ok.mod.kin hk _ he hpl
  apply thn (ha.run pos pins s σ H _ I h)
  intro us s1 hh
  obtain ⟨vs, H1, I1, rel, want⟩ := hh
  refine ⟨I1.kIn, wpAny_call ?_⟩
  have rel2 : Vals (vs ++ dws) (us ++ ds) := rel.append hd
  have lens : (us ++ ds).length = ps.length := by
    rw [← rel2.length]
    exact F.len _ _ _ _ want
  refine codeAny_mono (F.run X.A X.stack s1 H1 ⟨us, []⟩ (us ++ ds) (vs ++ dws) Q _ hr gd I1.env0 (hb s1 us I1.kIn lens) rel2 want) ?_
  intro r s' hq
  rcases r with err | fl
  · exact passAt tk σ pins H1 s1 err s' I1 hq
  · cases fl with
    | ret u => exact I1.after hq
    | next => exact hq.elim
    | brk => exact hq.elim
    | cont => exact hq.elim
theorem pe_cal0 (c : Cal X.prog X.w X.K X.mg X.base X.A x dws sp) (tk : Takes X Wx) (hg : Gl X x := by rfl) (hdb : (x == ("__debug__" : Str)) = false := by decide) : PE X (.Call (.Name x p) [] [] pos) (fun σ H Q => sp dws H Q (WE Wx σ)) := by
  obtain ⟨⟨k, f, fd, ps, ds, F, hr, hm, hk, hb, hd⟩, gd⟩ := c
  constructor
  intro pins s σ H Q I h
  apply wpAny_Call_Name_kw
  apply ld_glob I hg hm _ hdb
  refine PySem.W.callWith_K0 I.kIn hk (wpAny_call ?_)
  have lens : ([] ++ ds).length = ps.length := by
    rw [List.nil_append, ← hd.length]
    exact F.len _ _ _ _ h
  refine codeAny_mono (F.run X.A X.stack s H ⟨[], []⟩ ([] ++ ds) dws Q _ hr gd I.env0 (hb s [] I.kIn lens) hd h) ?_
  intro r s' hq
  rcases r with err | fl
  · exact passAt tk σ pins H s err s' I hq
  · cases fl with
    | ret u => exact I.after hq
    | next => exact hq.elim
    | brk => exact hq.elim
    | cont => exact hq.elim
end

/-! ### what a def promises over data -/
/-- data in, data out -/
abbrev PSp := List PyData → (PyData → Prop) → (Addr → Prop) → Prop
/-- data in, a new list of data out -/
abbrev LSp := List PyData → (List PyData → Prop) → (Addr → Prop) → Prop
/-- an own cell and data in, data out -/
abbrev CSp := Cell → List PyData → (PyData → Cell → Prop) → (Addr → Cell → Prop) → Prop
/-- an own cell and data in, a new list of data out -/
abbrev CLSp := Cell → List PyData → (List PyData → Cell → Prop) → (Addr → Cell → Prop) → Prop
/-- a cell without cells in it -/
def flat : Cell → Bool
  | .l _ => true
  | .o _ fs => fs.all fun f => match f.2 with
    | .p _ => true
    | _ => false
  | _ => false
section
variable (K : PySem.W.Frag)
abbrev ExtP (G H G' H' : Hp) : Prop := Ext G [] H G' [] H' ∧ Same G' H'
def LiftP (psp : PSp) : Sp := fun vs H Q E => ∃ (G : Hp) (ds : List PyData) (R : PyData → Prop) (RX : Addr → Prop), DvL K G ds vs ∧ Same G H ∧ psp ds R RX ∧
  (∀ d G' v H', R d → ExtP G H G' H' → Dv K G' d v → Q v H') ∧ (∀ C G' H', RX C → ExtP G H G' H' → E (.ref C) none H')
def LiftL (lsp : LSp) : Sp := fun vs H Q E => ∃ (G : Hp) (ds : List PyData) (R : List PyData → Prop) (RX : Addr → Prop), DvL K G ds vs ∧ Same G H ∧ lsp ds R RX ∧
  (∀ es G' a xs H', R es → Ext G [] H G' [] H' → Same G' H' → H' a = some (.lst xs) → G' a = none → H a = none → DvL K G' es xs → Q (.ref a) H') ∧ (∀ C G' H', RX C → ExtP G H G' H' → E (.ref C) none H')
def LiftC (csp : CSp) : Sp := fun vs H Q E => ∃ (G : Hp) (a : Addr) (c : Cell) (ds : List PyData) (vs' : List V) (R : PyData → Cell → Prop) (RX : Addr → Cell → Prop), vs = .ref a :: vs' ∧ DvL K G ds vs' ∧ RepS K G [a] [c] H ∧ flat c = true ∧ csp c ds R RX ∧
  (∀ d c' G' v H', R d c' → flat c' = true → Ext G [a] H G' [a] H' → RepS K G' [a] [c'] H' → Dv K G' d v → Q v H') ∧ (∀ C c' G' H', RX C c' → flat c' = true → Ext G [a] H G' [a] H' → RepS K G' [a] [c'] H' → E (.ref C) none H')
def LiftCL (csp : CLSp) : Sp := fun vs H Q E => ∃ (G : Hp) (a : Addr) (c : Cell) (ds : List PyData) (vs' : List V) (R : List PyData → Cell → Prop) (RX : Addr → Cell → Prop), vs = .ref a :: vs' ∧ DvL K G ds vs' ∧ RepS K G [a] [c] H ∧ flat c = true ∧ csp c ds R RX ∧
  (∀ es c' G' b xs H', R es c' → flat c' = true → Ext G [a] H G' [a] H' → RepS K G' [a] [c'] H' → H' b = some (.lst xs) → G' b = none → H b = none → b ≠ a → DvL K G' es xs → Q (.ref b) H') ∧ (∀ C c' G' H', RX C c' → flat c' = true → Ext G [a] H G' [a] H' → RepS K G' [a] [c'] H' → E (.ref C) none H')
end
section
variable {K : PySem.W.Frag} {G G' : Hp} {as as' : List Addr} {S : So} {H H' : Hp} {c : Cell} {a : Addr}
theorem flat_ok : ∀ {c : Cell} {o : HO}, flat c = true → CellOk K G as c o → CellOk K G as' c o
  | .l ds, _, _, h => h
  | .o C fs, _, hf, ⟨dx, gs, e, h⟩ => by
    refine ⟨dx, gs, e, ?_⟩
    have key : ∀ {fs : List (Str × W)} {gs : List (Str × V)}, (fs.all fun f => match f.2 with | .p _ => true | _ => false) = true → RelFs K G as fs gs → RelFs K G as' fs gs := by
      intro fs gs hf h
      induction h with
      | nil => exact .nil
      | @cons f w v ws vs q r ih =>
        rw [List.all_cons] at hf
        obtain ⟨h1, h2⟩ := Bool.and_eq_true_iff.mp hf
        refine .cons ?_ (ih h2)
        cases w with
        | p d => exact q
        | _ => exact absurd h1 Bool.false_ne_true
    exact key hf h
  | .r _, _, hf, _ => absurd hf Bool.false_ne_true
  | .dead, _, hf, _ => absurd hf Bool.false_ne_true
theorem flat_nd {c : Cell} (h : flat c = true) : c ≠ .dead := fun e => by rw [e] at h; exact absurd h Bool.false_ne_true
/-- one cell alone -/
theorem RepS.one (r : RepS K G as S H) {k : Nat} (ha : as[k]? = some a) (hc : S[k]? = some c) (hf : flat c = true) : RepS K G [a] [c] H := ⟨r.sub, rfl, by simp, fun j b d h1 h2 => by
  cases j with
  | zero =>
    cases h1; cases h2
    obtain ⟨o, f1, f2, f3⟩ := r.cell k a c ha hc
    exact ⟨o, f1, flat_ok hf f2, f3⟩
  | succ j => simp at h1⟩
theorem RepS.fresh (r : RepS K G as S H) {b : Addr} (h : b ∈ as) : ∃ o, H b = some o := by
  obtain ⟨k, hk, e⟩ := List.getElem_of_mem h
  have hk2 : k < S.length := by rw [← r.len]; exact hk
  obtain ⟨u, f1, _⟩ := r.cell k b S[k] (by rw [List.getElem?_eq_getElem hk, e]) (List.getElem?_eq_getElem hk2)
  exact ⟨u, f1⟩
/-- a step that touches no cell -/
theorem RepS.over (r : RepS K G as S H) (e : Ext G [] H G' [] H') (s : Same G' H') : RepS K G' as S H' ∧ Ext G as H G' as H' :=
  ⟨⟨s, r.len, r.nd, fun k b d h1 h2 => by
    obtain ⟨o, f1, f2, f3⟩ := r.cell k b d h1 h2
    exact ⟨o, e.f b o f1 (by simp), f2.mono e.g fun _ _ q => q, fun hd => e.n b o f1 (f3 hd) (by simp)⟩⟩, ⟨e.g, ⟨[], by simp⟩, fun b o q _ => e.f b o q (by simp), fun b o q g _ => e.n b o q g (by simp), fun b m n => absurd m n⟩⟩
/-- a step that touches the cell k alone -/
theorem RepS.overC {c' : Cell} {k : Nat} (r : RepS K G as S H) (ha : as[k]? = some a) (hk : ∃ c, S[k]? = some c) (hf : flat c' = true) (e : Ext G [a] H G' [a] H') (r' : RepS K G' [a] [c'] H') : RepS K G' as (S.set k c') H' ∧ Ext G as H G' as H' := by
  have am : a ∈ as := List.mem_of_getElem? ha
  have ne : ∀ b, b ∉ as → b ∉ [a] := fun b hb hm => hb (by
    have : b = a := by simpa using hm
    rw [this]; exact am)
  obtain ⟨c0, hk⟩ := hk
  refine ⟨⟨r'.sub, by simpa using r.len, r.nd, fun j b d h1 h2 => ?_⟩, ⟨e.g, ⟨[], by simp⟩, fun b o q n => e.f b o q (ne b n), fun b o q g n => e.n b o q g (ne b n), fun b m n => absurd m n⟩⟩
  by_cases hj : k = j
  · subst hj
    rw [ha] at h1
    have hb : a = b := Option.some.inj h1
    subst hb
    rw [List.getElem?_set_self (List.getElem?_eq_some_iff.mp hk).1] at h2
    have hd : c' = d := Option.some.inj h2
    subst hd
    obtain ⟨o, f1, f2, f3⟩ := r'.cell 0 a c' rfl rfl
    exact ⟨o, f1, flat_ok hf f2, f3⟩
  · rw [List.getElem?_set_ne hj] at h2
    obtain ⟨o, f1, f2, f3⟩ := r.cell j b d h1 h2
    have hne : b ∉ [a] := fun hm => by
      have hb : b = a := by simpa using hm
      subst hb
      obtain ⟨q1, q2⟩ := List.getElem?_eq_some_iff.mp h1
      obtain ⟨q3, q4⟩ := List.getElem?_eq_some_iff.mp ha
      exact hj ((List.getElem_inj r.nd).mp (q4.trans q2.symm))
    exact ⟨o, e.f b o f1 hne, f2.mono e.g fun _ _ q => q, fun hd => e.n b o f1 (f3 hd) hne⟩
/-- a new list beside becomes data, or an own cell -/
theorem new_fin {nk : NewK} (n : IsNew nk) {ds : List PyData} {xs : List V} {b : Addr} {R : RK} {Q : VK} (r : RepS K G as S H) (hb : H b = some (.lst xs)) (gb : G b = none) (nb : b ∉ as) (dv : DvL K G ds xs) (h : nk ds S R)
    (hR : ∀ w S' G' as' v H', R w S' → Ext G as (del H b) G' as' H' → RepS K G' as' S' H' → RelW K G' as' w v → Q v H') : Q (.ref b) H := by
  have := (n.ok (r.del gb nb) dv h hR).2 b del_same
  rw [← upd_del, upd_self hb] at this
  exact this
theorem Ext.undel {b : Addr} (e : Ext G as H G' as' H') (hb : H b = none) : Ext G as H G' as' (del H' b) := ⟨e.g, e.a, fun x o h n => by rw [del_ne (ne_of_none h hb)]; exact e.f x o h n, e.n, e.w⟩
end

/-! ### calls over data -/
section
variable {X : Cx} {Wx : WX} {x : Str} {dws : List V} {dds : List PyData} {p pos : Pos} {e : Expr} {es : List Expr} {ma : MA}
/-- dds: the defaults as data -/
def mCallP (psp : PSp) (dds : List PyData) (ma : MA) : ME := fun ρ S R X => ma ρ S (fun ws S1 => ∃ ds, unp ws = some ds ∧ psp (ds ++ dds) (fun d => R (.p d) S1) (fun C => X C S1)) X
def mCallL (lsp : LSp) (nk : NewK) (dds : List PyData) (ma : MA) : ME := fun ρ S R X => ma ρ S (fun ws S1 => ∃ ds, unp ws = some ds ∧ lsp (ds ++ dds) (fun es => nk es S1 R) (fun C => X C S1)) X
def mCallC (csp : CSp) (ma : MA) : ME := fun ρ S R X => ma ρ S (fun ws S1 => ∃ k c us ds, ws = .c k :: us ∧ S1[k]? = some c ∧ flat c = true ∧ unp us = some ds ∧ csp c ds (fun d c' => R (.p d) (S1.set k c')) (fun C c' => X C (S1.set k c'))) X
def mCallCL (csp : CLSp) (nk : NewK) (ma : MA) : ME := fun ρ S R X => ma ρ S (fun ws S1 => ∃ k c us ds, ws = .c k :: us ∧ S1[k]? = some c ∧ flat c = true ∧ unp us = some ds ∧ csp c ds (fun es c' => nk es (S1.set k c') R) (fun C c' => X C (S1.set k c'))) X
theorem lift_callP {psp : PSp} (hd : ∀ G, DvL X.K G dds dws) {σ : L2.St} {H : Hp} {Q : VK} (h : Lift X.K Wx (RelW X.K) (mCallP psp dds ma) σ H Q) : Lift X.K Wx (RelWs X.K) ma σ H fun vs H1 => LiftP X.K psp (vs ++ dws) H1 Q (WE Wx σ) := by
  obtain ⟨G, as, ρ, S, R, RX, hE, hS, hm, hR, hX⟩ := h
  refine ⟨G, as, ρ, S, _, RX, hE, hS, hm, fun ws S1 G1 as1 vs H1 h1 e1 r1 rv => ?_, hX⟩
  obtain ⟨ds, u, h2⟩ := h1
  refine ⟨G1, ds ++ dds, _, _, (unp_rel rv u).append (hd G1), r1.sub, h2, fun d G' v H' hr ep dv => ?_, fun C G' H' hx ep => ?_⟩
  · obtain ⟨r2, x2⟩ := r1.over ep.1 ep.2
    exact hR _ S1 G' as1 v H' hr (e1.trans x2) r2 dv
  · obtain ⟨r2, x2⟩ := r1.over ep.1 ep.2
    exact hX C S1 G' as1 H' hx (e1.trans x2) r2
theorem lift_callL {lsp : LSp} {nk : NewK} (n : IsNew nk) (hd : ∀ G, DvL X.K G dds dws) {σ : L2.St} {H : Hp} {Q : VK} (h : Lift X.K Wx (RelW X.K) (mCallL lsp nk dds ma) σ H Q) : Lift X.K Wx (RelWs X.K) ma σ H fun vs H1 => LiftL X.K lsp (vs ++ dws) H1 Q (WE Wx σ) := by
  obtain ⟨G, as, ρ, S, R, RX, hE, hS, hm, hR, hX⟩ := h
  refine ⟨G, as, ρ, S, _, RX, hE, hS, hm, fun ws S1 G1 as1 vs H1 h1 e1 r1 rv => ?_, hX⟩
  obtain ⟨ds, u, h2⟩ := h1
  refine ⟨G1, ds ++ dds, _, _, (unp_rel rv u).append (hd G1), r1.sub, h2, fun es G' a xs H' hr ep sm ha ga fa dv => ?_, fun C G' H' hx ep => ?_⟩
  · obtain ⟨r2, x2⟩ := r1.over ep sm
    have na : a ∉ as1 := fun m => by
      obtain ⟨o, q⟩ := r1.fresh m
      rw [fa] at q; cases q
    exact new_fin n r2 ha ga na dv hr fun w S' G2 as2 v H2 hr2 e2 r3 rv2 => hR w S' G2 as2 v H2 hr2 (e1.trans ((x2.undel fa).trans e2)) r3 rv2
  · obtain ⟨r2, x2⟩ := r1.over ep.1 ep.2
    exact hX C S1 G' as1 H' hx (e1.trans x2) r2
theorem lift_callC {csp : CSp} {σ : L2.St} {H : Hp} {Q : VK} (h : Lift X.K Wx (RelW X.K) (mCallC csp ma) σ H Q) : Lift X.K Wx (RelWs X.K) ma σ H fun vs H1 => LiftC X.K csp (vs ++ []) H1 Q (WE Wx σ) := by
  obtain ⟨G, as, ρ, S, R, RX, hE, hS, hm, hR, hX⟩ := h
  refine ⟨G, as, ρ, S, _, RX, hE, hS, hm, fun ws S1 G1 as1 vs H1 h1 e1 r1 rv => ?_, hX⟩
  obtain ⟨k, c, us, ds, rfl, hk, hf, u, h2⟩ := h1
  cases rv with
  | cons q0 rr =>
    obtain ⟨a, ha, rfl⟩ := q0
    rename_i vs'
    refine ⟨G1, a, c, ds, vs', _, _, by rw [List.append_nil], unp_rel rr u, r1.one ha hk hf, hf, h2, fun d c' G' v H' hr hf' ep r2 dv => ?_, fun C c' G' H' hx hf' ep r2 => ?_⟩
    · obtain ⟨r3, x3⟩ := r1.overC ha ⟨c, hk⟩ hf' ep r2
      exact hR _ _ G' as1 v H' hr (e1.trans x3) r3 dv
    · obtain ⟨r3, x3⟩ := r1.overC ha ⟨c, hk⟩ hf' ep r2
      exact hX C _ G' as1 H' hx (e1.trans x3) r3
theorem lift_callCL {csp : CLSp} {nk : NewK} (n : IsNew nk) {σ : L2.St} {H : Hp} {Q : VK} (h : Lift X.K Wx (RelW X.K) (mCallCL csp nk ma) σ H Q) : Lift X.K Wx (RelWs X.K) ma σ H fun vs H1 => LiftCL X.K csp (vs ++ []) H1 Q (WE Wx σ) := by
  obtain ⟨G, as, ρ, S, R, RX, hE, hS, hm, hR, hX⟩ := h
  refine ⟨G, as, ρ, S, _, RX, hE, hS, hm, fun ws S1 G1 as1 vs H1 h1 e1 r1 rv => ?_, hX⟩
  obtain ⟨k, c, us, ds, rfl, hk, hf, u, h2⟩ := h1
  cases rv with
  | cons q0 rr =>
    obtain ⟨a, ha, rfl⟩ := q0
    rename_i vs'
    refine ⟨G1, a, c, ds, vs', _, _, by rw [List.append_nil], unp_rel rr u, r1.one ha hk hf, hf, h2, fun es c' G' b xs H' hr hf' ep r2 hb gb fb nb dv => ?_, fun C c' G' H' hx hf' ep r2 => ?_⟩
    · obtain ⟨r3, x3⟩ := r1.overC ha ⟨c, hk⟩ hf' ep r2
      have na : b ∉ as1 := fun m => by
        obtain ⟨o, q⟩ := r1.fresh m
        rw [fb] at q; cases q
      exact new_fin n r3 hb gb na dv hr fun w S' G2 as2 v H2 hr2 e2 r4 rv2 => hR w S' G2 as2 v H2 hr2 (e1.trans ((x3.undel fb).trans e2)) r4 rv2
    · obtain ⟨r3, x3⟩ := r1.overC ha ⟨c, hk⟩ hf' ep r2
      exact hX C _ G' as1 H' hx (e1.trans x3) r3
theorem qe_callP {psp : PSp} (hd : ∀ G, DvL X.K G dds dws) (c : Cal X.prog X.w X.K X.mg X.base X.A x dws (LiftP X.K psp)) (tk : Takes X Wx) (ha : QA X Wx (e :: es) ma) (hg : Gl X x := by rfl) (hdb : (x == ("__debug__" : Str)) = false := by decide) (he : starEach (e :: es) X.env = (false, eval e X.env) :: starEach es X.env := by rfl)
    (hpl : (backTo pos (starEach es X.env)).any (·.1) = false := by rfl) : QE X Wx (.Call (.Name x p) (e :: es) [] pos) (mCallP psp dds ma) := (pe_cal c tk ha hg hdb he hpl).weak fun _ _ _ h => lift_callP hd h
theorem qe_callL {lsp : LSp} {nk : NewK} (n : IsNew nk) (hd : ∀ G, DvL X.K G dds dws) (c : Cal X.prog X.w X.K X.mg X.base X.A x dws (LiftL X.K lsp)) (tk : Takes X Wx) (ha : QA X Wx (e :: es) ma) (hg : Gl X x := by rfl) (hdb : (x == ("__debug__" : Str)) = false := by decide) (he : starEach (e :: es) X.env = (false, eval e X.env) :: starEach es X.env := by rfl)
    (hpl : (backTo pos (starEach es X.env)).any (·.1) = false := by rfl) : QE X Wx (.Call (.Name x p) (e :: es) [] pos) (mCallL lsp nk dds ma) := (pe_cal c tk ha hg hdb he hpl).weak fun _ _ _ h => lift_callL n hd h
theorem qe_callC {csp : CSp} (c : Cal X.prog X.w X.K X.mg X.base X.A x [] (LiftC X.K csp)) (tk : Takes X Wx) (ha : QA X Wx (e :: es) ma) (hg : Gl X x := by rfl) (hdb : (x == ("__debug__" : Str)) = false := by decide) (he : starEach (e :: es) X.env = (false, eval e X.env) :: starEach es X.env := by rfl)
    (hpl : (backTo pos (starEach es X.env)).any (·.1) = false := by rfl) : QE X Wx (.Call (.Name x p) (e :: es) [] pos) (mCallC csp ma) := (pe_cal c tk ha hg hdb he hpl).weak fun _ _ _ h => lift_callC h
theorem qe_callCL {csp : CLSp} {nk : NewK} (n : IsNew nk) (c : Cal X.prog X.w X.K X.mg X.base X.A x [] (LiftCL X.K csp)) (tk : Takes X Wx) (ha : QA X Wx (e :: es) ma) (hg : Gl X x := by rfl) (hdb : (x == ("__debug__" : Str)) = false := by decide) (he : starEach (e :: es) X.env = (false, eval e X.env) :: starEach es X.env := by rfl)
    (hpl : (backTo pos (starEach es X.env)).any (·.1) = false := by rfl) : QE X Wx (.Call (.Name x p) (e :: es) [] pos) (mCallCL csp nk ma) := (pe_cal c tk ha hg hdb he hpl).weak fun _ _ _ h => lift_callCL n h
end
end Fd
set_option maxRecDepth 100000
set_option maxHeartbeats 2000000
namespace Fd
open PySem PySem.Spec PyProof.Rows L2

/-! ### a def by its body's reading over data -/
def dataW : W → (PyData → Prop) → Prop
  | .p d, k => k d
  | _, _ => False
def listW (S : So) : W → (List PyData → Prop) → Prop
  | .c k, q => match S[k]? with
    | some (.l ds) => q ds
    | _ => False
  | _, _ => False
def cellW : So → (Cell → Prop) → Prop
  | c :: _, k => flat c = true ∧ k c
  | [], _ => False
def endsP (Q : PyData → Prop) (E : Addr → Prop) : MEnds := { nx := fun _ _ => Q .none, rt := fun w _ => dataW w Q, ex := fun C _ _ => E C }
def endsL (Q : List PyData → Prop) (E : Addr → Prop) : MEnds := { nx := fun _ _ => False, rt := fun w S => listW S w Q, ex := fun C _ _ => E C }
def endsC (Q : PyData → Cell → Prop) (E : Addr → Cell → Prop) : MEnds := { nx := fun _ S => cellW S fun c => Q .none c, rt := fun w S => dataW w fun d => cellW S fun c => Q d c, ex := fun C _ S => cellW S fun c => E C c }
def endsCL (Q : List PyData → Cell → Prop) (E : Addr → Cell → Prop) : MEnds := { nx := fun _ _ => False, rt := fun w S => ∃ k, w = .c (k + 1) ∧ listW S w fun ds => cellW S fun c => Q ds c, ex := fun C _ S => cellW S fun c => E C c }
/-- the slots at the entry -/
def stE (n : Nat) (ws : List W) : En := ws.map some ++ List.replicate (n - ws.length) none
theorem stE_rel {K : PySem.W.Frag} {G : Hp} {as : List Addr} {N : List Str} {ws : List W} {vs : List V} (h : RelWs K G as ws vs) : RepE K G as (stE N.length ws) (L2.start N vs) := by
  unfold stE L2.start
  refine ⟨by simp [h.length], fun i w e => ?_⟩
  have key : ∀ {ws : List W} {vs : List V} {i : Nat} {w : W}, RelWs K G as ws vs → ws[i]? = some w → ∃ v, vs[i]? = some v ∧ RelW K G as w v := by
    intro ws vs i w h
    induction h generalizing i with
    | nil => intro e; simp at e
    | cons q r ih =>
      intro e
      cases i with
      | zero => simp at e; subst e; exact ⟨_, rfl, q⟩
      | succ i =>
        obtain ⟨v, h1, h2⟩ := ih (i := i) (by simpa using e)
        exact ⟨v, by simpa using h1, h2⟩
  by_cases hi : i < ws.length
  · rw [List.getElem?_append_left (by simpa using hi), List.getElem?_map] at e
    cases q : ws[i]? with
    | none => rw [q] at e; cases e
    | some u =>
      rw [q] at e
      have e' : u = w := Option.some.inj (Option.some.inj e)
      subst e'
      obtain ⟨v, h1, h2⟩ := key h q
      refine ⟨v, ?_, h2⟩
      rw [List.getElem?_append_left (by rw [List.length_map, h.length]; exact hi), List.getElem?_map, h1]; rfl
  · rw [List.getElem?_append_right (by simpa using hi), List.getElem?_replicate] at e
    split at e <;> cases e
section
variable {P : Program} {w : World} {K : PySem.W.Frag} {mg : Str → Option Value} {base : Heap} {x qual : Str} {params : Arguments} {body : List Stmt} {scope : Scope} {dvs : List V} {kws : List (Str × V)} {f : Addr} {fd : FuncData} {N ps : List Str} {k : Nat} {m : MS}
/-- what the derivation of a body is given -/
abbrev BodyQ (P : Program) (w : World) (K : PySem.W.Frag) (mg : Str → Option Value) (base : Heap) (N : List Str) (qual : Str) (scope : Scope) (f : Addr) (k : Nat) (body : List Stmt) (m : MS) : Prop :=
  ∀ (cdv : Value) (A : Around) (outer : List Env) (s : Shared) (H : Hp) (E : XK), Room k (A.deeper (envOfC qual scope s.heap.objs.size f cdv)) → (A.deeper (envOfC qual scope s.heap.objs.size f cdv)).guards = some [] →
    Takes (cxOf (L2.CX P w) P w K mg base N qual scope f cdv A outer s H E) (fun cls d _ H' => E cls d H') →
    PassesOwn (model P w) (cxOf (L2.CX P w) P w K mg base N qual scope f cdv A outer s H E).A (cxOf (L2.CX P w) P w K mg base N qual scope f cdv A outer s H E).env (cxOf (L2.CX P w) P w K mg base N qual scope f cdv A outer s H E).xe →
    QSs (cxOf (L2.CX P w) P w K mg base N qual scope f cdv A outer s H E) (fun cls d _ H' => E cls d H') body m
theorem RelWs.ofD {G : Hp} {as : List Addr} {ds : List PyData} {vs : List V} (h : DvL K G ds vs) : RelWs K G as (ds.map .p) vs := RelWs.ofDvL h
theorem body_run {sp : Sp} (F : FunD K x qual params body scope dvs kws f fd) (sc : FnScope N ps scope) (hlen : ∀ vs H Q E, sp vs H Q E → vs.length = ps.length) (hb : BodyQ P w K mg base N qual scope f k body m)
    (hq : ∀ vs H Q E, sp vs H Q E → LiftS K (fun cls d _ H' => E cls d H') m { nx := fun _ H' => Q .non H', rt := Q } (L2.start N vs) H) : FnG P w K mg base (k + 1) f fd ps sp :=
  fnG_of F sc hlen fun cdv A outer s H vs Q E hr hg want => ⟨_, hb cdv A outer s H E hr hg (takes_of rfl rfl rfl rfl) (passes_of rfl), hq vs H Q E want⟩
theorem okP {psp : PSp} (F : FunD K x qual params body scope dvs kws f fd) (sc : FnScope N ps scope) (hb : BodyQ P w K mg base N qual scope f k body m) (hl : ∀ ds Q E, psp ds Q E → ds.length = ps.length)
    (hq : ∀ ds Q E, psp ds Q E → m (endsP Q E) (stE N.length (ds.map .p)) []) : FnG P w K mg base (k + 1) f fd ps (LiftP K psp) :=
  body_run F sc (fun vs H Q E ⟨G, ds, R, RX, dv, _, h, _⟩ => by rw [dv.length]; exact hl ds R RX h) hb fun vs H Q E ⟨G, ds, R, RX, dv, sm, h, hR, hX⟩ => by
  refine ⟨G, [], _, [], _, stE_rel (RelWs.ofDvL dv), ⟨sm, rfl, by simp, fun k a c h _ => by simp at h⟩, hq ds R RX h, ⟨fun ρ S G' as' σ H' b e rE rS => ?_, fun w S G' as' v H' b e rS rv => ?_, fun _ _ _ _ _ _ b => b.elim, fun _ _ _ _ _ _ b => b.elim, fun C ρ S G' as' σ H' b e rE rS => ?_⟩⟩
  · exact hR _ G' _ H' b ⟨e0 e, rS.sub⟩ .non
  · cases w with
    | p d => exact hR d G' v H' b ⟨e0 e, rS.sub⟩ rv
    | _ => exact b.elim
  · exact hX C G' H' b ⟨e0 e, rS.sub⟩
where
  e0 {G H G' H' : Hp} {as' : List Addr} (e : Ext G [] H G' as' H') : Ext G [] H G' [] H' := ⟨e.g, ⟨[], rfl⟩, e.f, e.n, fun _ m _ => absurd m (by simp)⟩
theorem okL {lsp : LSp} (F : FunD K x qual params body scope dvs kws f fd) (sc : FnScope N ps scope) (hb : BodyQ P w K mg base N qual scope f k body m) (hl : ∀ ds Q E, lsp ds Q E → ds.length = ps.length)
    (hq : ∀ ds Q E, lsp ds Q E → m (endsL Q E) (stE N.length (ds.map .p)) []) : FnG P w K mg base (k + 1) f fd ps (LiftL K lsp) :=
  body_run F sc (fun vs H Q E ⟨G, ds, R, RX, dv, _, h, _⟩ => by rw [dv.length]; exact hl ds R RX h) hb fun vs H Q E ⟨G, ds, R, RX, dv, sm, h, hR, hX⟩ => by
  refine ⟨G, [], _, [], _, stE_rel (RelWs.ofDvL dv), ⟨sm, rfl, by simp, fun k a c h _ => by simp at h⟩, hq ds R RX h, ⟨fun ρ S G' as' σ H' b e rE rS => b.elim, fun w S G' as' v H' b e rS rv => ?_, fun _ _ _ _ _ _ b => b.elim, fun _ _ _ _ _ _ b => b.elim, fun C ρ S G' as' σ H' b e rE rS => ?_⟩⟩
  · cases w with
    | c k =>
      obtain ⟨a, ha, rfl⟩ := rv
      have b' : (match S[k]? with | some (.l ds) => R ds | _ => False) := b
      split at b'
      · rename_i ds' hk
        obtain ⟨o, f1, ⟨xs, rfl, f2⟩, f3⟩ := rS.cell k a _ ha hk
        exact hR ds' G' a xs H' b' (okP.e0 e) rS.sub f1 (f3 fun z => by cases z) (e.w a (List.mem_of_getElem? ha) (by simp)) f2
      · exact b'.elim
    | _ => exact b.elim
  · exact hX C G' H' b ⟨okP.e0 e, rS.sub⟩
theorem one_back {G H G' H' : Hp} {a : Addr} {as' : List Addr} {S : So} {c : Cell} (e : Ext G [a] H G' as' H') (rS : RepS K G' as' (c :: S) H') (hf : flat c = true) : Ext G [a] H G' [a] H' ∧ RepS K G' [a] [c] H' := by
  obtain ⟨bs, hb⟩ := e.a
  refine ⟨⟨e.g, ⟨[], rfl⟩, e.f, e.n, fun b m n => absurd m n⟩, rS.one (k := 0) ?_ rfl hf⟩
  rw [hb]; rfl
theorem okC {csp : CSp} (F : FunD K x qual params body scope dvs kws f fd) (sc : FnScope N ps scope) (hb : BodyQ P w K mg base N qual scope f k body m) (hl : ∀ c ds Q E, csp c ds Q E → ds.length + 1 = ps.length)
    (hq : ∀ c ds Q E, flat c = true → csp c ds Q E → m (endsC Q E) (stE N.length (.c 0 :: ds.map .p)) [c]) : FnG P w K mg base (k + 1) f fd ps (LiftC K csp) :=
  body_run F sc (fun vs H Q E ⟨G, a, c, ds, vs', R, RX, e, dv, _, _, h, _⟩ => by rw [e, List.length_cons, dv.length]; exact hl c ds R RX h) hb fun vs H Q E ⟨G, a, c, ds, vs', R, RX, e0, dv, r, hf, h, hR, hX⟩ => by
  subst e0
  refine ⟨G, [a], _, [c], _, stE_rel (.cons (w := .c 0) (show RelW K G [a] (.c 0) (.ref a) from ⟨a, rfl, rfl⟩) (RelWs.ofDvL dv)), r, hq c ds R RX hf h, ⟨fun ρ S G' as' σ H' b e rE rS => ?_, fun w S G' as' v H' b e rS rv => ?_, fun _ _ _ _ _ _ b => b.elim, fun _ _ _ _ _ _ b => b.elim, fun C ρ S G' as' σ H' b e rE rS => ?_⟩⟩
  · cases S with
    | nil => exact b.elim
    | cons c' S =>
      obtain ⟨h1, h2⟩ := b
      obtain ⟨x1, x2⟩ := one_back e rS h1
      exact hR _ c' G' _ H' h2 h1 x1 x2 .non
  · cases w with
    | p d =>
      cases S with
      | nil => exact b.elim
      | cons c' S =>
        obtain ⟨h1, h2⟩ := (show flat c' = true ∧ R d c' from b)
        obtain ⟨x1, x2⟩ := one_back e rS h1
        exact hR _ c' G' _ H' h2 h1 x1 x2 rv
    | _ => exact b.elim
  · cases S with
    | nil => exact b.elim
    | cons c' S =>
      obtain ⟨h1, h2⟩ := b
      obtain ⟨x1, x2⟩ := one_back e rS h1
      exact hX _ c' G' H' h2 h1 x1 x2
theorem okCL {csp : CLSp} (F : FunD K x qual params body scope dvs kws f fd) (sc : FnScope N ps scope) (hb : BodyQ P w K mg base N qual scope f k body m) (hl : ∀ c ds Q E, csp c ds Q E → ds.length + 1 = ps.length)
    (hq : ∀ c ds Q E, flat c = true → csp c ds Q E → m (endsCL Q E) (stE N.length (.c 0 :: ds.map .p)) [c]) : FnG P w K mg base (k + 1) f fd ps (LiftCL K csp) :=
  body_run F sc (fun vs H Q E ⟨G, a, c, ds, vs', R, RX, e, dv, _, _, h, _⟩ => by rw [e, List.length_cons, dv.length]; exact hl c ds R RX h) hb fun vs H Q E ⟨G, a, c, ds, vs', R, RX, e0, dv, r, hf, h, hR, hX⟩ => by
  subst e0
  refine ⟨G, [a], _, [c], _, stE_rel (.cons (w := .c 0) (show RelW K G [a] (.c 0) (.ref a) from ⟨a, rfl, rfl⟩) (RelWs.ofDvL dv)), r, hq c ds R RX hf h, ⟨fun ρ S G' as' σ H' b e rE rS => b.elim, fun w S G' as' v H' b e rS rv => ?_, fun _ _ _ _ _ _ b => b.elim, fun _ _ _ _ _ _ b => b.elim, fun C ρ S G' as' σ H' b e rE rS => ?_⟩⟩
  · obtain ⟨k, rfl, b⟩ := b
    obtain ⟨z, hz, rfl⟩ := rv
    have b' : (match S[k + 1]? with | some (.l ds) => cellW S fun c => R ds c | _ => False) := b
    split at b'
    · rename_i ds' hk
      cases S with
      | nil => exact b'.elim
      | cons c' S =>
        obtain ⟨h1, h2⟩ := b'
        obtain ⟨x1, x2⟩ := one_back e rS h1
        obtain ⟨o, f1, ⟨xs, rfl, f2⟩, f3⟩ := rS.cell _ z _ hz hk
        have nz : z ≠ a := fun q => by
          obtain ⟨bs, hb⟩ := e.a
          rw [hb] at hz
          have h3 : (([a] ++ bs) : List Addr)[0]? = some z := by rw [q]; rfl
          obtain ⟨l1, e1⟩ := List.getElem?_eq_some_iff.mp hz
          obtain ⟨l2, e2⟩ := List.getElem?_eq_some_iff.mp h3
          have nd := rS.nd
          rw [hb] at nd
          exact absurd ((List.getElem_inj nd).mp (e1.trans e2.symm)) (by omega)
        exact hR ds' c' G' z xs H' h2 h1 x1 x2 f1 (f3 fun q => by cases q) (e.w z (List.mem_of_getElem? hz) (by simpa using nz)) nz f2
    · exact b'.elim
  · cases S with
    | nil => exact b.elim
    | cons c' S =>
      obtain ⟨h1, h2⟩ := b
      obtain ⟨x1, x2⟩ := one_back e rS h1
      exact hX _ c' G' H' h2 h1 x1 x2
end
/-- what a def keeps, for whoever calls it with the defaults dws behind the written arguments -/
structure CalF (P : Program) (w : World) (K : PySem.W.Frag) (mg : Str → Option Value) (base : Heap) (k : Nat) (x : Str) (dws : List V) (sp : Sp) : Prop where
  at_ : ∀ {A : Around} {j : Nat}, Room j A → A.guards = some [] → k ≤ j → Cal P w K mg base A x dws sp
theorem calF_of {P : Program} {w : World} {K : PySem.W.Frag} {mg : Str → Option Value} {base : Heap} {k : Nat} {x : Str} {dws : List V} {sp : Sp} {f : Addr} {fd : FuncData} {ps : List Str} (F : FnG P w K mg base k f fd ps sp) (g : mg x = some (.ref f)) (kp : PySem.W.keepIn K (.ref f) = true)
    (hb : ∃ ds, Vals dws ds ∧ Binds K fd ps ds) : CalF P w K mg base k x dws sp := ⟨fun hr hg h => by
  obtain ⟨ds, h1, h2⟩ := hb
  exact ⟨⟨k, f, fd, ps, ds, F, hr.mono h, g, kp, h2, h1⟩, hg⟩⟩
end Fd
set_option maxRecDepth 100000
set_option maxHeartbeats 2000000
namespace Fd
open PySem PySem.Spec PyProof.Rows L2
def iNeg (w : W) (S : So) (R : RK) : Prop := intW w fun i => R (.p (.int (-i))) S
section
variable {X : Cx} {Wx : WX} {a b e : Expr} {ma mb me : ME} {pos p : Pos}
theorem qe_neg (ha : QE X Wx a ma) : QE X Wx (.UnaryOp .USub a pos) (mUn iNeg ma) := qe_un un_neg (fun G as S H w1 v1 R Q r h1 h hR => by
  obtain ⟨i, rfl, _, q⟩ := intW_ok h1 h
  exact ⟨i, rfl, hR _ S G as _ H q Ext.refl r (.int _)⟩) ha
theorem gName_ok {K : PySem.W.Frag} (i : Nat) : GOk K (gName i) (mgN i) := ⟨fun G as ρ σ S H w v k Q hE hS rv h hQ => hQ _ _ (hE.set rv) h⟩
end
/-- the exceptions' facts at once -/
theorem exc_facts {K : PySem.W.Frag} {mg : Str → Option Value} {X : Cx} {x : Str} {C : Addr} (hK : X.K = K) (hM : X.mg = mg) (g : mg x = some (.ref C)) (c : PySem.W.excIn K C He.veBase "ValueError.__new__" = true ∧ PySem.W.keepIn K (.ref C) = true ∧ PySem.W.subIn K (.ref C) (.type "BaseException") = some true ∧ PySem.W.typeIn K (.ref C) = some (.type "type")) :
    PySem.W.excIn X.K C He.veBase "ValueError.__new__" = true ∧ X.mg x = some (.ref C) ∧ PySem.W.keepIn X.K (.ref C) = true ∧ Raises X (.ref C) := by
  subst hK; subst hM
  exact ⟨c.1, g, c.2.1, raises_own c.2.2.1 c.2.2.2⟩
end Fd
set_option maxRecDepth 100000
set_option maxHeartbeats 2000000
namespace Fd
open PySem PySem.Spec PyProof.Rows L2
/-! ### forms for the proofs over data -/
section
variable {g : MG} {mt : MT} {me : ME} {ρw : En} {S : So} {fin : List PyData → So → Prop} {gd : So → Prop}
abbrev LcGoal (items : List W) (g : MG) (mt : MT) (me : ME) (ρw : En) (S : So) (fin : List PyData → So → Prop) (gd : So → Prop) : Prop := items.length ≤ small ∧ ∃ J : Nat → List PyData → So → Prop, J 0 [] S ∧
  (∀ i it acc S', items[i]? = some it → J i acc S' → stepLc g mt me ρw it S' (fun d S4 => J (i + 1) (acc ++ [d]) S4) (fun S3 => J (i + 1) acc S3)) ∧ (∀ acc S', J items.length acc S' → fin acc S') ∧ ∀ i acc S', J i acc S' → gd S'
theorem lc_some {items : List W} (f : W → Option PyData) (hl : items.length ≤ small) (hs : ∀ it ∈ items, ∀ (Y : PyData → So → Prop) (Z : So → Prop), (∀ d, f it = some d → Y d S) → (f it = none → Z S) → stepLc g mt me ρw it S Y Z)
    (he : fin (items.filterMap f) S) (hgd : gd S := by first | trivial | exact ⟨trivial, trivial⟩) : LcGoal items g mt me ρw S fin gd := by
  refine ⟨hl, fun i acc S' => acc = (items.take i).filterMap f ∧ S' = S, ⟨by simp, rfl⟩, fun i it acc S' hi hJ => ?_, fun acc S' hJ => ?_, fun _ _ _ hJ => by rw [hJ.2]; exact hgd⟩
  · obtain ⟨rfl, rfl⟩ := hJ
    have hm : it ∈ items := List.mem_of_getElem? hi
    have ht : items.take (i + 1) = items.take i ++ [it] := by rw [List.take_add_one, hi]; rfl
    refine hs it hm _ _ (fun d e => ⟨?_, rfl⟩) fun e => ⟨?_, rfl⟩
    · rw [ht, List.filterMap_append]; simp [e]
    · rw [ht, List.filterMap_append]; simp [e]
  · obtain ⟨rfl, rfl⟩ := hJ
    rw [List.take_length]; exact he
/-- over data, every item kept -/
theorem lc_map {ds : List PyData} (h : PyData → PyData) (hl : ds.length ≤ small) (hs : ∀ d ∈ ds, ∀ (Y : PyData → So → Prop) (Z : So → Prop), Y (h d) S → stepLc g mt me ρw (.p d) S Y Z) (he : fin (ds.map h) S) (hgd : gd S := by first | trivial | exact ⟨trivial, trivial⟩) : LcGoal (ds.map .p) g mt me ρw S fin gd := by
  refine lc_some (fun w => match w with | .p d => some (h d) | _ => none) (by simpa using hl) (fun it hit Y Z hy hz => ?_) ?_ hgd
  · obtain ⟨d, hd, rfl⟩ := List.mem_map.mp hit
    exact hs d hd Y Z (hy _ rfl)
  · rw [List.filterMap_map]
    rw [show ((fun w => match w with | W.p d => some (h d) | _ => none) ∘ W.p) = (some ∘ h) from rfl, List.filterMap_eq_map]
    exact he
/-- over data, some items kept -/
theorem lc_fil {ds : List PyData} (h : PyData → Option PyData) (hl : ds.length ≤ small) (hs : ∀ d ∈ ds, ∀ (Y : PyData → So → Prop) (Z : So → Prop), (∀ e, h d = some e → Y e S) → (h d = none → Z S) → stepLc g mt me ρw (.p d) S Y Z) (he : fin (ds.filterMap h) S) (hgd : gd S := by first | trivial | exact ⟨trivial, trivial⟩) : LcGoal (ds.map .p) g mt me ρw S fin gd := by
  refine lc_some (fun w => match w with | .p d => h d | _ => none) (by simpa using hl) (fun it hit Y Z hy hz => ?_) ?_ hgd
  · obtain ⟨d, hd, rfl⟩ := List.mem_map.mp hit
    exact hs d hd Y Z hy hz
  · rw [List.filterMap_map]; exact he
/-- over range(..) -/
theorem lc_rng {lo : Int} {n : Nat} (h : Nat → PyData) (hl : n ≤ small) (hs : ∀ i, i < n → ∀ (Y : PyData → So → Prop) (Z : So → Prop), Y (h i) S → stepLc g mt me ρw (.p (.int (lo + (i : Nat)))) S Y Z) (he : fin ((List.range n).map h) S) (hgd : gd S := by first | trivial | exact ⟨trivial, trivial⟩) : LcGoal (rangeW lo n) g mt me ρw S fin gd := by
  refine ⟨by rw [rangeW_len]; exact hl, fun i acc S' => acc = (List.range i).map h ∧ S' = S, ⟨by simp, rfl⟩, fun i it acc S' hi hJ => ?_, fun acc S' hJ => ?_, fun _ _ _ hJ => by rw [hJ.2]; exact hgd⟩
  · obtain ⟨rfl, rfl⟩ := hJ
    have hlt : i < n := by have := (List.getElem?_eq_some_iff.mp hi).1; rw [rangeW_len] at this; exact this
    rw [rangeW_get hlt] at hi
    cases hi
    exact hs i hlt _ _ ⟨by rw [List.range_succ, List.map_append]; rfl, rfl⟩
  · obtain ⟨rfl, rfl⟩ := hJ
    rw [rangeW_len]; exact he
/-- over zip -/
theorem lc_zip {ds es : List PyData} (h : PyData → PyData → PyData) (hl : min ds.length es.length ≤ small) (hs : ∀ d e, (d, e) ∈ ds.zip es → ∀ (Y : PyData → So → Prop) (Z : So → Prop), Y (h d e) S → stepLc g mt me ρw (.p (.tuple [d, e])) S Y Z) (he : fin ((ds.zip es).map fun p => h p.1 p.2) S) (hgd : gd S := by first | trivial | exact ⟨trivial, trivial⟩) : LcGoal (zipW ds es) g mt me ρw S fin gd := by
  refine lc_some (fun w => match w with | .p (.tuple [d, e]) => some (h d e) | _ => none) (by rw [zipW_len]; exact hl) (fun it hit Y Z hy hz => ?_) ?_ hgd
  · unfold zipW at hit
    obtain ⟨⟨d, e⟩, hd, rfl⟩ := List.mem_map.mp hit
    exact hs d e hd Y Z (hy _ rfl)
  · unfold zipW
    rw [List.filterMap_map]
    rw [show ((fun w => match w with | W.p (.tuple [d, e]) => some (h d e) | _ => none) ∘ fun p : PyData × PyData => W.p (.tuple [p.1, p.2])) = (some ∘ fun p : PyData × PyData => h p.1 p.2) from rfl, List.filterMap_eq_map]
    exact he
theorem lc_zipF {ds es : List PyData} (h : PyData → PyData → Option PyData) (hl : min ds.length es.length ≤ small) (hs : ∀ d e, (d, e) ∈ ds.zip es → ∀ (Y : PyData → So → Prop) (Z : So → Prop), (∀ z, h d e = some z → Y z S) → (h d e = none → Z S) → stepLc g mt me ρw (.p (.tuple [d, e])) S Y Z) (he : fin ((ds.zip es).filterMap fun p => h p.1 p.2) S) (hgd : gd S := by first | trivial | exact ⟨trivial, trivial⟩) : LcGoal (zipW ds es) g mt me ρw S fin gd := by
  refine lc_some (fun w => match w with | .p (.tuple [d, e]) => h d e | _ => none) (by rw [zipW_len]; exact hl) (fun it hit Y Z hy hz => ?_) ?_ hgd
  · unfold zipW at hit
    obtain ⟨⟨d, e⟩, hd, rfl⟩ := List.mem_map.mp hit
    exact hs d e hd Y Z hy hz
  · unfold zipW
    rw [List.filterMap_map]; exact he
/-- over enumerate -/
theorem lc_enumF {ds : List PyData} (h : Nat → PyData → Option PyData) (hl : ds.length ≤ small) (hs : ∀ i d, ds[i]? = some d → ∀ (Y : PyData → So → Prop) (Z : So → Prop), (∀ z, h i d = some z → Y z S) → (h i d = none → Z S) → stepLc g mt me ρw (.p (.tuple [.int (i : Nat), d])) S Y Z)
    (he : fin ((ds.mapIdx h).filterMap id) S) (hgd : gd S := by first | trivial | exact ⟨trivial, trivial⟩) : LcGoal (enumW ds) g mt me ρw S fin gd := by
  refine ⟨by unfold enumW; rw [List.length_mapIdx]; exact hl, fun i acc S' => acc = (((ds.mapIdx h).take i).filterMap id) ∧ S' = S, ⟨by simp, rfl⟩, fun i it acc S' hi hJ => ?_, fun acc S' hJ => ?_, fun _ _ _ hJ => by rw [hJ.2]; exact hgd⟩
  · obtain ⟨rfl, rfl⟩ := hJ
    unfold enumW at hi
    rw [List.getElem?_mapIdx] at hi
    cases e : ds[i]? with
    | none => rw [e] at hi; cases hi
    | some d =>
      rw [e] at hi
      cases hi
      have ht : (ds.mapIdx h).take (i + 1) = (ds.mapIdx h).take i ++ [h i d] := by rw [List.take_add_one, List.getElem?_mapIdx, e]; rfl
      refine hs i d e _ _ (fun z hz => ⟨?_, rfl⟩) fun hz => ⟨?_, rfl⟩
      · rw [ht, List.filterMap_append]; simp [hz]
      · rw [ht, List.filterMap_append]; simp [hz]
  · obtain ⟨rfl, rfl⟩ := hJ
    unfold enumW
    rw [List.length_mapIdx, List.take_of_length_le (by rw [List.length_mapIdx]; exact Nat.le_refl _)]; exact he
/-- with an own state: the items' data by a relation, the store by a word of the turn -/
theorem lc_st {items : List W} (hl : items.length ≤ small) (J : Nat → List PyData → So → Prop) (h0 : J 0 [] S) (hs : ∀ i it acc S', i < items.length → items[i]? = some it → J i acc S' → stepLc g mt me ρw it S' (fun d S4 => J (i + 1) (acc ++ [d]) S4) (fun S3 => J (i + 1) acc S3))
    (he : ∀ acc S', J items.length acc S' → fin acc S') (hgd : ∀ i acc S', J i acc S' → gd S' := by intros; first | trivial | exact ⟨trivial, trivial⟩) : LcGoal items g mt me ρw S fin gd := ⟨hl, J, h0, fun i it acc S' hi hJ => hs i it acc S' (List.getElem?_eq_some_iff.mp hi).1 hi hJ, he, hgd⟩
end
/-! ### items of a list -/
theorem atI_of {α : Type} {xs : List α} {i : Int} {j : Nat} {d : α} (h0 : i = (j : Nat)) (h : xs[j]? = some d) : atI xs i = some d := by rw [h0]; exact atI_nat h
theorem atI_int {ns : List Int} {i : Int} (h0 : 0 ≤ i) (h : i.toNat < ns.length) : atI (ns.map PyData.int) i = some (.int (ns.getD i.toNat 0)) := by
  refine atI_of (j := i.toNat) (by omega) ?_
  rw [List.getElem?_map, List.getElem?_eq_getElem h, List.getD_eq_getElem?_getD, List.getElem?_eq_getElem h]; rfl
theorem cut_map {α β : Type} (f : α → β) (xs : List α) (lo hi : Option Int) : cut (xs.map f) lo hi = (cut xs lo hi).map f := by
  unfold cut
  rw [List.length_map, ← List.map_drop, ← List.map_take]
theorem cut_nat {α : Type} (xs : List α) {a b : Int} (h0 : 0 ≤ a) (h1 : a ≤ b) (h2 : b ≤ xs.length) : cut xs (some a) (some b) = (xs.drop a.toNat).take (b.toNat - a.toNat) := by
  obtain ⟨m, rfl⟩ := Int.eq_ofNat_of_zero_le h0
  obtain ⟨n, rfl⟩ := Int.eq_ofNat_of_zero_le (Int.le_trans h0 h1)
  unfold cut
  rw [HT.sIx_nat, HT.sIx_nat]
  have h3 : m ≤ n := by omega
  have h4 : n ≤ xs.length := by omega
  rw [show min m xs.length = m by omega, show min n xs.length = n by omega]
  rfl
theorem cut_from {α : Type} (xs : List α) {a : Int} (h0 : 0 ≤ a) (h1 : a ≤ xs.length) : cut xs (some a) none = xs.drop a.toNat := by
  obtain ⟨m, rfl⟩ := Int.eq_ofNat_of_zero_le h0
  unfold cut
  rw [HT.sIx_nat, HT.sIx_none, show min m xs.length = m by omega]
  rw [List.take_of_length_le (by rw [List.length_drop]; exact Nat.le_refl _)]
  rfl
theorem cut_to {α : Type} (xs : List α) {b : Int} (h0 : 0 ≤ b) (h1 : b ≤ xs.length) : cut xs none (some b) = xs.take b.toNat := by
  obtain ⟨m, rfl⟩ := Int.eq_ofNat_of_zero_le h0
  unfold cut
  rw [HT.sIx_nat, HT.sIx_none, show min m xs.length = m by omega]
  rw [List.drop_zero, Nat.sub_zero]
  rfl
theorem rangeI_len (i j : Int) : (rangeI i j).length = (j - i).toNat := by unfold rangeI; rw [List.length_map, List.length_range]
theorem ite_dec {p : Prop} [Decidable p] {Q : Bool → Prop} (h : Q (decide p)) : if p then Q true else Q false := by
  by_cases hp : p
  · rw [if_pos hp]; rw [decide_eq_true hp] at h; exact h
  · rw [if_neg hp]; rw [decide_eq_false hp] at h; exact h
theorem ite_b {b : Bool} {A B : Prop} (h1 : b = true → A) (h2 : b = false → B) : if b = true then A else B := by
  cases b with
  | true => rw [if_pos rfl]; exact h1 rfl
  | false => rw [if_neg Bool.false_ne_true]; exact h2 rfl
end Fd
set_option maxRecDepth 100000
set_option maxHeartbeats 2000000
namespace Fd
open PySem PySem.Spec PyProof.Rows L2

/-! ### division by numbers of any size -/
structure DivA (base : Heap) (P : Program) (stack : List Env) (A : Around) : Prop where
  seer : base.NoSeer
  tree : P.given.tree = none
  hd : ∃ env l, stack = env :: l ∧ env.scope.isGenerator = false ∧ env.scope.isCoroutine = false ∧ env.builtins = builtinsNs ∧ env.globals = mainGlobals
  dp : A.depth + Builtin.pylongFrames < recursionLimit
abbrev iDivA : W → W → So → RK → Prop := fI (fun _ j => j ≠ 0) fun i j => .int (i.fdiv j)
section
variable {X : Cx} {Wx : WX} {a b e : Expr} {ma mb : ME} {pos : Pos}
theorem op_divA (d : DivA X.base X.prog X.stack X.A) : OpR X (binaryOp .FloorDiv) (rI (fun _ j => j ≠ 0) fun i j => .int (i.fdiv j)) := by
  intro pins s σ H x y v u Q I rx ry h
  obtain ⟨i, j, rfl, rfl, hc, q⟩ := h
  obtain ⟨t, rfl⟩ := rx
  obtain ⟨t', rfl⟩ := ry
  obtain ⟨env, l, e, h1, h2, h3, h4⟩ := d.hd
  refine floordiv_int hc ⟨.int (i.fdiv j), H, I.tok _, ⟨_, rfl⟩, q⟩ (.inr ?_)
  refine PySem.PylongRoom.of I.nolimit d.dp (PySem.SeerAt.of (l := l) (d.seer.keeps fun b o e => (I.bs b o e).1) d.tree ?_ h1 h2 h3 h4)
  rw [I.ok.frames, e]
theorem qe_divA (d : DivA X.base X.prog X.stack X.A) (ha : QE X Wx a ma) (hb : QE X Wx b mb) : QE X Wx (.BinOp a .FloorDiv b pos) (mBin iDivA ma mb) := qe_bin (op_divA d) (iI (fun _ _ h => h) fun _ _ _ _ => .int _) ha hb
end
theorem divA_of {P : Program} {w : World} {K : PySem.W.Frag} {mg : Str → Option Value} {base : Heap} {qual : Str} {scope : Scope} {f : Addr} {N ps : List Str} {k : Nat} {cdv : Value} {A : Around} {outer : List Env} {s : Shared} {H : Hp} {E : XK}
    (seer : base.NoSeer) (tree : P.given.tree = none) (sc : FnScope N ps scope) (hr : Room k (A.deeper (envOfC qual scope s.heap.objs.size f cdv))) (hk : 32 ≤ k) :
    DivA base P (cxOf (L2.CX P w) P w K mg base N qual scope f cdv A outer s H E).stack (cxOf (L2.CX P w) P w K mg base N qual scope f cdv A outer s H E).A :=
  ⟨seer, tree, ⟨_, _, rfl, sc.gen, sc.co, rfl, rfl⟩, by
    have := hr.dp
    show (A.deeper (envOfC qual scope s.heap.objs.size f cdv)).depth + 100 < recursionLimit
    omega⟩

/-! ### a read-only list (the script) and data in, a new list of data out -/
abbrev SLSp := List PyData → List PyData → (List PyData → Prop) → (Addr → Prop) → Prop
def LiftSL (K : PySem.W.Frag) (lsp : SLSp) : Sp := fun vs H Q E => ∃ (G : Hp) (a : Addr) (xs0 : List V) (ds0 ds : List PyData) (vs' : List V) (R : List PyData → Prop) (RX : Addr → Prop), vs = .ref a :: vs' ∧ SqL K G a xs0 ∧ DvL K G ds0 xs0 ∧ DvL K G ds vs' ∧ Same G H ∧ lsp ds0 ds R RX ∧
  (∀ es G' a xs H', R es → Ext G [] H G' [] H' → Same G' H' → H' a = some (.lst xs) → G' a = none → H a = none → DvL K G' es xs → Q (.ref a) H') ∧ (∀ C G' H', RX C → ExtP G H G' H' → E (.ref C) none H')
def mCallSL (lsp : SLSp) (nk : NewK) (ma : MA) : ME := fun ρ S R X => ma ρ S (fun ws S1 => ∃ ds0 us ds, ws = .s ds0 :: us ∧ unp us = some ds ∧ lsp ds0 ds (fun es => nk es S1 R) (fun C => X C S1)) X
section
variable {X : Cx} {Wx : WX} {x : Str} {p pos : Pos} {e : Expr} {es : List Expr} {ma : MA}
theorem lift_callSL {lsp : SLSp} {nk : NewK} (n : IsNew nk) {σ : L2.St} {H : Hp} {Q : VK} (h : Lift X.K Wx (RelW X.K) (mCallSL lsp nk ma) σ H Q) : Lift X.K Wx (RelWs X.K) ma σ H fun vs H1 => LiftSL X.K lsp (vs ++ []) H1 Q (WE Wx σ) := by
  obtain ⟨G, as, ρ, S, R, RX, hE, hS, hm, hR, hX⟩ := h
  refine ⟨G, as, ρ, S, _, RX, hE, hS, hm, fun ws S1 G1 as1 vs H1 h1 e1 r1 rv => ?_, hX⟩
  obtain ⟨ds0, us, ds, rfl, u, h2⟩ := h1
  cases rv with
  | cons q0 rr =>
    obtain ⟨a, xs0, rfl, sq, dv0⟩ := q0
    rename_i vs'
    refine ⟨G1, a, xs0, ds0, ds, vs', _, _, by rw [List.append_nil], sq, dv0, unp_rel rr u, r1.sub, h2, fun es G' a xs H' hr ep sm ha ga fa dv => ?_, fun C G' H' hx ep => ?_⟩
    · obtain ⟨r2, x2⟩ := r1.over ep sm
      have na : a ∉ as1 := fun m => by
        obtain ⟨o, q⟩ := r1.fresh m
        rw [fa] at q; cases q
      exact new_fin n r2 ha ga na dv hr fun w S' G2 as2 v H2 hr2 e2 r3 rv2 => hR w S' G2 as2 v H2 hr2 (e1.trans ((x2.undel fa).trans e2)) r3 rv2
    · obtain ⟨r2, x2⟩ := r1.over ep.1 ep.2
      exact hX C S1 G' as1 H' hx (e1.trans x2) r2
theorem qe_callSL {lsp : SLSp} {nk : NewK} (n : IsNew nk) (c : Cal X.prog X.w X.K X.mg X.base X.A x [] (LiftSL X.K lsp)) (tk : Takes X Wx) (ha : QA X Wx (e :: es) ma) (hg : Gl X x := by rfl) (hdb : (x == ("__debug__" : Str)) = false := by decide) (he : starEach (e :: es) X.env = (false, eval e X.env) :: starEach es X.env := by rfl)
    (hpl : (backTo pos (starEach es X.env)).any (·.1) = false := by rfl) : QE X Wx (.Call (.Name x p) (e :: es) [] pos) (mCallSL lsp nk ma) := (pe_cal c tk ha hg hdb he hpl).weak fun _ _ _ h => lift_callSL n h
end
section
variable {P : Program} {w : World} {K : PySem.W.Frag} {mg : Str → Option Value} {base : Heap} {x qual : Str} {params : Arguments} {body : List Stmt} {scope : Scope} {dvs : List V} {kws : List (Str × V)} {f : Addr} {fd : FuncData} {N ps : List Str} {k : Nat} {m : MS}
theorem okSL {lsp : SLSp} (F : FunD K x qual params body scope dvs kws f fd) (sc : FnScope N ps scope) (hb : BodyQ P w K mg base N qual scope f k body m) (hl : ∀ ds0 ds Q E, lsp ds0 ds Q E → ds.length + 1 = ps.length)
    (hq : ∀ ds0 ds Q E, lsp ds0 ds Q E → m (endsL Q E) (stE N.length (.s ds0 :: ds.map .p)) []) : FnG P w K mg base (k + 1) f fd ps (LiftSL K lsp) :=
  body_run F sc (fun vs H Q E ⟨G, a, xs0, ds0, ds, vs', R, RX, e, _, _, dv, _, h, _⟩ => by rw [e, List.length_cons, dv.length]; exact hl ds0 ds R RX h) hb fun vs H Q E ⟨G, a, xs0, ds0, ds, vs', R, RX, e0, sq, dv0, dv, sm, h, hR, hX⟩ => by
  subst e0
  refine ⟨G, [], _, [], _, stE_rel (.cons (w := .s ds0) (show RelW K G [] (.s ds0) (.ref a) from ⟨a, xs0, rfl, sq, dv0⟩) (RelWs.ofDvL dv)), ⟨sm, rfl, by simp, fun k a c h _ => by simp at h⟩, hq ds0 ds R RX h, ⟨fun ρ S G' as' σ H' b e rE rS => b.elim, fun w S G' as' v H' b e rS rv => ?_, fun _ _ _ _ _ _ b => b.elim, fun _ _ _ _ _ _ b => b.elim, fun C ρ S G' as' σ H' b e rE rS => ?_⟩⟩
  · cases w with
    | c k =>
      obtain ⟨a, ha, rfl⟩ := rv
      have b' : (match S[k]? with | some (.l ds) => R ds | _ => False) := b
      split at b'
      · rename_i ds' hk
        obtain ⟨o, f1, ⟨xs, rfl, f2⟩, f3⟩ := rS.cell k a _ ha hk
        exact hR ds' G' a xs H' b' (okP.e0 e) rS.sub f1 (f3 fun z => by cases z) (e.w a (List.mem_of_getElem? ha) (by simp)) f2
      · exact b'.elim
    | _ => exact b.elim
  · exact hX C G' H' b ⟨okP.e0 e, rS.sub⟩
/-! ### the law's own def -/
def LiftE (K : PySem.W.Frag) (n : Nat) : Sp := fun vs H Q _ => ∃ (a : Addr) (ns : List Int), vs = [.ref a] ∧ ns.length ≤ n ∧ SqL K H a (ns.map V.int) ∧ ∀ H', Q (.bl true) H'
def endsE : MEnds := endsP (fun d => d = .bool true) fun _ => False
theorem okE {n : Nat} (F : FunD K x qual params body scope dvs kws f fd) (sc : FnScope N ps scope) (h1 : ps.length = 1) (hb : BodyQ P w K mg base N qual scope f k body m)
    (hq : ∀ ns : List Int, ns.length ≤ n → m endsE (stE N.length [.s (ns.map .int)]) []) : FnG P w K mg base (k + 1) f fd ps (LiftE K n) :=
  body_run F sc (fun vs H Q E ⟨a, ns, e, _⟩ => by rw [e, h1]; rfl) hb fun vs H Q E ⟨a, ns, e, hn, sq, hQ⟩ => by
  subst e
  refine ⟨H, [], _, [], _, stE_rel (.cons (w := .s (ns.map .int)) (show RelW K H [] (.s (ns.map .int)) (.ref a) from ⟨a, _, rfl, sq, DvL.ofInts ns⟩) .nil), ⟨Same.refl _, rfl, by simp, fun k a c h _ => by simp at h⟩, hq ns hn, ⟨fun ρ S G' as' σ H' b e rE rS => ?_, fun w S G' as' v H' b e rS rv => ?_, fun _ _ _ _ _ _ b => b.elim, fun _ _ _ _ _ _ b => b.elim, fun C ρ S G' as' σ H' b e rE rS => b.elim⟩⟩
  · cases (show PyData.none = .bool true from b)
  · cases w with
    | p d =>
      have b' : d = .bool true := b
      subst b'
      rw [rel_bool rv]
      exact hQ H'
    | _ => exact b.elim
end
/-- the law's call: from behind the top -/
theorem law_callG {P : Program} {w : World} {K : PySem.W.Frag} {mg mb : Str → Option Value} {k : Nat} {fa a : Addr} {fd : FuncData} {x : Str} {n : Nat} {s₁ : Shared} {vs : List Value} {ns : List Int}
    (inK : K.In s₁.heap) (nsM : s₁.heap.Ns mainGlobals mg) (nsB : s₁.heap.Ns builtinsNs mb) (laid : ∀ x : Str, x ≠ "__name__" → mb x = bootBuiltins x) (noL : s₁.heap.NoLimit) (noS : s₁.heap.NoSeer) (noG : s₁.gens = #[])
    (ha : s₁.heap.get? a = some { cls := .type "list", data := .seq vs.toArray }) (hi : IntsAre vs ns) (hl : ns.length ≤ n) (hn : n ≤ sizeLine) (hr : Room k callerA)
    (hF : ∀ base : Heap, K.In base → base.Ns mainGlobals mg → base.NoSeer → FnG P w K mg base k fa fd [x] (LiftE K n)) (hb : ∀ (s : Shared) (u : Value), BindsTo s fd ⟨[u], []⟩ [(x, u)]) :
    codeAny (model P w) callerA (.call (.ref fa) ⟨[.ref a], []⟩) (fun r s' => r = .ok (.ret (.bool true)) ∧ OldK s₁.heap s'.heap ∧ s'.os = s₁.os ∧ AllBare s'.gens) s₁ := by
  have rv := vals_ints hi
  have lenV := hi.length
  have main_ : ∀ H : Hp, (∀ b, H b = none ∨ (b = a ∧ H b = some (.frz { cls := .type "list", data := .seq vs.toArray } (.lst (ns.map V.int))))) → SqL K H a (ns.map V.int) → HOk P w H s₁.heap → (H a = none ∨ K.lookup a = none) →
      codeAny (model P w) callerA (.call (.ref fa) ⟨[.ref a], []⟩) (fun r s' => r = .ok (.ret (.bool true)) ∧ OldK s₁.heap s'.heap ∧ s'.os = s₁.os ∧ AllBare s'.gens) s₁ := by
    intro H hH hS hok hA
    have other : ∀ {b : Addr} {o : Obj}, s₁.heap.get? b = some o → (∀ z, o ≠ { cls := .type "list", data := .seq z }) → H b = none := fun {b o} e hd => by
      rcases hH b with q | ⟨rfl, _⟩
      · exact q
      · rw [ha] at e
        exact absurd (Option.some.inj e).symm (hd _)
    have stay : ∀ {b : Addr} {o : Obj}, s₁.heap.get? b = some o → H b = none → (hidT s₁.heap H).get? b = some o := fun e q => hidT_get e q
    have ns_ : ∀ {b : Addr} {m : Str → Option Value}, s₁.heap.Ns b m → (hidT s₁.heap H).Ns b m := fun {b m} ⟨o, es, ep, e, d, r⟩ => ⟨o, es, ep, stay e (other e fun z q => by rw [q] at d; cases d), d, r⟩
    have inB : K.In (hidT s₁.heap H) := fun b o e => stay (inK b o e) (by
      rcases hH b with q | ⟨rfl, q⟩
      · exact q
      · rcases hA with z | z
        · exact z
        · rw [z] at e; cases e)
    have seer : (hidT s₁.heap H).NoSeer := by
      refine ⟨?_, ?_, ?_, ?_⟩
      · obtain ⟨mc, h1, h2⟩ := noS.statics
        exact ⟨mc, ns_ h1, h2⟩
      · obtain ⟨mc, h1, h2⟩ := noS.mods
        exact ⟨mc, ns_ h1, h2⟩
      · obtain ⟨mc, h1, h2⟩ := noS.imp
        exact ⟨mc, ns_ h1, h2⟩
      · obtain ⟨m, bm, ob, h1, h2, h3, h4, h5⟩ := noS.main
        exact ⟨m, bm, ob, ns_ h1, h2, stay h3 (other h3 fun z q => by rw [q] at h4; simp at h4), h4, h5⟩
    have lim : (hidT s₁.heap H).NoLimit := by
      obtain ⟨mc, h1, h2⟩ := noL
      exact ⟨mc, ns_ h1, h2⟩
    have env0 : Env0 P w K mg (hidT s₁.heap H) callerA [] s₁ H := ⟨rfl, ⟨inB, ns_ nsM, ⟨mb, ns_ nsB, laid⟩, lim⟩, fun b o e => of_hidT e, Nat.le_of_eq (hidT_size _ _), trivial, fun b hb => (List.not_mem_nil (show b ∈ ([] : List Addr) from hb)).elim, hok, .of_eq noG⟩
    have run := (hF _ inB (ns_ nsM) seer).run callerA [] s₁ H ⟨[.ref a], []⟩ [.ref a] [.ref a] (fun v _ => v = .bl true) (fun _ _ _ => False) hr rfl env0 (hb s₁ (.ref a)) (.cons rfl .nil) ⟨a, ns, rfl, hl, hS, fun _ => rfl⟩
    refine codeAny_mono run fun r s' h => ?_
    match r, h with
    | .error e, h =>
      obtain ⟨_, _, _, _, _, _, _, _, _, _, _, _, bad⟩ := h
      exact bad.elim
    | .ok (.ret u), ⟨v, H', os, bare, un, hok', r', q⟩ =>
      have q' : v = .bl true := q
      subst q'
      obtain rfl : u = Value.bool true := r'
      refine ⟨rfl, OldK.of_keep fun b o e => ?_, os, bare⟩
      rcases hH b with q | ⟨rfl, q⟩
      · exact un.keep b o e q (List.not_mem_nil (a := b)) (List.not_mem_nil (a := b))
      · obtain ⟨e2, _⟩ := hok' b _ (un.frzs b _ _ q)
        rw [ha] at e
        cases e
        exact e2
    | .ok .next, h => exact False.elim h
    | .ok .brk, h => exact False.elim h
    | .ok .cont, h => exact False.elim h
  have small_ : ns.length ≤ sizeLine := Nat.le_trans hl hn
  cases hk : K.lookup a with
  | some o =>
    have e := inK a o hk
    rw [ha] at e
    cases e
    exact main_ (fun _ => none) (fun _ => .inl rfl) (.inr ⟨_, vs.toArray, _, hk, rfl, rfl, rfl, by rw [List.size_toArray, lenV]; exact small_, by simpa using rv⟩) (fun b u z => nomatch z) (.inl rfl)
  | none =>
    refine main_ (fun b => if b = a then some (.frz { cls := .type "list", data := .seq vs.toArray } (.lst (ns.map V.int))) else none) (fun b => ?_) (.inl (.inr ⟨_, if_pos rfl⟩)) (fun b u z => ?_) (.inr hk)
    · by_cases hb : b = a
      · exact .inr ⟨hb, if_pos hb⟩
      · exact .inl (if_neg hb)
    · by_cases hb : b = a
      · subst hb
        have z' := (if_pos rfl).symm.trans z
        cases z'
        exact ⟨ha, by rw [List.length_map]; exact small_, vs, _, rv, ha⟩
      · exact nomatch ((if_neg hb).symm.trans z)
/-- a law's end over a head by facts -/
theorem walk_ofG {l : PySem.W.OpenLaw} {n k : Nat} {q : Program} {loose : List Str} {XP : (Str → Option Value) → Heap → Prop} {YP : World → Heap → Prop} {d : DefRec} {x : Str}
    (hn : l.most = some n) (hn2 : n ≤ sizeLine) (hdf : d.params.defaults = []) (hr : Room k callerA) (him : importsNone q = true)
    (F : ∀ (w : World) (mg : Str → Option Value) (fa : Addr) (h : Heap), YP w h → h.Ns mainGlobals mg → mg d.name = some (.ref fa) →
      ∃ (K : PySem.W.Frag) (fd : FuncData), K.In h ∧ (∀ (s : Shared) (u : Value), BindsTo s fd ⟨[u], []⟩ [(x, u)]) ∧ ∀ base : Heap, K.In base → base.Ns mainGlobals mg → base.NoSeer → FnG l.prog w K mg base k fa fd [x] (LiftE K n)) :
    PySem.W.WalkO q loose XP YP l.row.toRowW d [] (fun f vs => PySem.call f vs) := by
  refine Att.attach_call hn hdf fun w s₀ s₁ mg mb fa o pm cd doc a vs ns G Y ho hd hcd hmg hobj hints hlen hg => ?_
  obtain ⟨K, fd, inK, hb, hF⟩ := F w mg fa _ Y G.T.g hmg
  exact law_callG inK G.T.g G.T.b G.T.builtins G.T.nolimit (G.T.seer him) hg hobj hints hlen hn2 hr hF hb
end Fd
set_option maxRecDepth 100000
set_option maxHeartbeats 2000000
namespace Fd
open PySem PySem.Spec PyProof.Rows L2
section
variable {g : MG} {mt : MT} {me : ME} {ρw : En} {S : So} {fin : List PyData → So → Prop} {gd : So → Prop} {α β : Type}
/-- over a list that is the image of another one -/
theorem lc_mapG (f : α → PyData) {xs : List α} (h : α → PyData) (hl : xs.length ≤ small) (hs : ∀ x ∈ xs, ∀ (Y : PyData → So → Prop) (Z : So → Prop), Y (h x) S → stepLc g mt me ρw (.p (f x)) S Y Z) (he : fin (xs.map h) S) (hgd : gd S := by first | trivial | exact ⟨trivial, trivial⟩) : LcGoal ((xs.map f).map .p) g mt me ρw S fin gd := by
  refine lc_st (by simpa using hl) (fun i acc S' => acc = (xs.take i).map h ∧ S' = S) ⟨by simp, rfl⟩ (fun i it acc S' hi hit hJ => ?_) (fun acc S' hJ => ?_) fun _ _ _ hJ => by rw [hJ.2]; exact hgd
  · obtain ⟨rfl, rfl⟩ := hJ
    rw [List.getElem?_map, List.getElem?_map] at hit
    cases e : xs[i]? with
    | none => rw [e] at hit; cases hit
    | some x =>
      rw [e] at hit
      cases hit
      exact hs x (List.mem_of_getElem? e) _ _ ⟨by rw [List.take_add_one, e]; simp, rfl⟩
  · obtain ⟨rfl, rfl⟩ := hJ
    rw [List.length_map, List.length_map, List.take_length]; exact he
theorem lc_filG (f : α → PyData) {xs : List α} (h : α → Option PyData) (hl : xs.length ≤ small) (hs : ∀ x ∈ xs, ∀ (Y : PyData → So → Prop) (Z : So → Prop), (∀ e, h x = some e → Y e S) → (h x = none → Z S) → stepLc g mt me ρw (.p (f x)) S Y Z) (he : fin (xs.filterMap h) S) (hgd : gd S := by first | trivial | exact ⟨trivial, trivial⟩) : LcGoal ((xs.map f).map .p) g mt me ρw S fin gd := by
  refine ⟨by simpa using hl, fun i acc S' => acc = (xs.take i).filterMap h ∧ S' = S, ⟨by simp, rfl⟩, fun i it acc S' hit hJ => ?_, fun acc S' hJ => ?_, fun _ _ _ hJ => by rw [hJ.2]; exact hgd⟩
  · obtain ⟨rfl, rfl⟩ := hJ
    rw [List.getElem?_map, List.getElem?_map] at hit
    cases e : xs[i]? with
    | none => rw [e] at hit; cases hit
    | some x =>
      rw [e] at hit
      cases hit
      have ht : xs.take (i + 1) = xs.take i ++ [x] := by rw [List.take_add_one, e]; rfl
      refine hs x (List.mem_of_getElem? e) _ _ (fun d hd => ⟨?_, rfl⟩) fun hn => ⟨?_, rfl⟩
      · rw [ht, List.filterMap_append]; simp [hd]
      · rw [ht, List.filterMap_append]; simp [hn]
  · obtain ⟨rfl, rfl⟩ := hJ
    rw [List.length_map, List.length_map, List.take_length]; exact he
theorem zipW_getG {f : α → PyData} {f2 : β → PyData} {xs : List α} {ys : List β} {i : Nat} {it : W} (h : (zipW (xs.map f) (ys.map f2))[i]? = some it) : ∃ x y, xs[i]? = some x ∧ ys[i]? = some y ∧ it = .p (.tuple [f x, f2 y]) := by
  unfold zipW at h
  rw [List.getElem?_map] at h
  cases e : ((xs.map f).zip (ys.map f2))[i]? with
  | none => rw [e] at h; cases h
  | some p =>
    rw [e] at h
    obtain ⟨e1, e2⟩ := List.getElem?_zip_eq_some.mp e
    rw [List.getElem?_map] at e1 e2
    cases q1 : xs[i]? with
    | none => rw [q1] at e1; cases e1
    | some x =>
      cases q2 : ys[i]? with
      | none => rw [q2] at e2; cases e2
      | some y =>
        rw [q1] at e1
        rw [q2] at e2
        refine ⟨x, y, rfl, rfl, ?_⟩
        rw [Option.some.inj e1, Option.some.inj e2]
        exact (Option.some.inj h).symm
theorem lc_zipG (f : α → PyData) (f2 : β → PyData) {xs : List α} {ys : List β} (h : α → β → PyData) (hl : xs.length ≤ small) (hs : ∀ x y, (x, y) ∈ xs.zip ys → ∀ (Y : PyData → So → Prop) (Z : So → Prop), Y (h x y) S → stepLc g mt me ρw (.p (.tuple [f x, f2 y])) S Y Z)
    (he : fin (List.zipWith h xs ys) S) (hgd : gd S := by first | trivial | exact ⟨trivial, trivial⟩) : LcGoal (zipW (xs.map f) (ys.map f2)) g mt me ρw S fin gd := by
  refine lc_st (by rw [zipW_len, List.length_map, List.length_map]; omega) (fun i acc S' => acc = (List.zipWith h xs ys).take i ∧ S' = S) ⟨by simp, rfl⟩ (fun i it acc S' hi hit hJ => ?_) (fun acc S' hJ => ?_) fun _ _ _ hJ => by rw [hJ.2]; exact hgd
  · obtain ⟨rfl, rfl⟩ := hJ
    obtain ⟨x, y, e1, e2, rfl⟩ := zipW_getG hit
    have e3 : (xs.zip ys)[i]? = some (x, y) := List.getElem?_zip_eq_some.mpr ⟨e1, e2⟩
    have e4 : (List.zipWith h xs ys)[i]? = some (h x y) := by rw [List.getElem?_zipWith, e1, e2]
    exact hs x y (List.mem_of_getElem? e3) _ _ ⟨by rw [List.take_add_one, e4]; rfl, rfl⟩
  · obtain ⟨rfl, rfl⟩ := hJ
    rw [zipW_len, List.length_map, List.length_map, List.take_of_length_le (by rw [List.length_zipWith]; exact Nat.le_refl _)]; exact he
theorem enumW_getG {f : α → PyData} {xs : List α} {i : Nat} {it : W} (h : (enumW (xs.map f))[i]? = some it) : ∃ x, xs[i]? = some x ∧ it = .p (.tuple [.int (i : Nat), f x]) := by
  unfold enumW at h
  rw [List.getElem?_mapIdx, List.getElem?_map] at h
  cases e : xs[i]? with
  | none => rw [e] at h; cases h
  | some x =>
    rw [e] at h
    exact ⟨x, rfl, (Option.some.inj h).symm⟩
theorem enumW_lenG {f : α → PyData} {xs : List α} : (enumW (xs.map f)).length = xs.length := by unfold enumW; simp
theorem lc_enumG (f : α → PyData) {xs : List α} (h : Nat → α → PyData) (hl : xs.length ≤ small) (hs : ∀ i x, xs[i]? = some x → ∀ (Y : PyData → So → Prop) (Z : So → Prop), Y (h i x) S → stepLc g mt me ρw (.p (.tuple [.int (i : Nat), f x])) S Y Z)
    (he : fin (xs.mapIdx h) S) (hgd : gd S := by first | trivial | exact ⟨trivial, trivial⟩) : LcGoal (enumW (xs.map f)) g mt me ρw S fin gd := by
  refine lc_st (by rw [enumW_lenG]; exact hl) (fun i acc S' => acc = (xs.mapIdx h).take i ∧ S' = S) ⟨by simp, rfl⟩ (fun i it acc S' hi hit hJ => ?_) (fun acc S' hJ => ?_) fun _ _ _ hJ => by rw [hJ.2]; exact hgd
  · obtain ⟨rfl, rfl⟩ := hJ
    obtain ⟨x, e1, rfl⟩ := enumW_getG hit
    have e4 : (xs.mapIdx h)[i]? = some (h i x) := by rw [List.getElem?_mapIdx, e1]; rfl
    exact hs i x e1 _ _ ⟨by rw [List.take_add_one, e4]; rfl, rfl⟩
  · obtain ⟨rfl, rfl⟩ := hJ
    rw [enumW_lenG, List.take_of_length_le (by rw [List.length_mapIdx]; exact Nat.le_refl _)]; exact he
theorem lc_enumFG (f : α → PyData) {xs : List α} (h : Nat → α → Option PyData) (hl : xs.length ≤ small) (hs : ∀ i x, xs[i]? = some x → ∀ (Y : PyData → So → Prop) (Z : So → Prop), (∀ z, h i x = some z → Y z S) → (h i x = none → Z S) → stepLc g mt me ρw (.p (.tuple [.int (i : Nat), f x])) S Y Z)
    (he : fin ((xs.mapIdx h).filterMap id) S) (hgd : gd S := by first | trivial | exact ⟨trivial, trivial⟩) : LcGoal (enumW (xs.map f)) g mt me ρw S fin gd := by
  refine ⟨by rw [enumW_lenG]; exact hl, fun i acc S' => acc = ((xs.mapIdx h).take i).filterMap id ∧ S' = S, ⟨by simp, rfl⟩, fun i it acc S' hit hJ => ?_, fun acc S' hJ => ?_, fun _ _ _ hJ => by rw [hJ.2]; exact hgd⟩
  · obtain ⟨rfl, rfl⟩ := hJ
    obtain ⟨x, e1, rfl⟩ := enumW_getG hit
    have e4 : (xs.mapIdx h).take (i + 1) = (xs.mapIdx h).take i ++ [h i x] := by rw [List.take_add_one, List.getElem?_mapIdx, e1]; rfl
    refine hs i x e1 _ _ (fun z hz => ⟨?_, rfl⟩) fun hz => ⟨?_, rfl⟩
    · rw [e4, List.filterMap_append]; simp [hz]
    · rw [e4, List.filterMap_append]; simp [hz]
  · obtain ⟨rfl, rfl⟩ := hJ
    rw [enumW_lenG, List.take_of_length_le (by rw [List.length_mapIdx]; exact Nat.le_refl _)]; exact he
theorem mapW_getG {f : α → PyData} {xs : List α} {i : Nat} {it : W} (h : ((xs.map f).map W.p)[i]? = some it) : ∃ x, xs[i]? = some x ∧ it = .p (f x) := by
  rw [List.getElem?_map, List.getElem?_map] at h
  cases e : xs[i]? with
  | none => rw [e] at h; cases h
  | some x =>
    rw [e] at h
    exact ⟨x, rfl, (Option.some.inj h).symm⟩
theorem atI_map (f : α → PyData) {xs : List α} {i : Nat} {x : α} (h : xs[i]? = some x) : atI (xs.map f) (i : Int) = some (f x) := atI_of rfl (by rw [List.getElem?_map, h]; rfl)
theorem fIx_at {w : W} {S : So} {R : RK} {ds : List PyData} {i : Int} {d : PyData} (h : rref S w = some (.list ds)) (e : atI ds i = some d) (k : R (.p d) S) : fIx w (.p (.int i)) S R := ⟨ds, i, d, .inl h, rfl, e, k⟩
theorem fIx_tup {w : W} {S : So} {R : RK} {ds : List PyData} {i : Int} {d : PyData} (h : rref S w = some (.tuple ds)) (e : atI ds i = some d) (k : R (.p d) S) : fIx w (.p (.int i)) S R := ⟨ds, i, d, .inr h, rfl, e, k⟩
/-! ### what may be compared -/
structure okD (n : Nat) (d : PyData) : Prop where
  lay : d.canLay0 = true
  dep : d.depth ≤ n
theorem okD.mono {m n : Nat} {d : PyData} (h : okD m d) (hm : m ≤ n) : okD n d := ⟨h.lay, Nat.le_trans h.dep hm⟩
theorem okD.shaped {d : PyData} (h : okD 64 d) : SeqAt.shaped d = true := by
  unfold SeqAt.shaped
  rw [h.lay, decide_eq_true h.dep]; rfl
theorem okD.int (i : Int) (n : Nat) : okD n (.int i) := ⟨by simp [PyData.canLay0], by simp [PyData.depth]⟩
theorem okD.bool (i : Bool) (n : Nat) : okD n (.bool i) := ⟨by simp [PyData.canLay0], by simp [PyData.depth]⟩
theorem okD.none (n : Nat) : okD n .none := ⟨by simp [PyData.canLay0], by simp [PyData.depth]⟩
theorem okD_all : ∀ {n : Nat} {ds : List PyData}, (∀ d ∈ ds, okD n d) → PyData.canLayAll0 ds = true ∧ PyData.depthAll ds ≤ n
  | n, [], _ => ⟨by simp [PyData.canLayAll0], by simp [PyData.depthAll]⟩
  | n, d :: ds, h => by
    obtain ⟨h1, h2⟩ := okD_all (n := n) (ds := ds) fun x hx => h x (by simp [hx])
    have h3 := h d (by simp)
    refine ⟨by simp [PyData.canLayAll0, h1, h3.lay], ?_⟩
    have := h3.dep
    simp only [PyData.depthAll]
    omega
theorem okD.list {n : Nat} {ds : List PyData} (h : ∀ d ∈ ds, okD n d) : okD (n + 1) (.list ds) :=
  ⟨by simp only [PyData.canLay0]; exact (okD_all h).1, by simp only [PyData.depth]; have := (okD_all h).2; omega⟩
theorem okD.tuple {n : Nat} {ds : List PyData} (h : ∀ d ∈ ds, okD n d) : okD (n + 1) (.tuple ds) :=
  ⟨by simp only [PyData.canLay0]; exact (okD_all h).1, by simp only [PyData.depth]; have := (okD_all h).2; omega⟩
theorem okD.listG {n : Nat} (f : α → PyData) {xs : List α} (h : ∀ x ∈ xs, okD n (f x)) : okD (n + 1) (.list (xs.map f)) := .list fun d hd => by
  obtain ⟨x, hx, rfl⟩ := List.mem_map.mp hd
  exact h x hx
theorem okD.ints (ns : List Int) : okD 1 (intsD ns) := .listG _ fun x _ => .int x 0
theorem shaped_ints (ns : List Int) : SeqAt.shaped (intsD ns) = true := ((okD.ints ns).mono (by omega)).shaped
/-- values that are equal only if they are the same -/
theorem eqv_listG {f : α → PyData} (hf : ∀ x y, PyData.eqv (f x) (f y) = true ↔ x = y) : ∀ xs ys : List α, PyData.eqvAll (xs.map f) (ys.map f) = true ↔ xs = ys
  | [], [] => by simp [PyData.eqvAll]
  | [], y :: ys => by simp [PyData.eqvAll]
  | x :: xs, [] => by simp [PyData.eqvAll]
  | x :: xs, y :: ys => by
    simp only [List.map_cons, PyData.eqvAll, Bool.and_eq_true, hf, eqv_listG hf xs ys, List.cons.injEq]
theorem eqv_int (a b : Int) : PyData.eqv (.int a) (.int b) = true ↔ a = b := by simp [PyData.eqv]
theorem eqv_ints (a b : List Int) : PyData.eqv (intsD a) (intsD b) = decide (a = b) := by
  have h := eqv_listG eqv_int a b
  have e : PyData.eqv (intsD a) (intsD b) = PyData.eqvAll (a.map .int) (b.map .int) := by simp only [PyData.eqv]
  rw [e]
  by_cases hab : a = b
  · rw [h.mpr hab, decide_eq_true hab]
  · rw [decide_eq_false hab]
    cases q : PyData.eqvAll (a.map .int) (b.map .int) with
    | true => exact absurd (h.mp q) hab
    | false => rfl
end
end Fd
namespace Fd
open PySem PySem.Spec PyProof.Rows L2
theorem unp_apps (ds : List PyData) {us : List W} {es : List PyData} (h : unp us = some es) : unp (ds.map W.p ++ us) = some (ds ++ es) := by
  induction ds with
  | nil => exact h
  | cons d ds ih =>
    show unp (.p d :: (ds.map W.p ++ us)) = _
    unfold unp
    rw [ih]; rfl
end Fd
namespace Fd
theorem map_mapIdxE {α β γ : Type} (f : β → γ) (h : Nat → α → β) (xs : List α) : (xs.mapIdx h).map f = xs.mapIdx fun i x => f (h i x) := by
  apply List.ext_getElem (by simp)
  intro i h1 h2
  simp
end Fd
namespace Fd
open PySem PySem.Spec PyProof.Rows L2
theorem lc_zipFG {g : MG} {mt : MT} {me : ME} {ρw : En} {S : So} {fin : List PyData → So → Prop} {gd : So → Prop} {α β : Type} (f : α → PyData) (f2 : β → PyData) {xs : List α} {ys : List β} (h : α → β → Option PyData) (hl : xs.length ≤ small)
    (hs : ∀ x y, (x, y) ∈ xs.zip ys → ∀ (Y : PyData → So → Prop) (Z : So → Prop), (∀ e, h x y = some e → Y e S) → (h x y = none → Z S) → stepLc g mt me ρw (.p (.tuple [f x, f2 y])) S Y Z)
    (he : fin ((xs.zip ys).filterMap fun p => h p.1 p.2) S) (hgd : gd S := by first | trivial | exact ⟨trivial, trivial⟩) : LcGoal (zipW (xs.map f) (ys.map f2)) g mt me ρw S fin gd := by
  refine ⟨by rw [zipW_len, List.length_map, List.length_map]; omega, fun i acc S' => acc = ((xs.zip ys).take i).filterMap (fun p => h p.1 p.2) ∧ S' = S, ⟨by simp, rfl⟩, fun i it acc S' hit hJ => ?_, fun acc S' hJ => ?_, fun _ _ _ hJ => by rw [hJ.2]; exact hgd⟩
  · obtain ⟨rfl, rfl⟩ := hJ
    obtain ⟨x, y, e1, e2, rfl⟩ := zipW_getG hit
    have e3 : (xs.zip ys)[i]? = some (x, y) := List.getElem?_zip_eq_some.mpr ⟨e1, e2⟩
    have ht : (xs.zip ys).take (i + 1) = (xs.zip ys).take i ++ [(x, y)] := by rw [List.take_add_one, e3]; rfl
    refine hs x y (List.mem_of_getElem? e3) _ _ (fun d hd => ⟨?_, rfl⟩) fun hn => ⟨?_, rfl⟩
    · rw [ht, List.filterMap_append]; simp [hd]
    · rw [ht, List.filterMap_append]; simp [hn]
  · obtain ⟨rfl, rfl⟩ := hJ
    rw [zipW_len, List.length_map, List.length_map, List.take_of_length_le (by rw [List.length_zip]; exact Nat.le_refl _)]; exact he
theorem all_zipWith {α β : Type} (f : α → β → Bool) : ∀ (xs : List α) (ys : List β), (List.zipWith f xs ys).all id = (xs.zip ys).all fun p => f p.1 p.2
  | [], _ => by simp
  | _ :: _, [] => by simp
  | x :: xs, y :: ys => by simp [all_zipWith f xs ys]
end Fd
set_option maxRecDepth 100000
set_option maxHeartbeats 2000000
namespace Fd
open PySem PySem.Spec PyProof.Rows L2
/-! ### repr of lists and tuples -/
def fRepr (ws : List W) (S : So) (R : RK) : Prop := ∃ w d, ws = [w] ∧ dref S w = some d ∧ ((∃ ds, d = .list ds) ∨ ∃ ds, d = .tuple ds) ∧ okD 60 d ∧ d.showable = true ∧ d.shown.length ≤ sizeLine ∧ R (.p (.str d.shown)) S
section
variable {X : Cx} {Wx : WX} {a b e : Expr} {ma mb me : ME} {mA : MA} {pos p : Pos}
theorem call_reprD (hg : X.A.guards = some []) (hu : X.A.units + 64 < cLine) : CallR X (.builtin "repr") (fun xs H Q => ∃ x d, xs = [.ref x] ∧ Dp X.K H (.ref x) d ∧ okD 60 d ∧ d.showable = true ∧ d.shown.length ≤ sizeLine ∧ Q (.str d.shown) H) := by
  intro pins s σ H xs us Q I r h
  obtain ⟨x, d, rfl, dp, ok, sh, sz, q⟩ := h
  obtain ⟨u, rfl, rx⟩ := vals1 r
  cases rx
  obtain ⟨as, rd⟩ := Dp.reads I d _ _ dp rfl
  have nd : d.hasDict = false := PyData.hasDict_of_canLay d ok.lay
  refine PySem.repr_of_reads' rd sh (PyData.noDict_hsm nd) hg (by have := ok.dep; omega) (fun _ _ e => e) (fun h' u tk hk => ⟨.str d.shown, H, I.kept hk, ⟨_, rfl⟩, q⟩) sz
theorem qe_repr (hu : X.A.units + 64 < cLine) (hg : X.A.guards = some []) (hm : X.mg "repr" = none) (ha : QA X Wx [a] mA) (hgl : Gl X "repr" := by rfl) (he : starEach [a] X.env = (false, eval a X.env) :: starEach [] X.env := by rfl) : QE X Wx (.Call (.Name "repr" p) [a] [] pos) (mCB fRepr mA) := qe_callB (call_reprD hg hu) (fun G as S H ws vs R Q r h1 h hR => by
  obtain ⟨w, d, rfl, hd, hk, ok, sh, sz, q⟩ := h
  obtain ⟨v, rfl, rv⟩ := rels1 h1
  have dv := dref_ok r rv hd
  have dp := dv.dp (.inr ok.lay)
  have : ∃ x, v = .ref x := by
    rcases hk with ⟨ds, rfl⟩ | ⟨ds, rfl⟩
    · cases dv; exact ⟨_, rfl⟩
    · cases dv; exact ⟨_, rfl⟩
  obtain ⟨x, rfl⟩ := this
  exact ⟨x, d, rfl, dp, ok, sh, sz, hR _ S G as _ H q Ext.refl r (.str _)⟩) hm (by decide +kernel) ha hgl (by decide) (by decide) he
end
/-! ### {} -/
def mDict0 : ME := fun _ S R _ => R (.p (.dict [])) S
theorem qe_dict0 {X : Cx} {Wx : WX} {pos : Pos} : QE X Wx (.Dict [] [] pos) mDict0 := pe_dnewK.weak fun σ H Q h => by
  obtain ⟨G, as, ρ, S, R, RX, hE, hS, hm, hR, hX⟩ := h
  intro p hp
  obtain ⟨r2, e2, _⟩ := hS.laid (o := .dK []) hp
  exact hR _ S _ as _ _ hm e2 r2 (.dic upd_same .nil)
/-! ### == of what is the same -/
def eqTk (f : PyData → Bool) : PyData → Bool
  | .list ds => ds.all f
  | .dict [] => true
  | _ => false
def eqT : Nat → PyData → Bool
  | 0, _ => false
  | n + 1, d => (d.canLay0 && decide (d.depth ≤ n)) || eqTk (eqT n) d
section
variable {X : Cx} {pins : List (Addr × Obj)} {σ : L2.St} {H : Hp} {s : Shared}
theorem eqT_list (I : Inv X pins σ H s) {ds : List PyData} {A : Around} {n : Nat} (ih : ∀ d ∈ ds, ∀ x y v u, Dv X.K H d x → Dv X.K H d y → RelV x v → RelV y u → SeqAt.EqP X.prog X.w A.in1 s v u true) (hu : A.units < cLine) {a b : Addr} {xs ys : List V} (ha : H a = some (.lst xs)) (hb : H b = some (.lst ys)) (d1 : DvL X.K H ds xs) (d2 : DvL X.K H ds ys)
    (E Q : Value → Shared → Prop) (q : Q (.bool true) s) : wpAny (model X.prog X.w) A (richCompare .Eq (.ref a) (.ref b)) Q E s := by
  obtain ⟨us, r1, p1, _⟩ := I.list (SqL.of ha)
  obtain ⟨ws, r2, p2, _⟩ := I.list (SqL.of hb)
  have hsz : us.toArray.size = ws.toArray.size := by
    rw [List.size_toArray, List.size_toArray, ← r1.length, ← r2.length, d1.length, d2.length]
  have items : ∀ {ds : List PyData} {xs ys : List V} {us ws : List Value}, (∀ d ∈ ds, ∀ x y v u, Dv X.K H d x → Dv X.K H d y → RelV x v → RelV y u → SeqAt.EqP X.prog X.w A.in1 s v u true) → DvL X.K H ds xs → DvL X.K H ds ys → Vals xs us → Vals ys ws → ∀ j (h1 : j < us.length) (h2 : j < ws.length), SeqAt.EqP X.prog X.w A.in1 s us[j] ws[j] true := by
    intro ds
    induction ds with
    | nil =>
      intro xs ys us ws _ e1 e2 f1 f2 j h1
      cases e1
      cases f1
      exact absurd h1 (Nat.not_lt_zero j)
    | cons d ds k =>
      intro xs ys us ws hi e1 e2 f1 f2 j h1 h2
      cases e1 with
      | cons q1 r1 =>
        cases e2 with
        | cons q2 r2 =>
          cases f1 with
          | cons g1 t1 =>
            cases f2 with
            | cons g2 t2 =>
              cases j with
              | zero => exact hi d (by simp) _ _ _ _ q1 q2 g1 g2
              | succ j => exact k (fun d' hd' => hi d' (by simp [hd'])) r1 r2 t1 t2 j (Nat.lt_of_succ_lt_succ h1) (Nat.lt_of_succ_lt_succ h2)
  refine SeqAt.rcP_lists (e := fun _ => true) p1.isList p2.isList hsz hu (fun j h1 h2 => ?_) E Q ?_
  · have k := items ih d1 d2 r1 r2 j (by simpa using h1) (by simpa using h2)
    simpa using k
  · rw [show ((List.range us.toArray.size).all fun _ => true) = true from List.all_eq_true.mpr fun _ _ => rfl]
    exact q
theorem eqT_run (I : Inv X pins σ H s) : ∀ (n : Nat) (d : PyData) (A : Around) (x y : V) (v u : Value), eqT n d = true → A.units + n < cLine → Dv X.K H d x → Dv X.K H d y → RelV x v → RelV y u → SeqAt.EqP X.prog X.w A s v u true
  | 0, _, _, _, _, _, _, h, _, _, _, _, _ => absurd h Bool.false_ne_true
  | n + 1, d, A, x, y, v, u, h, hu, dx, dy, rx, ry => by
    have h' : ((d.canLay0 && decide (d.depth ≤ n)) || eqTk (eqT n) d) = true := h
    rw [Bool.or_eq_true] at h'
    rcases h' with h' | h'
    · rw [Bool.and_eq_true, decide_eq_true_eq] at h'
      obtain ⟨as, r1⟩ := Dp.reads I d x v (dx.dp (.inr h'.1)) rx
      obtain ⟨bs, r2⟩ := Dp.reads I d y u (dy.dp (.inr h'.1)) ry
      have := SeqAt.eqAt_reads d d A s v u as bs r1 r2 h'.1 h'.1 (by rw [Nat.min_self]; omega)
      rw [SeqAt.eqv_refl d h'.1] at this
      exact this.eqP
    · cases d with
      | list ds =>
        have ih := fun d hd x y v u => eqT_run I n d A.in1 x y v u (List.all_eq_true.mp h' d hd) (by show A.units + 1 + n < cLine; omega)
        cases dx with
        | lst ha d1 =>
          cases dy with
          | lst hb d2 =>
            rename_i a xs b ys
            cases (show v = Value.ref a from rx)
            cases (show u = Value.ref b from ry)
            by_cases e : a = b
            · subst e
              exact (SeqAt.EqAt.same _).eqP
            · exact SeqAt.eqP_refs e fun E Q q => eqT_list I (A := A) (n := n) ih (by omega) ha hb d1 d2 E Q q
      | dict kvs =>
        cases kvs with
        | nil =>
          cases dx with
          | dic ha d1 =>
            cases dy with
            | dic hb d2 =>
              rename_i a xs b ys
              cases d1
              cases d2
              cases (show v = Value.ref a from rx)
              cases (show u = Value.ref b from ry)
              by_cases e : a = b
              · subst e
                exact (SeqAt.EqAt.same _).eqP
              · refine SeqAt.eqP_refs e fun E Q q => ?_
                obtain ⟨_, ya, va, ra, da⟩ := (show ObjOk X.prog X.w H s.heap a (.dK []) from I.hok a _ ha)
                obtain ⟨_, yb, vb, rb, db⟩ := (show ObjOk X.prog X.w H s.heap b (.dK []) from I.hok b _ hb)
                cases ra
                cases rb
                exact PySem.W.rcP_dicts (knd := mixKind X.prog X.w) (r := true) ya yb da db (by omega) (fun _ => .nil) E Q q
        | cons => exact absurd h' Bool.false_ne_true
      | _ => exact absurd h' Bool.false_ne_true
end
/-- two lists that are the same, as data -/
def rEqT (K : PySem.W.Frag) : R2 := fun x y H Q => ∃ ds, (∀ d ∈ ds, eqT 60 d = true) ∧ Dv K H (.list ds) x ∧ Dv K H (.list ds) y ∧ Q (.bl true) H
theorem op_eqT {X : Cx} (hu : X.A.units + 64 < cLine) : OpR X (compareOp .Eq) (rEqT X.K) := by
  intro pins s σ H x y v u Q I rx ry h
  obtain ⟨ds, hd, dx, dy, q⟩ := h
  cases dx with
  | lst ha d1 =>
    cases dy with
    | lst hb d2 =>
      rename_i a xs b ys
      cases (show v = Value.ref a from rx)
      cases (show u = Value.ref b from ry)
      exact eqT_list I (A := X.A) (n := 60) (fun d hd' x y v u => eqT_run I 60 d X.A.in1 x y v u (hd d hd') (by show X.A.units + 1 + 60 < cLine; omega)) (by omega) ha hb d1 d2 _ _ ⟨.bl true, H, I, rfl, q⟩
def fEqT : W → W → So → RK → Prop := fun w1 w2 S R => ∃ ds, dref S w1 = some (.list ds) ∧ dref S w2 = some (.list ds) ∧ (∀ d ∈ ds, eqT 60 d = true) ∧ R (.p (.bool true)) S
theorem fEqT_ok {K : PySem.W.Frag} : OpW K (rEqT K) fEqT := fun G as S H w1 w2 v1 v2 R Q r h1 h2 h hR => by
  obtain ⟨ds, e1, e2, s1, q⟩ := h
  exact ⟨ds, s1, dref_ok r h1 e1, dref_ok r h2 e2, hR _ S G as _ H q Ext.refl r (Dv.bl _)⟩
section
variable {X : Cx} {Wx : WX} {a b : Expr} {ma mb : ME} {pos : Pos}
theorem qe_eqT (hu : X.A.units + 64 < cLine) (ha : QE X Wx a ma) (hb : QE X Wx b mb) : QE X Wx (.Compare a [.Eq] [b] pos) (mBin fEqT ma mb) := qe_cmp (op_eqT hu) fEqT_ok ha hb
theorem qt_eqT (hu : X.A.units + 64 < cLine) (ha : QE X Wx a ma) (hb : QE X Wx b mb) : QT X Wx (.Compare a [.Eq] [b] pos) (mB (mBin fEqT ma mb)) := qt_cmp (op_eqT hu) fEqT_ok ha hb
end
theorem eqT_okD {n : Nat} {d : PyData} (h : okD n d) : eqT (n + 1) d = true := by
  unfold eqT
  rw [h.lay, decide_eq_true h.dep]; rfl
theorem eqT_up : ∀ {n : Nat} {d : PyData}, eqT n d = true → eqT (n + 1) d = true
  | 0, d, h => absurd h Bool.false_ne_true
  | n + 1, d, h => by
    have h' : ((d.canLay0 && decide (d.depth ≤ n)) || eqTk (eqT n) d) = true := h
    show ((d.canLay0 && decide (d.depth ≤ n + 1)) || eqTk (eqT (n + 1)) d) = true
    rw [Bool.or_eq_true] at h' ⊢
    rcases h' with h' | h'
    · rw [Bool.and_eq_true, decide_eq_true_eq] at h' ⊢
      exact .inl ⟨h'.1, by omega⟩
    · refine .inr ?_
      cases d with
      | list ds =>
        have h2 : ds.all (eqT n) = true := h'
        show ds.all (eqT (n + 1)) = true
        rw [List.all_eq_true] at h2 ⊢
        exact fun x hx => eqT_up (h2 x hx)
      | dict kvs =>
        cases kvs with
        | nil => rfl
        | cons => exact absurd h' Bool.false_ne_true
      | _ => exact absurd h' Bool.false_ne_true
theorem eqT_lst {n : Nat} {ds : List PyData} (h : ∀ d ∈ ds, eqT n d = true) : eqT (n + 1) (.list ds) = true := by
  have : ds.all (eqT n) = true := List.all_eq_true.mpr h
  show (_ || ds.all (eqT n)) = true
  rw [this, Bool.or_true]
end Fd
namespace Lw
/-! rows of whole numbers: elimination, in plain -/
/-- the item i (0 outside) -/
def at0 (ms : List Int) (i : Nat) : Int := ms.getD i 0
theorem at0_out {xs : List Int} {i : Nat} (h : xs.length ≤ i) : at0 xs i = 0 := by
  unfold at0
  rw [List.getD_eq_getElem?_getD, List.getElem?_eq_none h]; rfl
theorem at0_in {xs : List Int} {i : Nat} (h : i < xs.length) : at0 xs i = xs[i] := by
  unfold at0
  rw [List.getD_eq_getElem?_getD, List.getElem?_eq_getElem h]; rfl
theorem at0_map {f : Int → Int} (h0 : f 0 = 0) (xs : List Int) (i : Nat) : at0 (xs.map f) i = f (at0 xs i) := by
  by_cases h : i < xs.length
  · rw [at0_in (by simpa using h), at0_in h, List.getElem_map]
  · rw [at0_out (by simpa using h), at0_out (by omega), h0]
theorem at0_zip {f : Int → Int → Int} (h0 : f 0 0 = 0) {xs ys : List Int} (hl : xs.length = ys.length) (i : Nat) : at0 (List.zipWith f xs ys) i = f (at0 xs i) (at0 ys i) := by
  by_cases h : i < xs.length
  · rw [at0_in (by simp; omega), at0_in h, at0_in (by omega), List.getElem_zipWith]
  · rw [at0_out (by simp; omega), at0_out (by omega), at0_out (by omega), h0]
theorem at0_mem' {xs : List Int} {i : Nat} (h : i < xs.length) : at0 xs i ∈ xs := by rw [at0_in h]; exact List.getElem_mem h
theorem at0_ext {xs ys : List Int} (hl : xs.length = ys.length) (h : ∀ i, i < xs.length → at0 xs i = at0 ys i) : xs = ys := by
  apply List.ext_getElem hl
  intro i h1 h2
  have := h i h1
  rw [at0_in h1, at0_in h2] at this
  exact this
/-- the greatest divisor -/
def gcdFrom (g : Nat) (xs : List Int) : Nat := xs.foldl (fun g x => Nat.gcd g x.natAbs) g
def gcdL (xs : List Int) : Nat := gcdFrom 0 xs
theorem gcdFrom_dvd : ∀ (xs : List Int) (g : Nat), gcdFrom g xs ∣ g ∧ ∀ x ∈ xs, gcdFrom g xs ∣ x.natAbs
  | [], g => ⟨Nat.dvd_refl _, by simp⟩
  | x :: xs, g => by
    obtain ⟨h1, h2⟩ := gcdFrom_dvd xs (Nat.gcd g x.natAbs)
    refine ⟨Nat.dvd_trans h1 (Nat.gcd_dvd_left _ _), fun y hy => ?_⟩
    rcases List.mem_cons.mp hy with rfl | hy
    · exact Nat.dvd_trans h1 (Nat.gcd_dvd_right _ _)
    · exact h2 y hy
theorem gcdL_dvd {xs : List Int} {x : Int} (h : x ∈ xs) : (gcdL xs : Int) ∣ x := Int.ofNat_dvd_left.mpr ((gcdFrom_dvd xs 0).2 x h)
theorem gcdFrom_pos : ∀ (xs : List Int) (g : Nat), 0 < g → 0 < gcdFrom g xs
  | [], g, h => h
  | x :: xs, g, h => gcdFrom_pos xs _ (Nat.gcd_pos_of_pos_left _ h)
theorem gcdFrom_zero : ∀ (xs : List Int) (g : Nat), gcdFrom g xs = 0 → ∀ x ∈ xs, x = 0
  | [], g, _ => by simp
  | x :: xs, g, h => fun y hy => by
    rcases List.mem_cons.mp hy with rfl | hy
    · by_cases e : y = 0
      · exact e
      · have : 0 < Nat.gcd g y.natAbs := Nat.gcd_pos_of_pos_right _ (by omega)
        have := gcdFrom_pos xs _ this
        have h' : gcdFrom (Nat.gcd g y.natAbs) xs = 0 := h
        omega
    · exact gcdFrom_zero xs _ h y hy
theorem fdiv_exact {a b : Int} (h : b ∣ a) : b * a.fdiv b = a := by
  obtain ⟨c, rfl⟩ := h
  by_cases hb : b = 0
  · subst hb; simp
  · rw [Int.mul_fdiv_cancel_left _ hb]
/-- in lowest terms -/
def lowest (f : List Int) : List Int := if gcdL f = 0 then f else f.map fun x => x.fdiv (gcdL f)
theorem lowest_len (f : List Int) : (lowest f).length = f.length := by unfold lowest; split <;> simp
theorem lowest_at (f : List Int) : ∃ g : Int, 0 < g ∧ ∀ j, g * at0 (lowest f) j = at0 f j := by
  unfold lowest
  split
  · exact ⟨1, by omega, fun j => by omega⟩
  · rename_i h
    refine ⟨gcdL f, by omega, fun j => ?_⟩
    rw [at0_map (by simp)]
    by_cases hj : j < f.length
    · exact fdiv_exact (gcdL_dvd (at0_mem' hj))
    · rw [at0_out (by omega)]; simp
/-- sizes -/
def szL (B : Nat) (xs : List Int) : Prop := ∀ x ∈ xs, x.natAbs < 2 ^ B
theorem szL.mono {B C : Nat} {xs : List Int} (h : szL B xs) (hb : B ≤ C) : szL C xs := fun x hx => Nat.lt_of_lt_of_le (h x hx) (Nat.pow_le_pow_right (by omega) hb)
theorem szL.at {B : Nat} {xs : List Int} (h : szL B xs) (i : Nat) : (at0 xs i).natAbs < 2 ^ B := by
  by_cases hi : i < xs.length
  · exact h _ (at0_mem' hi)
  · rw [at0_out (by omega)]; exact Nat.pow_pos (by omega)
theorem sz_mul {A B : Nat} {x y : Int} (hx : x.natAbs < 2 ^ A) (hy : y.natAbs < 2 ^ B) : (x * y).natAbs < 2 ^ (A + B) := by
  rw [Int.natAbs_mul, Nat.pow_add]
  have h1 : x.natAbs * y.natAbs ≤ x.natAbs * 2 ^ B := Nat.mul_le_mul_left _ (by omega)
  have h2 : x.natAbs * 2 ^ B < 2 ^ A * 2 ^ B := Nat.mul_lt_mul_of_pos_right hx (Nat.pow_pos (by omega))
  omega
theorem sz_sub {A : Nat} {x y : Int} (hx : x.natAbs < 2 ^ A) (hy : y.natAbs < 2 ^ A) : (x - y).natAbs < 2 ^ (A + 1) := by
  rw [Nat.pow_succ]; omega
theorem sz_add {A : Nat} {x y : Int} (hx : x.natAbs < 2 ^ A) (hy : y.natAbs < 2 ^ A) : (x + y).natAbs < 2 ^ (A + 1) := by
  rw [Nat.pow_succ]; omega
theorem sz_div {A : Nat} {x y q : Int} (h : y * q = x) (hy : y ≠ 0) (hx : x.natAbs < 2 ^ A) : q.natAbs < 2 ^ A := by
  have h1 : y.natAbs * q.natAbs = x.natAbs := by rw [← Int.natAbs_mul, h]
  have h2 : 1 * q.natAbs ≤ y.natAbs * q.natAbs := Nat.mul_le_mul_right _ (by omega)
  omega
theorem lowest_sz {B : Nat} {f : List Int} (h : szL B f) : szL B (lowest f) := fun x hx => by
  obtain ⟨g, hg, e⟩ := lowest_at f
  obtain ⟨i, hi, rfl⟩ := List.getElem_of_mem hx
  have e2 := e i
  rw [at0_in hi] at e2
  exact sz_div e2 (by omega) (h.at i)
/-- a row less another one -/
def comb (c : Nat) (row first : List Int) : List Int := List.zipWith (fun x y => at0 first c * x - at0 row c * y) row first
def wo (row first : List Int) (c : Nat) : List Int := if at0 row c = 0 then row else lowest (comb c row first)
theorem comb_len {c : Nat} {row first : List Int} (h : row.length = first.length) : (comb c row first).length = row.length := by unfold comb; simp; omega
theorem wo_len {c : Nat} {row first : List Int} (h : row.length = first.length) : (wo row first c).length = row.length := by
  unfold wo
  split
  · rfl
  · rw [lowest_len, comb_len h]
theorem comb_sz {B c : Nat} {row first : List Int} (h1 : szL B row) (h2 : szL B first) (hl : row.length = first.length) : szL (2 * B + 1) (comb c row first) := fun x hx => by
  obtain ⟨i, hi, rfl⟩ := List.getElem_of_mem hx
  have e : at0 (comb c row first) i = at0 first c * at0 row i - at0 row c * at0 first i := at0_zip (f := fun x y => at0 first c * x - at0 row c * y) (by simp) hl i
  rw [← at0_in hi, e]
  have a1 := sz_mul (h2.at c) (h1.at i)
  have a2 := sz_mul (h1.at c) (h2.at i)
  have := sz_sub a1 a2
  rw [show 2 * B + 1 = B + B + 1 by omega]
  exact this
theorem wo_sz {B c : Nat} {row first : List Int} (h1 : szL B row) (h2 : szL B first) (hl : row.length = first.length) : szL (2 * B + 1) (wo row first c) := by
  unfold wo
  split
  · exact h1.mono (by omega)
  · exact lowest_sz (comb_sz h1 h2 hl)
theorem wo_at {c : Nat} {row first : List Int} (hl : row.length = first.length) : ∃ g u v : Int, 0 < g ∧ (at0 first c ≠ 0 → u ≠ 0) ∧ (0 < at0 first c → 0 < u) ∧ u * at0 row c = v * at0 first c ∧ (∀ j, g * at0 (wo row first c) j = u * at0 row j - v * at0 first j) ∧
    ((at0 row c = 0 ∧ u = 1 ∧ v = 0) ∨ (u = at0 first c ∧ v = at0 row c)) := by
  unfold wo
  split
  · rename_i h
    exact ⟨1, 1, 0, by omega, by omega, by omega, by omega, fun j => by omega, .inl ⟨h, rfl, rfl⟩⟩
  · obtain ⟨g, hg, e⟩ := lowest_at (comb c row first)
    refine ⟨g, at0 first c, at0 row c, hg, fun h => h, fun h => h, Int.mul_comm _ _, fun j => ?_, .inr ⟨rfl, rfl⟩⟩
    rw [e j]
    exact at0_zip (f := fun x y => at0 first c * x - at0 row c * y) (by simp) hl j
/-! ### sums -/
def sumN : Nat → (Nat → Int) → Int
  | 0, _ => 0
  | n + 1, f => sumN n f + f n
theorem sumN_congr {n : Nat} {f g : Nat → Int} (h : ∀ j, j < n → f j = g j) : sumN n f = sumN n g := by
  induction n with
  | zero => rfl
  | succ n ih => unfold sumN; rw [ih fun j hj => h j (by omega), h n (by omega)]
theorem sumN_lin {n : Nat} {f g : Nat → Int} (u v : Int) : sumN n (fun j => u * f j - v * g j) = u * sumN n f - v * sumN n g := by
  induction n with
  | zero => simp [sumN]
  | succ n ih => simp only [sumN]; rw [ih]; grind
theorem sumN_mul {n : Nat} {f : Nat → Int} (u : Int) : sumN n (fun j => u * f j) = u * sumN n f := by
  induction n with
  | zero => simp [sumN]
  | succ n ih => simp only [sumN]; rw [ih]; grind
theorem sumN_zero {n : Nat} {f : Nat → Int} (h : ∀ j, j < n → f j = 0) : sumN n f = 0 := by
  induction n with
  | zero => rfl
  | succ n ih => unfold sumN; rw [ih fun j hj => h j (by omega), h n (by omega)]; rfl
theorem sumN_one {n k : Nat} {f : Nat → Int} (hk : k < n) (h : ∀ j, j < n → j ≠ k → f j = 0) : sumN n f = f k := by
  induction n with
  | zero => omega
  | succ n ih =>
    unfold sumN
    by_cases e : k = n
    · subst e
      rw [sumN_zero fun j hj => h j (by omega) (by omega)]; omega
    · rw [ih (by omega) fun j hj => h j (by omega), h n (by omega) (by omega)]; omega
theorem sumN_le {n : Nat} {f g : Nat → Int} (h : ∀ j, j < n → f j ≤ g j) : sumN n f ≤ sumN n g := by
  induction n with
  | zero => exact Int.le_refl _
  | succ n ih =>
    unfold sumN
    have h1 := ih fun j hj => h j (by omega)
    have h2 := h n (by omega)
    omega
theorem sumN_nonneg {n : Nat} {f : Nat → Int} (h : ∀ j, j < n → 0 ≤ f j) : 0 ≤ sumN n f := by
  have := sumN_le (f := fun _ => 0) (g := f) h
  rw [sumN_zero (f := fun _ => 0) fun _ _ => rfl] at this
  exact this
theorem sumN_shift {n : Nat} {f : Nat → Int} : sumN (n + 1) f = f 0 + sumN n fun j => f (j + 1) := by
  induction n with
  | zero => simp [sumN]
  | succ n ih => rw [sumN, ih]; simp only [sumN]; omega
/-- a list's sum -/
theorem sum_sumN : ∀ xs : List Int, xs.sum = sumN xs.length (at0 xs)
  | [] => rfl
  | x :: xs => by
    rw [List.sum_cons, List.length_cons, sumN_shift, sum_sumN xs]
    rfl
/-- a row times y -/
def dt (m : Nat) (r : List Int) (y : Nat → Int) : Int := sumN m fun j => at0 r j * y j
theorem dt_wo {m c : Nat} {row first : List Int} {g u v : Int} {y : Nat → Int} (h : ∀ j, g * at0 (wo row first c) j = u * at0 row j - v * at0 first j) : g * dt m (wo row first c) y = u * dt m row y - v * dt m first y := by
  unfold dt
  rw [← sumN_mul, ← sumN_lin]
  exact sumN_congr fun j _ => by grind
/-! ### elimination -/
/-- the rows whose item in a column is not 0 -/
def nzs (c : Nat) (left : List (List Int)) : List Nat := (left.mapIdx fun i r => if at0 r c = 0 then none else some i).filterMap id
theorem nzs_mem {c i : Nat} {left : List (List Int)} : i ∈ nzs c left ↔ i < left.length ∧ at0 (left.getD i []) c ≠ 0 := by
  unfold nzs
  rw [List.mem_filterMap]
  constructor
  · rintro ⟨o, h1, h2⟩
    obtain ⟨j, hj, rfl⟩ := List.getElem_of_mem h1
    rw [List.getElem_mapIdx] at h2
    have hj' : j < left.length := by simpa using hj
    split at h2
    · cases h2
    · rename_i h
      have : j = i := by simpa using h2
      subst this
      refine ⟨hj', ?_⟩
      rw [List.getD_eq_getElem?_getD, List.getElem?_eq_getElem hj']
      exact h
  · rintro ⟨h1, h2⟩
    rw [List.getD_eq_getElem?_getD, List.getElem?_eq_getElem h1] at h2
    refine ⟨some i, ?_, rfl⟩
    have h3 : i < (left.mapIdx fun i r => if at0 r c = 0 then none else some i).length := by simpa using h1
    have h4 : (left.mapIdx fun i r => if at0 r c = 0 then none else some i)[i] = some i := by
      rw [List.getElem_mapIdx]
      exact if_neg h2
    rw [← h4]; exact List.getElem_mem h3
theorem nzs_first {c : Nat} {r : List Int} {left : List (List Int)} (h : at0 r c ≠ 0) : ∃ is, nzs c (r :: left) = 0 :: is := by
  unfold nzs
  rw [List.mapIdx_cons, List.filterMap_cons, if_neg h]
  exact ⟨_, rfl⟩
def redStep (c : Nat) (s : List (List Int) × List (List Int)) : List (List Int) × List (List Int) := match nzs c s.1 with
  | [] => s
  | i :: _ => ((s.1.eraseIdx i).map (wo · (s.1.getD i []) c), s.2.map (wo · (s.1.getD i []) c) ++ [s.1.getD i []])
theorem redStep_nil {c : Nat} {left done : List (List Int)} (h : nzs c left = []) : redStep c (left, done) = (left, done) := by
  unfold redStep
  rw [h]
theorem redStep_cons {c i : Nat} {is : List Nat} {left done : List (List Int)} (h : nzs c left = i :: is) : redStep c (left, done) = ((left.eraseIdx i).map (wo · (left.getD i []) c), done.map (wo · (left.getD i []) c) ++ [left.getD i []]) := by
  unfold redStep
  rw [h]
def redAll (rows : List (List Int)) (w : Nat) : List (List Int) × List (List Int) := (List.range w).foldl (fun s c => redStep c s) (rows, [])
def redRows (rows : List (List Int)) (w : Nat) : List (List Int) := (redAll rows w).2
theorem redAll_succ (rows : List (List Int)) (w : Nat) : redAll rows (w + 1) = redStep w (redAll rows w) := by
  unfold redAll
  rw [List.range_succ, List.foldl_append]; rfl
/-- the bits behind c columns -/
def bd (b : Nat) : Nat → Nat
  | 0 => b
  | c + 1 => 2 * bd b c + 1
theorem bd_mono (b c : Nat) : bd b c ≤ bd b (c + 1) := by show bd b c ≤ 2 * bd b c + 1; omega
theorem bd_le (b : Nat) : ∀ c, bd b c + 1 ≤ 2 ^ c * (b + 1)
  | 0 => by simp [bd]
  | c + 1 => by
    have := bd_le b c
    rw [Nat.pow_succ]
    show 2 * bd b c + 1 + 1 ≤ _
    grind
/-- what holds behind c columns: the rows left, the rows done with their columns -/
structure RInv (rows : List (List Int)) (m b c : Nat) (left : List (List Int)) (dp : List (List Int × Nat)) : Prop where
  lenL : ∀ r ∈ left, r.length = m
  lenD : ∀ p ∈ dp, p.1.length = m
  cnt : left.length + dp.length = rows.length
  sub : (dp.map (·.2)).Sublist (List.range c)
  piv : ∀ p ∈ dp, at0 p.1 p.2 ≠ 0
  off : dp.Pairwise fun p q => at0 p.1 q.2 = 0 ∧ at0 q.1 p.2 = 0
  zero : ∀ r ∈ left, ∀ j, j < c → at0 r j = 0
  szl : ∀ r ∈ left, szL (bd b c) r
  szd : ∀ p ∈ dp, szL (bd b c) p.1
  sol : ∀ y, (∀ r ∈ rows, dt m r y = 0) ↔ (∀ r ∈ left, dt m r y = 0) ∧ ∀ p ∈ dp, dt m p.1 y = 0
theorem RInv.start {rows : List (List Int)} {m b : Nat} (hl : ∀ r ∈ rows, r.length = m) (hs : ∀ r ∈ rows, szL b r) : RInv rows m b 0 rows [] where
  lenL := hl
  lenD := by simp
  cnt := by simp
  sub := by simp
  piv := by simp
  off := .nil
  zero := by omega
  szl := hs
  szd := by simp
  sol := fun y => by simp
theorem mem_split {α : Type} {xs : List α} {i : Nat} {a : α} (h : xs[i]? = some a) : ∀ x, x ∈ xs ↔ x = a ∨ x ∈ xs.eraseIdx i := fun x => by
  obtain ⟨hi, rfl⟩ := List.getElem?_eq_some_iff.mp h
  have e : xs = xs.take i ++ xs[i] :: xs.drop (i + 1) := by
    have := List.take_append_drop i xs
    rw [List.drop_eq_getElem_cons hi] at this
    exact this.symm
  rw [List.eraseIdx_eq_take_drop_succ]
  constructor
  · intro hx
    rw [e] at hx
    simp only [List.mem_append, List.mem_cons] at hx ⊢
    rcases hx with hx | hx | hx
    · exact .inr (.inl hx)
    · exact .inl hx
    · exact .inr (.inr hx)
  · rintro (rfl | hx)
    · exact List.getElem_mem hi
    · simp only [List.mem_append] at hx
      rcases hx with hx | hx
      · exact List.mem_of_mem_take hx
      · exact List.mem_of_mem_drop hx
theorem RInv.step {rows : List (List Int)} {m b c : Nat} {left : List (List Int)} {dp : List (List Int × Nat)} (I : RInv rows m b c left dp) (hc : c < m) :
    ∃ dp', RInv rows m b (c + 1) (redStep c (left, dp.map (·.1))).1 dp' ∧ (redStep c (left, dp.map (·.1))).2 = dp'.map (·.1) := by
  cases hn : nzs c left with
  | nil =>
    rw [redStep_nil hn]
    refine ⟨dp, ⟨I.lenL, I.lenD, I.cnt, ?_, I.piv, I.off, fun r hr j hj => ?_, fun r hr => (I.szl r hr).mono (bd_mono b c), fun p hp => (I.szd p hp).mono (bd_mono b c), I.sol⟩, rfl⟩
    · rw [List.range_succ]
      exact I.sub.trans (List.sublist_append_left _ _)
    · by_cases e : j = c
      · subst e
        obtain ⟨i, hi, rfl⟩ := List.getElem_of_mem hr
        apply Decidable.byContradiction
        intro hne
        have : i ∈ nzs j left := nzs_mem.mpr ⟨hi, by rw [List.getD_eq_getElem?_getD, List.getElem?_eq_getElem hi]; exact hne⟩
        rw [hn] at this
        simp at this
      · exact I.zero r hr j (by omega)
  | cons i is =>
    have hi := nzs_mem.mp (show i ∈ nzs c left by rw [hn]; simp)
    have hg : left[i]? = some (left.getD i []) := by
      rw [List.getD_eq_getElem?_getD, List.getElem?_eq_getElem hi.1]; rfl
    rw [redStep_cons hn]
    generalize hf : left.getD i [] = first at hi hg ⊢
    have hm : first ∈ left := List.mem_of_getElem? hg
    have sp := mem_split hg
    have lf := I.lenL _ hm
    have pz : ∀ p ∈ dp, p.2 < c := fun p hp => List.mem_range.mp (I.sub.mem (List.mem_map_of_mem hp))
    have er : ∀ r, r ∈ left.eraseIdx i → r ∈ left := fun r hr => (sp r).mpr (.inr hr)
    refine ⟨dp.map (fun p => (wo p.1 first c, p.2)) ++ [(first, c)], ⟨?_, ?_, ?_, ?_, ?_, ?_, ?_, ?_, ?_, ?_⟩, ?_⟩
    · intro r hr
      obtain ⟨r', hr', rfl⟩ := List.mem_map.mp hr
      rw [wo_len (by rw [I.lenL _ (er _ hr'), lf])]
      exact I.lenL _ (er _ hr')
    · intro p hp
      rcases List.mem_append.mp hp with hp | hp
      · obtain ⟨q, hq, rfl⟩ := List.mem_map.mp hp
        show (wo q.1 first c).length = m
        rw [wo_len (by rw [I.lenD _ hq, lf])]
        exact I.lenD _ hq
      · have : p = (first, c) := by simpa using hp
        subst this
        exact lf
    · have := I.cnt
      simp only [List.length_map, List.length_append, List.length_cons, List.length_nil, List.length_eraseIdx]
      split <;> omega
    · rw [List.map_append, List.map_map, List.range_succ]
      have e : ((fun p : List Int × Nat => p.2) ∘ fun p : List Int × Nat => (wo p.1 first c, p.2)) = (·.2) := rfl
      rw [e]
      exact I.sub.append (List.Sublist.refl _)
    · intro p hp
      rcases List.mem_append.mp hp with hp | hp
      · obtain ⟨q, hq, rfl⟩ := List.mem_map.mp hp
        show at0 (wo q.1 first c) q.2 ≠ 0
        obtain ⟨g, u, v, g0, u0, _, _, e, _⟩ := wo_at (c := c) (row := q.1) (first := first) (by rw [I.lenD _ hq, lf])
        intro hz
        have e2 := e q.2
        rw [hz, I.zero _ hm _ (pz q hq)] at e2
        have e3 : u * at0 q.1 q.2 = 0 := by grind
        rcases Int.mul_eq_zero.mp e3 with h | h
        · exact u0 hi.2 h
        · exact I.piv q hq h
      · have : p = (first, c) := by simpa using hp
        subst this
        exact hi.2
    · rw [List.pairwise_append]
      refine ⟨?_, List.pairwise_singleton _ _, ?_⟩
      · rw [List.pairwise_map]
        refine List.Pairwise.imp_of_mem ?_ I.off
        rintro p q hp hq ⟨h1, h2⟩
        have key : ∀ r : List Int × Nat, r ∈ dp → ∀ k, at0 r.1 k = 0 → at0 first k = 0 → at0 (wo r.1 first c) k = 0 := fun r hr k k1 k2 => by
          obtain ⟨g, u, v, g0, _, _, _, e, _⟩ := wo_at (c := c) (row := r.1) (first := first) (by rw [I.lenD _ hr, lf])
          have e2 := e k
          rw [k1, k2] at e2
          have e3 : g * at0 (wo r.1 first c) k = 0 := by grind
          rcases Int.mul_eq_zero.mp e3 with h | h
          · omega
          · exact h
        exact ⟨key p hp _ h1 (I.zero _ hm _ (pz q hq)), key q hq _ h2 (I.zero _ hm _ (pz p hp))⟩
      · intro a ha z hz
        have : z = (first, c) := by simpa using hz
        subst this
        obtain ⟨q, hq, rfl⟩ := List.mem_map.mp ha
        refine ⟨?_, I.zero _ hm _ (pz q hq)⟩
        show at0 (wo q.1 first c) c = 0
        obtain ⟨g, u, v, g0, _, _, h, e, _⟩ := wo_at (c := c) (row := q.1) (first := first) (by rw [I.lenD _ hq, lf])
        have e3 : g * at0 (wo q.1 first c) c = 0 := by rw [e c]; omega
        rcases Int.mul_eq_zero.mp e3 with h | h
        · omega
        · exact h
    · intro r hr j hj
      obtain ⟨r', hr', rfl⟩ := List.mem_map.mp hr
      obtain ⟨g, u, v, g0, _, _, h, e, _⟩ := wo_at (c := c) (row := r') (first := first) (by rw [I.lenL _ (er _ hr'), lf])
      have e3 : g * at0 (wo r' first c) j = 0 := by
        rw [e j]
        by_cases ej : j = c
        · subst ej; omega
        · rw [I.zero _ (er _ hr') j (by omega), I.zero _ hm j (by omega)]; simp
      rcases Int.mul_eq_zero.mp e3 with h | h
      · omega
      · exact h
    · intro r hr
      obtain ⟨r', hr', rfl⟩ := List.mem_map.mp hr
      exact wo_sz (I.szl _ (er _ hr')) (I.szl _ hm) (by rw [I.lenL _ (er _ hr'), lf])
    · intro p hp
      rcases List.mem_append.mp hp with hp | hp
      · obtain ⟨q, hq, rfl⟩ := List.mem_map.mp hp
        exact wo_sz (I.szd _ hq) (I.szl _ hm) (by rw [I.lenD _ hq, lf])
      · have : p = (first, c) := by simpa using hp
        subst this
        exact (I.szl _ hm).mono (bd_mono b c)
    · intro y
      rw [I.sol y]
      have key : ∀ r : List Int, r.length = m → dt m first y = 0 → (dt m (wo r first c) y = 0 ↔ dt m r y = 0) := fun r hr hz => by
        obtain ⟨g, u, v, g0, u0, _, _, e, _⟩ := wo_at (c := c) (row := r) (first := first) (by rw [hr, lf])
        have e2 := dt_wo (m := m) (y := y) e
        rw [hz] at e2
        constructor
        · intro h
          rw [h] at e2
          have e3 : u * dt m r y = 0 := by grind
          rcases Int.mul_eq_zero.mp e3 with h | h
          · exact absurd h (u0 hi.2)
          · exact h
        · intro h
          rw [h] at e2
          have e3 : g * dt m (wo r first c) y = 0 := by grind
          rcases Int.mul_eq_zero.mp e3 with h | h
          · omega
          · exact h
      constructor
      · rintro ⟨h1, h2⟩
        have hz := h1 first hm
        refine ⟨fun r hr => ?_, fun p hp => ?_⟩
        · obtain ⟨r', hr', rfl⟩ := List.mem_map.mp hr
          exact (key r' (I.lenL _ (er _ hr')) hz).mpr (h1 _ (er _ hr'))
        · rcases List.mem_append.mp hp with hp | hp
          · obtain ⟨q, hq, rfl⟩ := List.mem_map.mp hp
            exact (key q.1 (I.lenD _ hq) hz).mpr (h2 _ hq)
          · have : p = (first, c) := by simpa using hp
            subst this
            exact hz
      · rintro ⟨h1, h2⟩
        have hz : dt m first y = 0 := h2 (first, c) (by simp)
        refine ⟨fun r hr => ?_, fun p hp => ?_⟩
        · rcases (sp r).mp hr with rfl | hr
          · exact hz
          · exact (key r (I.lenL _ (er _ hr)) hz).mp (h1 _ (List.mem_map_of_mem hr))
        · exact (key p.1 (I.lenD _ hp) hz).mp (h2 (wo p.1 first c, p.2) (List.mem_append_left _ (List.mem_map.mpr ⟨p, hp, rfl⟩)))
    · rw [List.map_append, List.map_map, List.map_map]
      rfl
theorem redAll_inv {rows : List (List Int)} {m b : Nat} (hl : ∀ r ∈ rows, r.length = m) (hs : ∀ r ∈ rows, szL b r) : ∀ w, w ≤ m → ∃ dp, RInv rows m b w (redAll rows w).1 dp ∧ (redAll rows w).2 = dp.map (·.1)
  | 0, _ => ⟨[], RInv.start hl hs, rfl⟩
  | w + 1, h => by
    obtain ⟨dp, I, e⟩ := redAll_inv hl hs w (by omega)
    rw [redAll_succ]
    have e2 : redAll rows w = ((redAll rows w).1, dp.map (·.1)) := by rw [← e]
    rw [e2]
    exact I.step (by omega)
/-- what reduced rows tell -/
structure RedOk (rows : List (List Int)) (m b w : Nat) (done : List (List Int)) : Prop where
  len : done.length ≤ w
  lens : ∀ r ∈ done, r.length = m
  sz : ∀ r ∈ done, szL (bd b w) r
  full : done.length = w → (∀ k, k < w → at0 (done.getD k []) k ≠ 0 ∧ ∀ j, j < w → j ≠ k → at0 (done.getD k []) j = 0)
  sol : done.length = w → rows.length = w → ∀ y, (∀ r ∈ rows, dt m r y = 0) ↔ ∀ r ∈ done, dt m r y = 0
theorem redRows_ok {rows : List (List Int)} {m b w : Nat} (hl : ∀ r ∈ rows, r.length = m) (hs : ∀ r ∈ rows, szL b r) (hw : w ≤ m) : RedOk rows m b w (redRows rows w) := by
  obtain ⟨dp, I, e⟩ := redAll_inv hl hs w hw
  unfold redRows
  rw [e]
  refine ⟨?_, ?_, ?_, ?_, ?_⟩
  · have := I.sub.length_le
    simpa using this
  · intro r hr
    obtain ⟨p, hp, rfl⟩ := List.mem_map.mp hr
    exact I.lenD p hp
  · intro r hr
    obtain ⟨p, hp, rfl⟩ := List.mem_map.mp hr
    exact I.szd p hp
  · intro hw2 k hk
    have hw3 : dp.length = w := by simpa using hw2
    have ps : dp.map (·.2) = List.range w := I.sub.eq_of_length (by simpa using hw2)
    have at2 : ∀ j (hj : j < dp.length), dp[j].2 = j := fun j hj => by
      have h1 : (dp.map (·.2))[j]? = (List.range w)[j]? := by rw [ps]
      rw [List.getElem?_map, List.getElem?_eq_getElem hj, List.getElem?_range (by omega)] at h1
      simpa using h1
    have g : (dp.map (·.1)).getD k [] = (dp[k]'(by omega)).1 := by
      rw [List.getD_eq_getElem?_getD, List.getElem?_map, List.getElem?_eq_getElem (by omega)]; rfl
    rw [g]
    refine ⟨?_, fun j hj hne => ?_⟩
    · have := I.piv _ (List.getElem_mem (show k < dp.length by omega))
      rw [at2 k (by omega)] at this
      exact this
    · have pw := List.pairwise_iff_getElem.mp I.off
      have a1 := at2 j (by omega)
      by_cases hjk : j < k
      · have := (pw j k (by omega) (by omega) hjk).2
        rw [a1] at this
        exact this
      · have := (pw k j (by omega) (by omega) (by omega)).1
        rw [a1] at this
        exact this
  · intro hw2 hw3 y
    have h0 : (redAll rows w).1 = [] := by
      have := I.cnt
      have hw4 : dp.length = w := by simpa using hw2
      exact List.length_eq_zero_iff.mp (by omega)
    rw [I.sol y, h0]
    constructor
    · rintro ⟨_, h⟩ r hr
      obtain ⟨p, hp, rfl⟩ := List.mem_map.mp hr
      exact h p hp
    · intro h
      exact ⟨by simp, fun p hp => h p.1 (List.mem_map.mpr ⟨p, hp, rfl⟩)⟩
end Lw
namespace Lw
/-! ### elimination without division: the part of a table behind c columns -/
def sch (A : Nat → Nat → Int) : Nat → Nat → Nat → Int
  | 0, i, j => A i j
  | c + 1, i, j => sch A c c c * sch A c i j - sch A c i c * sch A c c j
theorem sch_zero {A : Nat → Nat → Int} : ∀ {c i j : Nat}, j < c → c ≤ i → sch A c i j = 0
  | 0, _, _, h, _ => by omega
  | c + 1, i, j, h, hi => by
    unfold sch
    by_cases e : j = c
    · subst e; grind
    · rw [sch_zero (c := c) (i := i) (j := j) (by omega) (by omega), sch_zero (c := c) (i := c) (j := j) (by omega) (by omega)]; simp
theorem sch_scale {A A' : Nat → Nat → Int} {n : Nat} {s : Nat → Int} (h : ∀ i j, i < n → j ≤ n → A' i j = s j * A i j) (h1 : ∀ j, j < n → s j = 1) : ∀ c, c ≤ n → ∀ i j, i < n → j ≤ n → sch A' c i j = s j * sch A c i j
  | 0, _, i, j, hi, hj => h i j hi hj
  | c + 1, hc, i, j, hi, hj => by
    have ih := sch_scale h h1 c (by omega)
    unfold sch
    rw [ih c c (by omega) (by omega), ih i j hi hj, ih i c hi (by omega), ih c j (by omega) hj, h1 c (by omega)]
    grind
/-- rows that come to 0 leave the others' sums, but for a factor above 0 -/
theorem sch_sum {A : Nat → Nat → Int} {m n : Nat} {y : Nat → Int} (hp : ∀ c, c < n → 0 < sch A c c c) (h0 : ∀ k, k < n → sumN m (fun j => A k j * y j) = 0) :
    ∀ c, c ≤ n → ∃ P : Int, 0 < P ∧ ∀ i, sumN m (fun j => sch A c i j * y j) = P * sumN m (fun j => A i j * y j)
  | 0, _ => ⟨1, by omega, fun i => by rw [Int.one_mul]; rfl⟩
  | c + 1, hc => by
    obtain ⟨P, hP, e⟩ := sch_sum hp h0 c (by omega)
    refine ⟨sch A c c c * P, Int.mul_pos (hp c (by omega)) hP, fun i => ?_⟩
    have e1 : sumN m (fun j => sch A (c + 1) i j * y j) = sch A c c c * sumN m (fun j => sch A c i j * y j) - sch A c i c * sumN m (fun j => sch A c c j * y j) := by
      rw [← sumN_lin]
      exact sumN_congr fun j _ => by simp only [sch]; grind
    rw [e1, e i, e c, h0 c (by omega)]
    grind
theorem getD_get {α : Type} {xs : List α} {i : Nat} {d : α} (h : i < xs.length) : xs.getD i d = xs[i] := by rw [List.getD_eq_getElem?_getD, List.getElem?_eq_getElem h]; rfl
theorem pos_of {a b : Int} (ha : 0 < a) (h : 0 < a * b) : 0 < b := by
  apply Decidable.byContradiction
  intro hb
  have h1 : a * b ≤ a * 0 := Int.mul_le_mul_of_nonneg_left (by omega) (by omega)
  omega
/-- where all of these are above 0 the columns go one by one, by the first row that is left -/
theorem red_sch {rows : List (List Int)} {m b n : Nat} {A : Nat → Nat → Int} (hA : ∀ i j, i < n → A i j = at0 (rows.getD i []) j) (hn : rows.length = n) (hl : ∀ r ∈ rows, r.length = m) (hs : ∀ r ∈ rows, szL b r) (hm : n ≤ m) (hp : ∀ c, c < n → 0 < sch A c c c) :
    ∀ c, c ≤ n → (redAll rows c).1.length = n - c ∧ (redAll rows c).2.length = c ∧ ∀ i, i < n - c → ∃ D L : Int, 0 < D ∧ 0 < L ∧ ∀ j, D * at0 ((redAll rows c).1.getD i []) j = L * sch A c (c + i) j
  | 0, _ => ⟨hn, rfl, fun i hi => ⟨1, 1, by omega, by omega, fun j => by
    have : sch A 0 (0 + i) j = at0 (rows.getD i []) j := by rw [Nat.zero_add]; exact hA i j (by omega)
    rw [this]; rfl⟩⟩
  | c + 1, hc => by
    obtain ⟨l1, l2, ih⟩ := red_sch hA hn hl hs hm hp c (by omega)
    obtain ⟨dp, I, _⟩ := redAll_inv (m := m) (b := b) hl hs c (by omega)
    rw [redAll_succ]
    generalize redAll rows c = s at l1 l2 ih I
    obtain ⟨left, done⟩ := s
    have l1' : left.length = n - c := l1
    have lenL : ∀ r ∈ left, r.length = m := I.lenL
    cases left with
    | nil =>
      rw [List.length_nil] at l1'
      omega
    | cons first rest =>
      have l1'' : rest.length + 1 = n - c := by simpa using l1'
      obtain ⟨D0, L0, d0, l0, e0⟩ := ih 0 (by omega)
      have e0' : ∀ j, D0 * at0 first j = L0 * sch A c c j := e0
      have hpc := hp c (by omega)
      have fpos : 0 < at0 first c := by
        have := e0' c
        have h1 : 0 < D0 * at0 first c := by rw [this]; exact Int.mul_pos l0 hpc
        exact pos_of d0 h1
      obtain ⟨is, hz⟩ := nzs_first (left := rest) (show at0 first c ≠ 0 by omega)
      rw [redStep_cons hz]
      refine ⟨?_, ?_, fun i hi => ?_⟩
      · simp; omega
      · have l2' : done.length = c := l2
        simp [l2']
      · have hi2 : i < rest.length := by omega
        have hg : (((first :: rest).eraseIdx 0).map (wo · ((first :: rest).getD 0 []) c)).getD i [] = wo (rest.getD i []) first c := by
          rw [getD_get (by simpa using hi2), getD_get hi2]
          simp
        rw [hg]
        obtain ⟨D1, L1, d1, l1, e1⟩ := ih (i + 1) (by omega)
        have e1' : ∀ j, D1 * at0 (rest.getD i []) j = L1 * sch A c (c + 1 + i) j := fun j => by
          have := e1 j
          rw [show c + (i + 1) = c + 1 + i by omega] at this
          exact this
        have hr : (rest.getD i []).length = first.length := by
          rw [getD_get hi2, lenL _ (List.mem_cons_of_mem _ (List.getElem_mem hi2)), lenL _ (List.mem_cons_self)]
        obtain ⟨g, u, v, g0, _, _, _, ew, hc⟩ := wo_at (c := c) hr
        generalize rest.getD i [] = row at e1' ew hc
        rcases hc with ⟨h1, h2, h3⟩ | ⟨h2, h3⟩
        · -- the row stays
          subst h2; subst h3
          refine ⟨g * D1 * sch A c c c, L1, Int.mul_pos (Int.mul_pos g0 d1) hpc, l1, fun j => ?_⟩
          have a1 := e1' c
          rw [h1] at a1
          have a2 : L1 * sch A c (c + 1 + i) c = 0 := by omega
          have a3 : sch A c (c + 1 + i) c = 0 := by
            rcases Int.mul_eq_zero.mp a2 with h | h
            · omega
            · exact h
          have a4 := ew j
          have a5 := e1' j
          show _ = L1 * (sch A c c c * sch A c (c + 1 + i) j - sch A c (c + 1 + i) c * sch A c c j)
          rw [a3]
          have a6 : g * at0 (wo row first c) j = at0 row j := by omega
          have a7 : g * D1 * sch A c c c * at0 (wo row first c) j = sch A c c c * (D1 * (g * at0 (wo row first c) j)) := by grind
          rw [a7, a6, a5]
          grind
        · subst h2; subst h3
          refine ⟨g * D0 * D1, L0 * L1, Int.mul_pos (Int.mul_pos g0 d0) d1, Int.mul_pos l0 l1, fun j => ?_⟩
          have a1 := ew j
          have b1 := e0' c
          have b2 := e0' j
          have b3 := e1' c
          have b4 := e1' j
          show _ = L0 * L1 * (sch A c c c * sch A c (c + 1 + i) j - sch A c (c + 1 + i) c * sch A c c j)
          have a2 : g * D0 * D1 * at0 (wo row first c) j = D0 * D1 * (g * at0 (wo row first c) j) := by grind
          rw [a2, a1]
          have a3 : D0 * D1 * (at0 first c * at0 row j - at0 row c * at0 first j) = (D0 * at0 first c) * (D1 * at0 row j) - (D1 * at0 row c) * (D0 * at0 first j) := by grind
          rw [a3, b1, b2, b3, b4]
          grind
/-! ### fractions as whole numbers -/
def cmnStep (c b : Int) : Int := (c * (b.natAbs : Int)).fdiv (Nat.gcd c.natAbs b.natAbs : Nat)
def cmn (bs : List Int) : Int := bs.foldl cmnStep 1
theorem cmnStep_ok {c b : Int} (hc : 0 < c) (hb : b ≠ 0) : 0 < cmnStep c b ∧ c ∣ cmnStep c b ∧ b ∣ cmnStep c b ∧ cmnStep c b ≤ c * b.natAbs := by
  have hg : 0 < Nat.gcd c.natAbs b.natAbs := Nat.gcd_pos_of_pos_left _ (by omega)
  obtain ⟨p, hp⟩ := Int.ofNat_dvd.mpr (Nat.gcd_dvd_right c.natAbs b.natAbs)
  obtain ⟨q, hq⟩ := Int.ofNat_dvd_left.mpr (Nat.gcd_dvd_left c.natAbs b.natAbs)
  unfold cmnStep
  generalize Nat.gcd c.natAbs b.natAbs = g at hg hp hq ⊢
  have hg' : (0 : Int) < (g : Int) := by omega
  have e : (c * (b.natAbs : Int)).fdiv (g : Int) = q * (b.natAbs : Int) := by
    rw [hq, Int.mul_assoc, Int.mul_fdiv_cancel_left _ (by omega)]
  rw [e]
  have q0 : 0 < q := pos_of hg' (by rw [← hq]; exact hc)
  have b0 : (0 : Int) < (b.natAbs : Int) := by omega
  refine ⟨Int.mul_pos q0 b0, ⟨p, ?_⟩, ?_, ?_⟩
  · rw [hq, hp]; grind
  · exact Int.dvd_trans (Int.dvd_natAbs.mpr (Int.dvd_refl b)) ⟨q, Int.mul_comm _ _⟩
  · refine Int.mul_le_mul_of_nonneg_right ?_ (by omega)
    have h1 : (1 : Int) * q ≤ (g : Int) * q := Int.mul_le_mul_of_nonneg_right (by omega) (by omega)
    omega
theorem cmnFrom_ok : ∀ (bs : List Int) (c : Int) (A B : Nat), 0 < c → c.natAbs < 2 ^ A → (∀ b ∈ bs, b ≠ 0) → szL B bs → 0 < bs.foldl cmnStep c ∧ c ∣ bs.foldl cmnStep c ∧ (∀ b ∈ bs, b ∣ bs.foldl cmnStep c) ∧ (bs.foldl cmnStep c).natAbs < 2 ^ (A + bs.length * B)
  | [], c, A, B, hc, hA, _, _ => ⟨hc, Int.dvd_refl _, by simp, by simpa using hA⟩
  | b :: bs, c, A, B, hc, hA, h0, hB => by
    obtain ⟨h1, h2, h3, h4⟩ := cmnStep_ok hc (h0 b (by simp))
    have hs : (cmnStep c b).natAbs < 2 ^ (A + B) := by
      have h5 : (c * (b.natAbs : Int)).natAbs < 2 ^ (A + B) := sz_mul hA (by simpa using hB b (by simp))
      omega
    obtain ⟨k1, k2, k3, k4⟩ := cmnFrom_ok bs _ (A + B) B h1 hs (fun x hx => h0 x (by simp [hx])) fun x hx => hB x (by simp [hx])
    refine ⟨k1, Int.dvd_trans h2 k2, fun x hx => ?_, ?_⟩
    · rcases List.mem_cons.mp hx with rfl | hx
      · exact Int.dvd_trans h3 k2
      · exact k3 x hx
    · rw [List.length_cons, Nat.add_mul, Nat.one_mul, show A + (bs.length * B + B) = A + B + bs.length * B by omega]
      exact k4
theorem cmn_ok {bs : List Int} {B : Nat} (h0 : ∀ b ∈ bs, b ≠ 0) (hB : szL B bs) : 0 < cmn bs ∧ (∀ b ∈ bs, b ∣ cmn bs) ∧ (cmn bs).natAbs < 2 ^ (1 + bs.length * B) :=
  let ⟨h1, _, h3, h4⟩ := cmnFrom_ok bs 1 1 B (by omega) (by decide) h0 hB
  ⟨h1, h3, h4⟩
def twF (tops bots : List Int) : List Int := List.zipWith (fun t b => t * (cmn bots).fdiv b) tops bots
def twN (tops bots : List Int) : List Int := (twF tops bots).map fun x => x.fdiv (max (gcdL (twF tops bots) : Int) 1)
theorem twF_len {tops bots : List Int} (h : tops.length = bots.length) : (twF tops bots).length = tops.length := by unfold twF; simp; omega
theorem twN_len {tops bots : List Int} (h : tops.length = bots.length) : (twN tops bots).length = tops.length := by unfold twN; rw [List.length_map, twF_len h]
theorem twF_sz {tops bots : List Int} {B : Nat} (hl : tops.length = bots.length) (h0 : ∀ b ∈ bots, b ≠ 0) (h1 : szL B tops) (h2 : szL B bots) : szL (1 + B + bots.length * B) (twF tops bots) := fun x hx => by
  obtain ⟨c0, cd, cs⟩ := cmn_ok h0 h2
  obtain ⟨i, hi, rfl⟩ := List.getElem_of_mem hx
  have hi2 : i < bots.length := by rw [twF_len hl] at hi; omega
  have e : (twF tops bots)[i] = at0 tops i * (cmn bots).fdiv (at0 bots i) := by
    rw [at0_in (by omega), at0_in hi2]
    simp only [twF, List.getElem_zipWith]
  have hb := h0 _ (at0_mem' hi2)
  have a1 := sz_div (fdiv_exact (cd _ (at0_mem' hi2))) hb cs
  rw [e, show 1 + B + bots.length * B = B + (1 + bots.length * B) by omega]
  exact sz_mul (h1.at i) a1
theorem twN_ok {tops bots : List Int} (hl : tops.length = bots.length) (h0 : ∀ b ∈ bots, b ≠ 0) : ∃ C g : Int, 0 < C ∧ 0 < g ∧ (∀ j, g * at0 (twN tops bots) j = at0 (twF tops bots) j) ∧ ∀ j, g * at0 (twN tops bots) j * at0 bots j = C * at0 tops j := by
  obtain ⟨B, h2⟩ : ∃ B, szL B bots := by
    refine ⟨bots.foldr (fun x n => n + x.natAbs) 0, fun x hx => ?_⟩
    have : ∀ xs : List Int, x ∈ xs → x.natAbs ≤ xs.foldr (fun x n => n + x.natAbs) 0 := by
      intro xs
      induction xs with
      | nil => simp
      | cons y ys ih =>
        intro h
        rcases List.mem_cons.mp h with rfl | h
        · simp
        · have := ih h
          simp only [List.foldr_cons]
          omega
    exact Nat.lt_of_le_of_lt (this bots hx) Nat.lt_two_pow_self
  obtain ⟨c0, cd, _⟩ := cmn_ok h0 h2
  have ef : ∀ j, at0 (twF tops bots) j * at0 bots j = cmn bots * at0 tops j := fun j => by
    by_cases hj : j < bots.length
    · have e : at0 (twF tops bots) j = at0 tops j * (cmn bots).fdiv (at0 bots j) := by
        rw [at0_in (by rw [twF_len hl]; omega), at0_in (by omega), at0_in hj]
        unfold twF
        rw [List.getElem_zipWith]
      have := fdiv_exact (cd _ (at0_mem' hj))
      rw [e]
      grind
    · rw [at0_out (xs := tops) (by omega), at0_out (xs := bots) (by omega)]; simp
  refine ⟨cmn bots, max (gcdL (twF tops bots) : Int) 1, c0, by omega, ?_, ?_⟩
  · intro j
    unfold twN
    rw [at0_map (by simp)]
    refine fdiv_exact ?_
    by_cases hz : gcdL (twF tops bots) = 0
    · rw [hz]
      by_cases hj : j < (twF tops bots).length
      · rw [gcdFrom_zero _ _ hz _ (at0_mem' hj)]; exact Int.dvd_zero _
      · rw [at0_out (by omega)]; exact Int.dvd_zero _
    · rw [show max (gcdL (twF tops bots) : Int) 1 = (gcdL (twF tops bots) : Int) by omega]
      by_cases hj : j < (twF tops bots).length
      · exact gcdL_dvd (at0_mem' hj)
      · rw [at0_out (by omega)]; exact Int.dvd_zero _
  · intro j
    have e1 : max (gcdL (twF tops bots) : Int) 1 * at0 (twN tops bots) j = at0 (twF tops bots) j := by
      unfold twN
      rw [at0_map (by simp)]
      refine fdiv_exact ?_
      by_cases hz : gcdL (twF tops bots) = 0
      · rw [hz]
        by_cases hj : j < (twF tops bots).length
        · rw [gcdFrom_zero _ _ hz _ (at0_mem' hj)]; exact Int.dvd_zero _
        · rw [at0_out (by omega)]; exact Int.dvd_zero _
      · rw [show max (gcdL (twF tops bots) : Int) 1 = (gcdL (twF tops bots) : Int) by omega]
        by_cases hj : j < (twF tops bots).length
        · exact gcdL_dvd (at0_mem' hj)
        · rw [at0_out (by omega)]; exact Int.dvd_zero _
    rw [e1]; exact ef j
theorem twN_sz {tops bots : List Int} {B : Nat} (hl : tops.length = bots.length) (h0 : ∀ b ∈ bots, b ≠ 0) (h1 : szL B tops) (h2 : szL B bots) : szL (1 + B + bots.length * B) (twN tops bots) := fun x hx => by
  obtain ⟨C, g, _, g0, e, _⟩ := twN_ok hl h0
  obtain ⟨i, hi, rfl⟩ := List.getElem_of_mem hx
  have := e i
  rw [at0_in hi] at this
  exact sz_div this (by omega) ((twF_sz hl h0 h1 h2).at i)
end Lw
namespace Lw
/-! ### moves -/
def loOf (ms : List Int) (i : Nat) : Int := min (at0 ms i) (at0 ms (i + 1))
def hiOf (ms : List Int) (i : Nat) : Int := max (at0 ms i) (at0 ms (i + 1))
/-- the numbers from a on to below b -/
def upto (a b : Int) : List Int := Fd.rangeI a b
def covL (ms : List Int) (i : Nat) : List Int := upto (loOf ms i) (hiOf ms i)
/-- moves of at most so many places -/
def tabI (ms : List Int) : Prop := 1 ≤ ms.length ∧ ms.length ≤ 12 ∧ ∀ m ∈ ms, 0 ≤ m ∧ m ≤ (ms.length : Int) - 1
theorem at0_mem {ms : List Int} {i : Nat} (h : i < ms.length) : at0 ms i ∈ ms := at0_mem' h
theorem tabI.at {ms : List Int} (t : tabI ms) {i : Nat} (h : i < ms.length) : 0 ≤ at0 ms i ∧ at0 ms i ≤ (ms.length : Int) - 1 := t.2.2 _ (at0_mem h)
theorem tabI.lo {ms : List Int} (t : tabI ms) {i : Nat} (h : i + 1 < ms.length) : 0 ≤ loOf ms i ∧ loOf ms i ≤ hiOf ms i ∧ hiOf ms i ≤ (ms.length : Int) - 1 := by
  have h1 := t.at (i := i) (by omega)
  have h2 := t.at (i := i + 1) h
  unfold loOf hiOf
  omega
/-- for each stretch the sum of some numbers at the stretches that it covers -/
def sumAt (ms ws : List Int) (i : Nat) : Int := ((ws.drop (loOf ms i).toNat).take ((hiOf ms i).toNat - (loOf ms i).toNat)).sum
def oneB (ms ws : List Int) : List Int := (List.range (ms.length - 1)).map (sumAt ms ws)
/-! ### rows of a rate -/
def rowOf (ms : List Int) (T B : Int) (i : Nat) : List Int := (List.range (ms.length - 1)).map fun j => T * (if j = i then 1 else 0) - B * (if (j : Int) ∈ covL ms i then 1 else 0)
def rowsOf (ms : List Int) (T B : Int) : List (List Int) := (List.range (ms.length - 1)).map (rowOf ms T B)
theorem rowsOf_len (ms : List Int) (T B : Int) : (rowsOf ms T B).length = ms.length - 1 := by simp [rowsOf]
theorem rowsOf_lens {ms : List Int} {T B : Int} : ∀ r ∈ rowsOf ms T B, r.length = ms.length - 1 := by
  intro r hr
  obtain ⟨i, _, rfl⟩ := List.mem_map.mp hr
  simp [rowOf]
theorem rowsOf_sz {ms : List Int} {T B : Int} {b : Nat} (hT : T.natAbs < 2 ^ b) (hB : B.natAbs < 2 ^ b) : ∀ r ∈ rowsOf ms T B, szL (b + 1) r := by
  intro r hr x hx
  obtain ⟨i, _, rfl⟩ := List.mem_map.mp hr
  obtain ⟨j, _, rfl⟩ := List.mem_map.mp hx
  refine sz_sub ?_ ?_
  · split <;> simp [hT]
    exact Nat.pow_pos (by omega)
  · split <;> simp [hB]
    exact Nat.pow_pos (by omega)
/-- a table as numbers -/
def tbl (rows : List (List Int)) (i j : Nat) : Int := at0 (rows.getD i []) j
/-! ### the fast side -/
def fastRows (rows : List (List Int)) (l : Nat) : List (List Int) := (rows.take l).map fun r => r.take l ++ [0 - at0 r l]
def fastDone (rows : List (List Int)) (l : Nat) : List (List Int) := redRows (fastRows rows l) l
def fastNums (rows : List (List Int)) (l : Nat) : List Int := twN ((fastDone rows l).map (at0 · l) ++ [1]) ((fastDone rows l).mapIdx (fun i r => at0 r i) ++ [1])
def fastVal (rows : List (List Int)) (l : Nat) : Int := (List.zipWith (· * ·) (rows.getD l []) (fastNums rows l)).sum
def fastR (rows : List (List Int)) : Option (List Int) := ((List.range rows.length).find? fun l => decide (fastVal rows l ≤ 0)).map fun l => fastNums rows l ++ List.replicate (rows.length - l - 1) 0
theorem at0_take {xs : List Int} {n j : Nat} (h : j < n) : at0 (xs.take n) j = at0 xs j := by
  unfold at0
  rw [List.getD_eq_getElem?_getD, List.getD_eq_getElem?_getD, List.getElem?_take_of_lt h]
theorem at0_left {xs ys : List Int} {j : Nat} (h : j < xs.length) : at0 (xs ++ ys) j = at0 xs j := by
  unfold at0
  rw [List.getD_eq_getElem?_getD, List.getD_eq_getElem?_getD, List.getElem?_append_left h]
theorem at0_last {xs : List Int} {x : Int} {j : Nat} (h : j = xs.length) : at0 (xs ++ [x]) j = x := by
  subst h
  unfold at0
  rw [List.getD_eq_getElem?_getD, List.getElem?_append_right (Nat.le_refl _)]
  simp
section
variable {rows : List (List Int)} {N b l : Nat}
theorem fastRows_len (hn : rows.length = N) (hl : l < N) : (fastRows rows l).length = l := by simp [fastRows]; omega
theorem fastRows_at (hn : rows.length = N) (hl : l < N) {i : Nat} (hi : i < l) : (fastRows rows l).getD i [] = (rows.getD i []).take l ++ [0 - tbl rows i l] := by
  unfold fastRows tbl
  rw [getD_get (by simp; omega), getD_get (by omega)]
  simp
theorem rows_at (hn : rows.length = N) (hr : ∀ r ∈ rows, r.length = N) {i : Nat} (hi : i < N) : rows.getD i [] ∈ rows ∧ (rows.getD i []).length = N := by
  rw [getD_get (by omega)]
  exact ⟨List.getElem_mem _, hr _ (List.getElem_mem _)⟩
theorem fastRows_mem (hn : rows.length = N) (hl : l < N) {r : List Int} (h : r ∈ fastRows rows l) : ∃ i, i < l ∧ r = (rows.getD i []).take l ++ [0 - tbl rows i l] := by
  obtain ⟨i, hi, rfl⟩ := List.getElem_of_mem h
  have hi2 : i < l := by rw [fastRows_len hn hl] at hi; exact hi
  exact ⟨i, hi2, by rw [← fastRows_at hn hl hi2, getD_get hi]⟩
theorem fastRows_lens (hn : rows.length = N) (hr : ∀ r ∈ rows, r.length = N) (hl : l < N) : ∀ r ∈ fastRows rows l, r.length = l + 1 := fun r h => by
  obtain ⟨i, hi, rfl⟩ := fastRows_mem hn hl h
  have := (rows_at hn hr (show i < N by omega)).2
  simp only [List.length_append, List.length_take, List.length_cons, List.length_nil]; omega
theorem fastRows_sz (hn : rows.length = N) (hr : ∀ r ∈ rows, r.length = N) (hs : ∀ r ∈ rows, szL b r) (hl : l < N) : ∀ r ∈ fastRows rows l, szL b r := fun r h x hx => by
  obtain ⟨i, hi, rfl⟩ := fastRows_mem hn hl h
  have hm := hs _ (rows_at hn hr (show i < N by omega)).1
  rcases List.mem_append.mp hx with hx | hx
  · exact hm x (List.mem_of_mem_take hx)
  · have : x = 0 - tbl rows i l := by simpa using hx
    subst this
    have := hm.at l
    unfold tbl
    omega
theorem fastDone_ok (hn : rows.length = N) (hr : ∀ r ∈ rows, r.length = N) (hs : ∀ r ∈ rows, szL b r) (hl : l < N) : RedOk (fastRows rows l) (l + 1) b l (fastDone rows l) :=
  redRows_ok (fastRows_lens hn hr hl) (fastRows_sz hn hr hs hl) (by omega)
/-- the signs of the columns: the last one is turned -/
def sg (l j : Nat) : Int := if j = l then -1 else 1
theorem fast_tbl (hn : rows.length = N) (hr : ∀ r ∈ rows, r.length = N) (hl : l < N) : ∀ i j, i < l → j ≤ l → tbl (fastRows rows l) i j = sg l j * tbl rows i j := fun i j hi hj => by
  have hlen := (rows_at hn hr (show i < N by omega)).2
  unfold sg
  show at0 ((fastRows rows l).getD i []) j = _
  rw [fastRows_at hn hl hi]
  split
  · rename_i e
    subst e
    rw [at0_last (by simp only [List.length_take]; omega)]; omega
  · rw [at0_left (by simp only [List.length_take]; omega), at0_take (by omega)]
    show _ = 1 * at0 (rows.getD i []) j
    omega
theorem fast_sch (hn : rows.length = N) (hr : ∀ r ∈ rows, r.length = N) (hl : l < N) : ∀ c, c ≤ l → ∀ i j, i < l → j ≤ l → sch (tbl (fastRows rows l)) c i j = sg l j * sch (tbl rows) c i j :=
  sch_scale (fast_tbl hn hr hl) fun j hj => by unfold sg; rw [if_neg (by omega)]
theorem fast_piv (hn : rows.length = N) (hr : ∀ r ∈ rows, r.length = N) (hl : l < N) (hp : ∀ c, c < l → 0 < sch (tbl rows) c c c) : ∀ c, c < l → 0 < sch (tbl (fastRows rows l)) c c c := fun c hc => by
  rw [fast_sch hn hr hl c (by omega) c c hc (by omega)]
  unfold sg
  rw [if_neg (by omega)]
  have := hp c hc
  omega
theorem fastDone_len (hn : rows.length = N) (hr : ∀ r ∈ rows, r.length = N) (hs : ∀ r ∈ rows, szL b r) (hl : l < N) (hp : ∀ c, c < l → 0 < sch (tbl rows) c c c) : (fastDone rows l).length = l :=
  (red_sch (A := tbl (fastRows rows l)) (fun i j _ => rfl) (fastRows_len hn hl) (fastRows_lens hn hr hl) (fastRows_sz hn hr hs hl) (by omega) (fast_piv hn hr hl hp) l (Nat.le_refl _)).2.1
/-- the numbers' two lists -/
theorem fast_tops (h : (fastDone rows l).length = l) : (∀ k, k < l → at0 ((fastDone rows l).map (at0 · l) ++ [1]) k = at0 ((fastDone rows l).getD k []) l) ∧ at0 ((fastDone rows l).map (at0 · l) ++ [1]) l = 1 := by
  refine ⟨fun k hk => ?_, at0_last (by simp [h])⟩
  rw [at0_left (by simp [h, hk]), at0_in (by simp [h, hk]), List.getElem_map, getD_get (by omega)]
theorem fast_bots (h : (fastDone rows l).length = l) : (∀ k, k < l → at0 ((fastDone rows l).mapIdx (fun i r => at0 r i) ++ [1]) k = at0 ((fastDone rows l).getD k []) k) ∧ at0 ((fastDone rows l).mapIdx (fun i r => at0 r i) ++ [1]) l = 1 := by
  refine ⟨fun k hk => ?_, at0_last (by simp [h])⟩
  rw [at0_left (by simp [h, hk]), at0_in (by simp [h, hk]), List.getElem_mapIdx, getD_get (by omega)]
theorem bots_ne {d : List (List Int)} {n : Nat} (hd : d.length = n) (h : ∀ k, k < n → at0 (d.getD k []) k ≠ 0) : ∀ x ∈ d.mapIdx (fun i r => at0 r i), x ≠ 0 := fun x hx => by
  obtain ⟨i, hi, rfl⟩ := List.getElem_of_mem hx
  have hi2 : i < d.length := by simpa using hi
  rw [List.getElem_mapIdx]
  have := h i (by omega)
  rw [getD_get hi2] at this
  exact this
theorem bots_sz {d : List (List Int)} {B : Nat} (h : ∀ r ∈ d, szL B r) : szL B (d.mapIdx fun i r => at0 r i) := fun x hx => by
  obtain ⟨i, hi, rfl⟩ := List.getElem_of_mem hx
  have hi2 : i < d.length := by simpa using hi
  rw [List.getElem_mapIdx]
  exact (h _ (List.getElem_mem hi2)).at i
theorem tops_sz {d : List (List Int)} {B l : Nat} (h : ∀ r ∈ d, szL B r) : szL B (d.map (at0 · l)) := fun x hx => by
  obtain ⟨r, hr, rfl⟩ := List.mem_map.mp hx
  exact (h r hr).at l
theorem one_sz {B : Nat} {xs : List Int} (h : szL B xs) (hB : 1 ≤ B) : szL B (xs ++ [1]) := fun x hx => by
  rcases List.mem_append.mp hx with hx | hx
  · exact h x hx
  · have : x = 1 := by simpa using hx
    subst this
    have := Nat.pow_le_pow_right (n := 2) (by omega) hB
    show 1 < 2 ^ B
    omega
theorem bd_ge (b : Nat) : ∀ c, b ≤ bd b c
  | 0 => Nat.le_refl _
  | c + 1 => Nat.le_trans (bd_ge b c) (bd_mono b c)
/-- what a turn of the fast side needs and finds -/
structure FastAt (rows : List (List Int)) (N b l : Nat) : Prop where
  lens : ∀ r ∈ fastDone rows l, r.length = l + 1
  len : (fastDone rows l).length = l
  sz : ∀ r ∈ fastDone rows l, szL (bd b l) r
  bots : ∀ x ∈ (fastDone rows l).mapIdx (fun i r => at0 r i) ++ [1], x ≠ 0
  nlen : (fastNums rows l).length = l + 1
  nsz : szL (1 + bd b l + (l + 1) * bd b l) (fastNums rows l)
  pos : 0 < at0 (fastNums rows l) l
  zero : ∀ k, k < l → sumN (l + 1) (fun j => tbl rows k j * at0 (fastNums rows l) j) = 0
  val : fastVal rows l = sumN (l + 1) fun j => tbl rows l j * at0 (fastNums rows l) j
theorem fast_at (hn : rows.length = N) (hr : ∀ r ∈ rows, r.length = N) (hs : ∀ r ∈ rows, szL b r) (hb : 1 ≤ b) (hl : l < N) (hp : ∀ c, c < l → 0 < sch (tbl rows) c c c) : FastAt rows N b l := by
  have R := fastDone_ok hn hr hs hl
  have h := fastDone_len hn hr hs hl hp
  have full := R.full h
  obtain ⟨t1, t2⟩ := fast_tops h
  obtain ⟨b1, b2⟩ := fast_bots h
  have bne : ∀ x ∈ (fastDone rows l).mapIdx (fun i r => at0 r i) ++ [1], x ≠ 0 := fun x hx => by
    rcases List.mem_append.mp hx with hx | hx
    · exact bots_ne h (fun k hk => (full k hk).1) x hx
    · have : x = 1 := by simpa using hx
      omega
  have hlen : ((fastDone rows l).map (at0 · l) ++ [1]).length = ((fastDone rows l).mapIdx (fun i r => at0 r i) ++ [1]).length := by simp
  obtain ⟨C, g, hC, hg, _, e⟩ := twN_ok hlen bne
  have e' : ∀ j, g * at0 (fastNums rows l) j * at0 ((fastDone rows l).mapIdx (fun i r => at0 r i) ++ [1]) j = C * at0 ((fastDone rows l).map (at0 · l) ++ [1]) j := e
  have nl : (fastNums rows l).length = l + 1 := by
    unfold fastNums
    rw [twN_len hlen]
    simp [h]
  have gl : g * at0 (fastNums rows l) l = C := by
    have := e' l
    rw [t2, b2] at this
    omega
  have hpos : 0 < at0 (fastNums rows l) l := pos_of hg (by omega)
  refine ⟨R.lens, h, R.sz, bne, nl, ?_, hpos, ?_, ?_⟩
  · have hB : 1 ≤ bd b l := Nat.le_trans hb (bd_ge b l)
    have := twN_sz hlen bne (one_sz (tops_sz R.sz) hB) (one_sz (bots_sz R.sz) hB)
    have hl2 : ((fastDone rows l).mapIdx (fun i r => at0 r i) ++ [1]).length = l + 1 := by simp [h]
    rw [hl2] at this
    exact this
  · -- the rows ahead come to 0
    have sol := (R.sol h (fastRows_len hn hl) fun j => if j = l then - at0 (fastNums rows l) l else at0 (fastNums rows l) j).mpr fun r hr' => by
      obtain ⟨k, hk, rfl⟩ := List.getElem_of_mem hr'
      have hk2 : k < l := by omega
      obtain ⟨f1, f2⟩ := full k hk2
      have e1 := e' k
      rw [t1 k hk2, b1 k hk2] at e1
      rw [getD_get hk] at e1 f1 f2
      generalize (fastDone rows l)[k] = r at e1 f1 f2 ⊢
      show sumN (l + 1) (fun j => at0 r j * (if j = l then - at0 (fastNums rows l) l else at0 (fastNums rows l) j)) = 0
      rw [sumN, if_pos rfl, sumN_one (k := k) hk2 fun j hj hne => by rw [f2 j hj hne]; simp]
      rw [if_neg (by omega)]
      have e2 : g * (at0 r k * at0 (fastNums rows l) k + at0 r l * -at0 (fastNums rows l) l) = 0 := by
        have : g * (at0 r k * at0 (fastNums rows l) k + at0 r l * -at0 (fastNums rows l) l) = g * at0 (fastNums rows l) k * at0 r k - at0 r l * (g * at0 (fastNums rows l) l) := by grind
        rw [this, e1, gl]; grind
      rcases Int.mul_eq_zero.mp e2 with h | h
      · omega
      · exact h
    intro k hk
    have hm : (fastRows rows l).getD k [] ∈ fastRows rows l := by
      rw [getD_get (by rw [fastRows_len hn hl]; exact hk)]
      exact List.getElem_mem _
    have this : sumN (l + 1) (fun j => at0 ((fastRows rows l).getD k []) j * (if j = l then - at0 (fastNums rows l) l else at0 (fastNums rows l) j)) = 0 := sol _ hm
    rw [← this]
    refine sumN_congr fun j hj => ?_
    have ft := fast_tbl hn hr hl k j hk (by omega)
    have ft' : at0 ((fastRows rows l).getD k []) j = sg l j * tbl rows k j := ft
    rw [ft']
    unfold sg
    split
    · rename_i e
      subst e
      grind
    · rw [Int.one_mul]
  · unfold fastVal
    rw [sum_sumN]
    have hlr := (rows_at hn hr hl).2
    have hz : (List.zipWith (· * ·) (rows.getD l []) (fastNums rows l)).length = l + 1 := by rw [List.length_zipWith, hlr, nl]; omega
    rw [hz]
    refine sumN_congr fun j hj => ?_
    rw [at0_in (by omega), List.getElem_zipWith]
    unfold tbl
    rw [at0_in (by omega), at0_in (by omega)]
theorem fast_next (hn : rows.length = N) (hr : ∀ r ∈ rows, r.length = N) (hs : ∀ r ∈ rows, szL b r) (hb : 1 ≤ b) (hl : l < N) (hp : ∀ c, c < l → 0 < sch (tbl rows) c c c) :
    ∃ P : Int, 0 < P ∧ sch (tbl rows) l l l * at0 (fastNums rows l) l = P * fastVal rows l := by
  have F := fast_at hn hr hs hb hl hp
  obtain ⟨P, hP, e⟩ := sch_sum (m := l + 1) hp F.zero l (Nat.le_refl _)
  refine ⟨P, hP, ?_⟩
  have e1 := e l
  rw [F.val, ← e1, sumN, sumN_zero fun j hj => by rw [sch_zero hj (Nat.le_refl _)]; simp]
  omega
/-- while no turn ends it, all are above 0 -/
theorem fast_pre (hn : rows.length = N) (hr : ∀ r ∈ rows, r.length = N) (hs : ∀ r ∈ rows, szL b r) (hb : 1 ≤ b) : ∀ l, l ≤ N → (∀ k, k < l → 0 < fastVal rows k) → ∀ c, c < l → 0 < sch (tbl rows) c c c
  | 0, _, _, c, hc => by omega
  | l + 1, hl, hv, c, hc => by
    have ih := fast_pre hn hr hs hb l (by omega) fun k hk => hv k (by omega)
    by_cases e : c = l
    · subst e
      obtain ⟨P, hP, e⟩ := fast_next hn hr hs hb (show c < N by omega) ih
      have F := fast_at hn hr hs hb (show c < N by omega) ih
      have h1 : 0 < P * fastVal rows c := Int.mul_pos hP (hv c (by omega))
      rw [← e, Int.mul_comm] at h1
      exact pos_of F.pos h1
    · exact ih c (by omega)
end
/-! ### the slow side -/
def slowRows (rows : List (List Int)) : List (List Int) := rows.map fun r => r ++ [1]
def slowDone (rows : List (List Int)) : List (List Int) := redRows (slowRows rows) rows.length
def slowNums (rows : List (List Int)) : List Int := twN ((slowDone rows).map (at0 · rows.length)) ((slowDone rows).mapIdx fun i r => at0 r i)
def slowR (rows : List (List Int)) : Option (List Int) := if (slowDone rows).length < rows.length then none else if (slowNums rows).all (fun x => decide (0 < x)) then some (slowNums rows) else none
section
variable {rows : List (List Int)} {N b : Nat}
theorem slowRows_lens (hr : ∀ r ∈ rows, r.length = N) : ∀ r ∈ slowRows rows, r.length = N + 1 := fun r h => by
  obtain ⟨q, hq, rfl⟩ := List.mem_map.mp h
  simp [hr q hq]
theorem slowRows_sz (hs : ∀ r ∈ rows, szL b r) (hb : 1 ≤ b) : ∀ r ∈ slowRows rows, szL b r := fun r h => by
  obtain ⟨q, hq, rfl⟩ := List.mem_map.mp h
  exact one_sz (hs q hq) hb
theorem slowDone_ok (hn : rows.length = N) (hr : ∀ r ∈ rows, r.length = N) (hs : ∀ r ∈ rows, szL b r) (hb : 1 ≤ b) : RedOk (slowRows rows) (N + 1) b N (slowDone rows) := by
  unfold slowDone
  rw [hn]
  exact redRows_ok (slowRows_lens hr) (slowRows_sz hs hb) (by omega)
structure SlowAt (rows : List (List Int)) (N b : Nat) : Prop where
  bots : ∀ x ∈ (slowDone rows).mapIdx (fun i r => at0 r i), x ≠ 0
  nlen : (slowNums rows).length = N
  nsz : szL (1 + bd b N + N * bd b N) (slowNums rows)
  sums : ∃ C g : Int, 0 < C ∧ 0 < g ∧ ∀ i, i < N → g * sumN N (fun j => tbl rows i j * at0 (slowNums rows) j) = C
theorem slow_at (hn : rows.length = N) (hr : ∀ r ∈ rows, r.length = N) (hs : ∀ r ∈ rows, szL b r) (hb : 1 ≤ b) (h : (slowDone rows).length = N) : SlowAt rows N b := by
  have R := slowDone_ok hn hr hs hb
  have full := R.full h
  have bne := bots_ne h fun k hk => (full k hk).1
  have hlen : ((slowDone rows).map (at0 · rows.length)).length = ((slowDone rows).mapIdx fun i r => at0 r i).length := by simp
  obtain ⟨C, g, hC, hg, _, e⟩ := twN_ok hlen bne
  have e' : ∀ j, g * at0 (slowNums rows) j * at0 ((slowDone rows).mapIdx fun i r => at0 r i) j = C * at0 ((slowDone rows).map (at0 · rows.length)) j := e
  refine ⟨bne, ?_, ?_, C, g, hC, hg, ?_⟩
  · unfold slowNums
    rw [twN_len hlen]
    simp [h]
  · have := twN_sz hlen bne (tops_sz R.sz) (bots_sz R.sz)
    have hl2 : ((slowDone rows).mapIdx fun i r => at0 r i).length = N := by simp [h]
    rw [hl2] at this
    exact this
  · have sol := (R.sol h (by simp [slowRows, hn]) fun j => if j = N then - C else g * at0 (slowNums rows) j).mpr fun r hr' => by
      obtain ⟨k, hk, rfl⟩ := List.getElem_of_mem hr'
      have hk2 : k < N := by omega
      obtain ⟨f1, f2⟩ := full k hk2
      have e1 := e' k
      rw [at0_in (xs := (slowDone rows).map _) (by simpa using hk), at0_in (xs := (slowDone rows).mapIdx _) (by simpa using hk), List.getElem_map, List.getElem_mapIdx] at e1
      rw [getD_get hk] at f1 f2
      generalize (slowDone rows)[k] = r at e1 f1 f2 ⊢
      show sumN (N + 1) (fun j => at0 r j * (if j = N then - C else g * at0 (slowNums rows) j)) = 0
      rw [sumN, if_pos rfl, sumN_one (k := k) hk2 fun j hj hne => by rw [f2 j hj hne]; simp]
      rw [if_neg (by omega)]
      rw [hn] at e1
      grind
    intro i hi
    have hm : (rows.getD i []) ++ [1] ∈ slowRows rows := List.mem_map.mpr ⟨_, (rows_at hn hr hi).1, rfl⟩
    have hlr := (rows_at hn hr hi).2
    have this : sumN (N + 1) (fun j => at0 (rows.getD i [] ++ [1]) j * (if j = N then - C else g * at0 (slowNums rows) j)) = 0 := sol _ hm
    rw [sumN, if_pos rfl, at0_last hlr.symm] at this
    have e2 : sumN N (fun j => at0 (rows.getD i [] ++ [1]) j * if j = N then -C else g * at0 (slowNums rows) j) = g * sumN N (fun j => tbl rows i j * at0 (slowNums rows) j) := by
      rw [← sumN_mul]
      refine sumN_congr fun j hj => ?_
      rw [if_neg (by omega), at0_left (by omega)]
      unfold tbl
      grind
    rw [e2] at this
    omega
end
end Lw
set_option maxRecDepth 100000
set_option maxHeartbeats 0
namespace Lw
open PySem PySem.Spec PyProof.Rows L2 Fd
local macro_rules | `(tactic| walk_at "fd") => `(tactic| simp (config := { failIfUnchanged := false }) only [mLc, mSeq, mIfS, mOrT, mAndT, mNotT, mB, mIs, mV, mC, mRet, mRetN, mNext, mSet, mAsg, mPar, mDrop, mRaise, mBin, mUn, mCB, mBM, mNil, mCons, mAndV, mOrV, mNotV, mIf, mChain, mTup, mLst, mLstO, mCallP, mCallL, mCallC, mCallCL, mCallSL, mDict0, mWipe, mFrz, mAugI, mSl, mSetIx, mPart, mNo, mLrg1, mLrg2, mItL, mItT, mItR1, mItR2, mItZ, mItE, mgN, mgT, mYes, mStar, setAll, wipeE, exOf, noX, getW, dref, rref, lstOf, itD, intW, tstW, dataW, listW, cellW, iAdd, iSub, iMul, iPow, iDiv, iDivA, iMod, iLt, iLe, iGt, iGe, iEq, iNe, iNeg, fI0, fI, fIsN, fLen, fAbs, fMax2, fMin2, fSum, fAll, fAny, fInt, asI, unp, stE, endsP, endsL, endsC, endsCL, endsE, flat, newF, newO,
  List.map_cons, List.map_nil, List.cons_append, List.nil_append, List.append_nil, List.length_cons, List.length_nil, List.replicate_succ, List.replicate_zero, List.getElem?_cons_zero, List.getElem?_cons_succ, List.set_cons_zero, List.set_cons_succ, List.getElem?_nil, List.set_nil, Option.map_some, Option.map_none, Bool.false_eq_true, if_true, if_false, Bool.not_true, Bool.not_false, reduceIte, and_true, true_and, Nat.reduceSub, Nat.reduceAdd, Nat.zero_add, Nat.sub_zero, Nat.sub_self])

def optI : Option Int → PyData
  | none => .none
  | some i => .int i
/-- an integer that is no truth, within bounds -/
def isI (v : PyData) (lo hi : Option Int) : Bool := match v with
  | .int i => (match lo with | none => true | some l => decide (l ≤ i)) && (match hi with | none => true | some h => decide (i ≤ h))
  | _ => false
def sp_is_integer : PSp := fun ds Q _ => ∃ v lo hi, ds = [v, optI lo, optI hi] ∧ Q (.bool (isI v lo hi))
def m_is_integer : MS := (mSeq (mIfS (mOrT (mNotT (mB (mIs isIntD (mV 0)))) (mB (mIs isBoolD (mV 0))))
    (mRet (mC (.bool false)))
    mNext)
    (mRet (mAndV (mOrV (mBin (fIsN false) (mV 1) (mC .none)) (mBin iGe (mV 0) (mV 1))) (mOrV (mBin (fIsN false) (mV 2) (mC .none)) (mBin iLe (mV 0) (mV 2))))))
theorem pl_is_integer : ∀ ds Q E, sp_is_integer ds Q E → ds.length = 3 := fun ds Q E ⟨v, lo, hi, e, _⟩ => by rw [e]; rfl
theorem pure_is_integer : ∀ ds Q E, sp_is_integer ds Q E → m_is_integer (endsP Q E) (stE 3 (ds.map .p)) [] := by
  rintro ds Q E ⟨v, lo, hi, rfl, h⟩
  unfold m_is_integer
  cases v with
  | int i =>
    cases lo <;> cases hi <;> (walk_at "fd"; simp [isI, isIntD, isBoolD, optI] at h ⊢)
    all_goals first
      | exact h
      | (split <;> simp_all)
  | _ => walk_at "fd"; simp [isI, isIntD, isBoolD] at h ⊢; exact h
/-- a list of them -/
def areI (v : PyData) (lo hi : Option Int) : Bool := match v with
  | .list xs => xs.all fun d => isI d lo hi
  | _ => false
def shortD (v : PyData) : Prop := match v with
  | .list xs => xs.length ≤ small
  | _ => True
def sp_are_integers : PSp := fun ds Q _ => ∃ v lo hi, ds = [v, optI lo, optI hi] ∧ shortD v ∧ Q (.bool (areI v lo hi))
def m_are_integers : MS := (mRet (mAndV (mIs isListD (mV 0)) (mCB fAll (mCons (mLc newF (mItL (mV 0)) (mgN 3) mYes (mCallP sp_is_integer [] (mCons (mV 3) (mCons (mV 1) (mCons (mV 2) mNil)))) [3]) mNil))))
theorem pl_are_integers : ∀ ds Q E, sp_are_integers ds Q E → ds.length = 3 := fun ds Q E ⟨v, lo, hi, e, _⟩ => by rw [e]; rfl
theorem pure_are_integers : ∀ ds Q E, sp_are_integers ds Q E → m_are_integers (endsP Q E) (stE 4 (ds.map .p)) [] := by
  rintro ds Q E ⟨v, lo, hi, rfl, hs, h⟩
  unfold m_are_integers
  cases v with
  | list xs =>
    walk_at "fd"
    refine ⟨_, rfl, ite_b (fun _ => ⟨_, _, rfl, lc_map (fun d => .bool (isI d lo hi)) hs (fun d hd Y Z hY => ?_) ?_⟩) fun q => ?_⟩
    · unfold stepLc
      walk_at "fd"
      exact ⟨_, rfl, d, lo, hi, rfl, _, rfl, hY⟩
    · exact ⟨by rw [List.length_map]; exact hs, _, xs.map fun d => isI d lo hi, rfl, by simp, by simpa [areI, List.all_map] using h⟩
    · exact absurd q (by simp [isListD])
  | _ => walk_at "fd"; simp [areI, isListD] at h ⊢; exact h
/-- a table of moves -/
def isTab (v : PyData) : Bool := match v with
  | .list xs => decide (1 ≤ xs.length) && decide (xs.length ≤ 12) && xs.all fun d => isI d (some 0) (some ((xs.length : Int) - 1))
  | _ => false
def sp_is_table : PSp := fun ds Q _ => ∃ v, ds = [v] ∧ shortD v ∧ Q (.bool (isTab v))
def m_is_table : MS := (mRet (mAndV (mIs isListD (mV 0)) (mAndV (mChain iLe iLe (mC (.int 1)) (mCB fLen (mCons (mV 0) mNil)) (mC (.int 12))) (mCallP sp_are_integers [] (mCons (mV 0) (mCons (mC (.int 0)) (mCons (mBin iSub (mCB fLen (mCons (mV 0) mNil)) (mC (.int 1))) mNil)))))))
theorem pl_is_table : ∀ ds Q E, sp_is_table ds Q E → ds.length = 1 := fun ds Q E ⟨v, e, _⟩ => by rw [e]; rfl
theorem pure_is_table : ∀ ds Q E, sp_is_table ds Q E → m_is_table (endsP Q E) (stE 1 (ds.map .p)) [] := by
  rintro ds Q E ⟨v, rfl, hs, h⟩
  unfold m_is_table
  cases v with
  | list xs =>
    walk_at "fd"
    have h1 : (decide ((1 : Int) ≤ (xs.length : Int))) = decide (1 ≤ xs.length) := decide_eq_decide.mpr (by omega)
    have h2 : (decide ((xs.length : Int) ≤ (12 : Int))) = decide (xs.length ≤ 12) := decide_eq_decide.mpr (by omega)
    refine ⟨_, rfl, ite_b (fun _ => ⟨_, _, rfl, .inl rfl, ?_⟩) fun q => absurd q (by simp [isListD])⟩
    simp only [isTab] at h
    rw [h1, h2]
    by_cases q1 : 1 ≤ xs.length
    · rw [decide_eq_true q1] at h ⊢
      by_cases q2 : xs.length ≤ 12
      · rw [decide_eq_true q2] at h ⊢
        walk_at "fd"
        exact ⟨_, _, rfl, .inl rfl, _, rfl, .list xs, some 0, some ((xs.length : Int) - 1), rfl, hs, by simpa [areI] using h⟩
      · rw [decide_eq_false q2] at h ⊢
        walk_at "fd"
        simpa using h
    · rw [decide_eq_false q1] at h ⊢
      walk_at "fd"
      simpa using h
  | _ => walk_at "fd"; simp [isTab, isListD] at h ⊢; exact h
def sp_need_moves (ad : Str → Addr) : PSp := fun ds Q E => ∃ v, ds = [v] ∧ shortD v ∧ (isTab v = true → Q .none) ∧ (isTab v = false → E (ad "InvalidMoves"))
def m_need_moves (ad : Str → Addr) : MS := (mIfS (mNotT (mB (mCallP sp_is_table [] (mCons (mV 0) mNil))))
    (mRaise (ad "InvalidMoves"))
    mNext)
theorem pl_need_moves {ad : Str → Addr} : ∀ ds Q E, sp_need_moves ad ds Q E → ds.length = 1 := fun ds Q E ⟨v, e, _⟩ => by rw [e]; rfl
theorem pure_need_moves {ad : Str → Addr} : ∀ ds Q E, sp_need_moves ad ds Q E → m_need_moves ad (endsP Q E) (stE 1 (ds.map .p)) [] := by
  rintro ds Q E ⟨v, rfl, hs, h1, h2⟩
  unfold m_need_moves
  walk_at "fd"
  refine ⟨_, rfl, v, rfl, hs, ?_⟩
  cases h : isTab v with
  | true => walk_at "fd"; exact h1 h
  | false => walk_at "fd"; exact h2 h
def sp_common_divisor : PSp := fun ds Q _ => ∃ a b : Int, ds = [.int a, .int b] ∧ Q (.int (Nat.gcd a.natAbs b.natAbs))
def m_common_divisor : MS := (mSeq (mPar 0 1 (mCons (mCB fAbs (mCons (mV 0) mNil)) (mCons (mCB fAbs (mCons (mV 1) mNil)) mNil)))
    (mSeq (mWhile (mB (mBin iNe (mV 1) (mC (.int 0))))
    (mPar 0 1 (mCons (mV 1) (mCons (mBin iMod (mV 0) (mV 1)) mNil))))
    (mRet (mV 0))))
theorem pl_common_divisor : ∀ ds Q E, sp_common_divisor ds Q E → ds.length = 2 := fun ds Q E ⟨v, w, e, _⟩ => by rw [e]; rfl
theorem pure_common_divisor : ∀ ds Q E, sp_common_divisor ds Q E → m_common_divisor (endsP Q E) (stE 2 (ds.map .p)) [] := by
  rintro ds Q E ⟨a, b, rfl, h⟩
  unfold m_common_divisor
  walk_at "fd"
  have ab : ∀ i : Int, (if i < 0 then -i else i) = (i.natAbs : Int) := fun i => by split <;> omega
  refine ⟨a, rfl, b, rfl, _, _, rfl, ?_⟩
  rw [ab, ab]
  unfold mWhile
  refine ⟨fun m ρ S => ∃ x y : Nat, m = y ∧ ρ = [some (.p (.int x)), some (.p (.int y))] ∧ Nat.gcd x y = Nat.gcd a.natAbs b.natAbs, ⟨_, _, _, rfl, rfl, rfl⟩, ?_⟩
  rintro m ρ S ⟨x, y, e1, rfl, hg⟩
  walk_at "fd"
  by_cases hy : (y : Int) = 0
  · rw [decide_eq_true hy]
    walk_at "fd"
    have : y = 0 := by omega
    subst this
    rw [Nat.gcd_zero_right] at hg
    rw [hg]; exact h
  · rw [decide_eq_false hy]
    walk_at "fd"
    refine ⟨by omega, _, _, rfl, x % y, by rw [e1]; exact Nat.mod_lt _ (by omega), y, x % y, rfl, by walk_at "fd"; simp, ?_⟩
    rw [← hg, Nat.gcd_comm x y, Nat.gcd_rec y x, Nat.gcd_comm]
theorem at_int {ns : List Int} {j : Nat} (h : j < ns.length) : atI (ns.map PyData.int) (j : Int) = some (.int (at0 ns j)) := by
  have := atI_int (ns := ns) (i := (j : Int)) (by omega) (by simpa using h)
  simpa [at0] using this
def sp_ends_of : PSp := fun ds Q _ => ∃ (ms : List Int) (i : Nat), ds = [intsD ms, .int i] ∧ i + 1 < ms.length ∧ Q (.tuple [.int (loOf ms i), .int (hiOf ms i)])
def m_ends_of : MS := (mSeq (mPar 2 3 (mCons (mBin fIx (mV 0) (mV 1)) (mCons (mBin fIx (mV 0) (mBin iAdd (mV 1) (mC (.int 1)))) mNil)))
    (mRet (mTup (mCons (mCB fMin2 (mCons (mV 2) (mCons (mV 3) mNil))) (mCons (mCB fMax2 (mCons (mV 2) (mCons (mV 3) mNil))) mNil)))))
theorem pl_ends_of : ∀ ds Q E, sp_ends_of ds Q E → ds.length = 2 := fun ds Q E ⟨v, w, e, _⟩ => by rw [e]; rfl
theorem pure_ends_of : ∀ ds Q E, sp_ends_of ds Q E → m_ends_of (endsP Q E) (stE 4 (ds.map .p)) [] := by
  rintro ds Q E ⟨ms, i, rfl, hi, h⟩
  unfold m_ends_of
  walk_at "fd"
  refine ⟨_, (i : Int), _, .inl rfl, rfl, at_int (by omega), _, ((i : Int) + 1), _, .inl rfl, rfl, at_int (j := i + 1) hi, _, _, rfl, ?_⟩
  walk_at "fd"
  exact ⟨_, _, rfl, _, _, rfl, _, rfl, by simp [small], h⟩
def sp_covered_by : PSp := fun ds Q _ => ∃ (ms : List Int) (i : Nat), ds = [intsD ms, .int i] ∧ i + 1 < ms.length ∧ tabI ms ∧ Q (intsD (covL ms i))
def m_covered_by : MS := (mSeq (mAsg (mCallP sp_ends_of [] (mCons (mV 0) (mCons (mV 1) mNil))) (mgT [2, 3]))
    (mRet (mLrg2 newF (mV 2) (mV 3))))
theorem pl_covered_by : ∀ ds Q E, sp_covered_by ds Q E → ds.length = 2 := fun ds Q E ⟨v, w, e, _⟩ => by rw [e]; rfl
theorem pure_covered_by : ∀ ds Q E, sp_covered_by ds Q E → m_covered_by (endsP Q E) (stE 4 (ds.map .p)) [] := by
  rintro ds Q E ⟨ms, i, rfl, hi, t, h⟩
  unfold m_covered_by
  walk_at "fd"
  refine ⟨_, rfl, ms, i, rfl, hi, ?_⟩
  walk_at "fd"
  have b := t.lo hi
  have l := t.2.1
  refine ⟨⟨by omega, by omega, by omega, by omega, ?_⟩, ?_, h⟩
  · show _ ≤ 1000000
    omega
  · rw [List.length_map, rangeI_len]
    show _ ≤ 1000000
    omega
def sp_one_before : PSp := fun ds Q _ => ∃ ms ws : List Int, ds = [intsD ms, intsD ws] ∧ tabI ms ∧ ws.length = ms.length - 1 ∧ Q (intsD (oneB ms ws))
def m_one_before : MS := (mSeq (mSet 2 (mLstO mNil))
    (mSeq (mFor (mItR1 (mBin iSub (mCB fLen (mCons (mV 0) mNil)) (mC (.int 1)))) (mgN 3)
    (mSeq (mAsg (mCallP sp_ends_of [] (mCons (mV 0) (mCons (mV 3) mNil))) (mgT [4, 5]))
    (mSeq (mDrop (mBM fApp (mV 2) (mCons (mCB fSum (mCons (mSl newF (mV 1) (mPart (mV 4)) (mPart (mV 5))) mNil)) mNil)))
    (mWipe [3, 4, 5] mNext))))
    (mFrz 2 (mRet (mV 2)))))
theorem pl_one_before : ∀ ds Q E, sp_one_before ds Q E → ds.length = 2 := fun ds Q E ⟨v, w, e, _⟩ => by rw [e]; rfl
theorem pure_one_before : ∀ ds Q E, sp_one_before ds Q E → m_one_before (endsP Q E) (stE 6 (ds.map .p)) [] := by
  rintro ds Q E ⟨ms, ws, rfl, t, hl, h⟩
  unfold m_one_before
  walk_at "fd"
  refine ⟨_, rfl, Nat.zero_le _, ?_⟩
  unfold mFor
  walk_at "fd"
  have l1 := t.1
  have l2 := t.2.1
  refine ⟨_, _, rfl, .inl rfl, ⟨by rw [List.length_map]; omega, by rw [List.length_map]; omega⟩, ?_⟩
  have en : ((ms.map PyData.int).length - 1 : Int).toNat = ms.length - 1 := by rw [List.length_map]; omega
  rw [en]
  refine ⟨fun i ρ S => ρ = [some (.p (intsD ms)), some (.p (intsD ws)), some (.c 0), none, none, none] ∧ S = [.l (((List.range i).map (sumAt ms ws)).map .int)], ⟨rfl, rfl⟩, ?_, ?_, fun _ _ _ _ => trivial⟩
  · rintro i it ρ S hit ⟨rfl, rfl⟩
    have hi : i < ms.length - 1 := by have := (List.getElem?_eq_some_iff.mp hit).1; rw [rangeW_len] at this; exact this
    rw [rangeW_get hi] at hit
    cases hit
    walk_at "fd"
    rw [Int.zero_add]
    refine ⟨_, rfl, ms, i, rfl, by omega, ?_⟩
    walk_at "fd"
    have b := t.lo (i := i) (by omega)
    refine ⟨⟨_, rfl⟩, _, rfl, ?_, _, (ws.drop (loOf ms i).toNat).take ((hiOf ms i).toNat - (loOf ms i).toNat), rfl, ?_, ?_⟩
    · unfold cut
      rw [List.length_take]
      refine Nat.le_trans (Nat.min_le_right _ _) ?_
      rw [List.length_drop, List.length_map]
      show _ ≤ 1000000
      omega
    · rw [cut_map, cut_nat _ b.1 b.2.1 (by omega)]
    · refine ⟨0, _, _, rfl, rfl, rfl, ?_, ?_⟩
      · rw [List.length_map, List.length_map, List.length_range]
        show _ < 1000000
        omega
      · walk_at "fd"
        simp [List.range_succ, sumAt]
  · rintro ρ S ⟨rfl, rfl⟩
    rw [rangeW_len]
    walk_at "fd"
    exact ⟨0, _, rfl, rfl, h⟩
/-- a rate -/
def isRate (v : PyData) : Bool := match v with
  | .tuple [a, b] => isI a (some 1) none && isI b (some 1) none
  | _ => false
def shortT (v : PyData) : Prop := match v with
  | .tuple xs => xs.length ≤ small
  | _ => True
def sp_need_rate (ad : Str → Addr) : PSp := fun ds Q E => ∃ v, ds = [v] ∧ (isRate v = true → Q .none) ∧ (isRate v = false → E (ad "InvalidRate"))
def m_need_rate (ad : Str → Addr) : MS := (mIfS (mOrT (mNotT (mB (mIs isTupD (mV 0)))) (mOrT (mB (mBin iNe (mCB fLen (mCons (mV 0) mNil)) (mC (.int 2)))) (mNotT (mB (mCB fAll (mCons (mLc newF (mItT (mV 0)) (mgN 1) mYes (mCallP sp_is_integer [.none] (mCons (mV 1) (mCons (mC (.int 1)) mNil))) [1]) mNil))))))
    (mRaise (ad "InvalidRate"))
    mNext)
theorem pl_need_rate {ad : Str → Addr} : ∀ ds Q E, sp_need_rate ad ds Q E → ds.length = 1 := fun ds Q E ⟨v, e, _⟩ => by rw [e]; rfl
theorem pure_need_rate {ad : Str → Addr} : ∀ ds Q E, sp_need_rate ad ds Q E → m_need_rate ad (endsP Q E) (stE 2 (ds.map .p)) [] := by
  rintro ds Q E ⟨v, rfl, h1, h2⟩
  unfold m_need_rate
  cases v with
  | tuple xs =>
    walk_at "fd"
    refine ⟨_, rfl, ite_b (fun q => absurd q (by simp [isTupD])) fun _ => ⟨_, _, rfl, .inr rfl, ?_⟩⟩
    match xs, h1, h2 with
    | [], _, h2 => exact h2 rfl
    | [_], _, h2 => exact h2 rfl
    | [a, b], h1, h2 =>
      walk_at "fd"
      simp only [isRate] at h1 h2
      refine ⟨_, rfl, lc_map (fun d => .bool (isI d (some 1) none)) (by simp [small]) (fun d hd Y Z hY => ?_) ?_⟩
      · unfold stepLc
        walk_at "fd"
        exact ⟨_, rfl, d, some 1, none, rfl, _, rfl, hY⟩
      · refine ⟨by simp [small], _, [isI a (some 1) none, isI b (some 1) none], rfl, rfl, ?_⟩
        cases q1 : isI a (some 1) none <;> cases q2 : isI b (some 1) none <;> rw [q1, q2] at h1 h2
        · exact h2 rfl
        · exact h2 rfl
        · exact h2 rfl
        · exact h1 rfl
    | _ :: _ :: _ :: r, _, h2 =>
      have e : (decide ((((r.length + 1 + 1 + 1 : Nat) : Int)) = 2)) = false := decide_eq_false (by omega)
      simp only [List.length_cons, e]
      walk_at "fd"
      exact h2 rfl
  | _ => walk_at "fd"; simp [isRate, isTupD] at h1 h2 ⊢; exact h2
abbrev rateD (T B : Int) : PyData := .tuple [.int T, .int B]
abbrev rowsD (rs : List (List Int)) : PyData := .list (rs.map fun r => intsD r)
def rateOk (T B : Int) : Prop := 1 ≤ T ∧ 1 ≤ B ∧ T.natAbs < 2 ^ 1000 ∧ B.natAbs < 2 ^ 1000
theorem cmul_of {A B : Nat} {x y : Int} (hx : x.natAbs < 2 ^ A) (hy : y.natAbs < 2 ^ B) (h : A + B < 100000000) : CMulA x y := by
  have key : ∀ {C n : Nat}, n < 2 ^ C → n.log2 ≤ C := fun {C n} hn => by
    by_cases e : n = 0
    · subst e; simp
    · exact Nat.le_of_lt ((Nat.log2_lt e).mpr hn)
  have h1 := key hx
  have h2 := key hy
  show _ + _ < _
  omega
theorem cpow_of {A : Nat} {x j : Int} (hx : x.natAbs < 2 ^ A) (hj : 0 ≤ j) (h : (A + 1) * j.toNat ≤ 100000000) : CPowA x j := by
  refine ⟨hj, Nat.le_trans (Nat.mul_le_mul_right _ ?_) h⟩
  by_cases e : x.natAbs = 0
  · rw [e]; simp
  · have := (Nat.log2_lt e).mpr hx
    omega
def sp_rows_of : PSp := fun ds Q _ => ∃ (ms : List Int) (T B : Int), ds = [intsD ms, rateD T B] ∧ tabI ms ∧ rateOk T B ∧ Q (rowsD (rowsOf ms T B))
def m_rows_of : MS := (mSeq (mAsg (mV 1) (mgT [2, 3]))
    (mSeq (mPar 4 5 (mCons (mLstO mNil) (mCons (mBin iSub (mCB fLen (mCons (mV 0) mNil)) (mC (.int 1))) mNil)))
    (mSeq (mFor (mItR1 (mV 5)) (mgN 6)
    (mSeq (mSet 7 (mCallP sp_covered_by [] (mCons (mV 0) (mCons (mV 6) mNil))))
    (mSeq (mDrop (mBM fApp (mV 4) (mCons (mLc newF (mItR1 (mV 5)) (mgN 8) mYes (mBin iSub (mBin iMul (mV 2) (mCB fInt (mCons (mBin iEq (mV 8) (mV 6)) mNil))) (mBin iMul (mV 3) (mCB fInt (mCons (mBin (fInI false) (mV 8) (mV 7)) mNil)))) [8]) mNil)))
    (mWipe [6, 7] mNext))))
    (mFrz 4 (mRet (mV 4))))))
theorem pl_rows_of : ∀ ds Q E, sp_rows_of ds Q E → ds.length = 2 := fun ds Q E ⟨v, w, u, e, _⟩ => by rw [e]; rfl
theorem pure_rows_of : ∀ ds Q E, sp_rows_of ds Q E → m_rows_of (endsP Q E) (stE 9 (ds.map .p)) [] := by
  rintro ds Q E ⟨ms, T, B, rfl, t, ro, h⟩
  unfold m_rows_of
  walk_at "fd"
  refine ⟨_, rfl, Nat.zero_le _, _, _, rfl, .inl rfl, _, _, rfl, ?_⟩
  unfold mFor
  walk_at "fd"
  have l1 := t.1
  have l2 := t.2.1
  have en : ((ms.map PyData.int).length - 1 : Int).toNat = ms.length - 1 := by rw [List.length_map]; omega
  refine ⟨⟨by rw [List.length_map]; omega, by rw [List.length_map]; omega⟩, ?_⟩
  rw [en]
  refine ⟨fun i ρ S => ρ = [some (.p (intsD ms)), some (.p (rateD T B)), some (.p (.int T)), some (.p (.int B)), some (.c 0), some (.p (.int ((ms.map PyData.int).length - 1))), none, none, none] ∧ S = [.l (((List.range i).map (rowOf ms T B)).map fun r => intsD r)], ⟨rfl, rfl⟩, ?_, ?_, fun _ _ _ _ => trivial⟩
  · rintro i it ρ S hit ⟨rfl, rfl⟩
    have hi : i < ms.length - 1 := by have := (List.getElem?_eq_some_iff.mp hit).1; rw [rangeW_len] at this; exact this
    rw [rangeW_get hi] at hit
    cases hit
    walk_at "fd"
    rw [Int.zero_add]
    refine ⟨_, rfl, ms, i, rfl, by omega, t, ?_⟩
    walk_at "fd"
    rw [en]
    refine ⟨⟨_, rfl⟩, ⟨by rw [List.length_map]; omega, by rw [List.length_map]; omega⟩, lc_rng (fun j => .int (T * (if j = i then 1 else 0) - B * (if (j : Int) ∈ covL ms i then 1 else 0))) (by show _ ≤ 1000000; omega) (fun j hj Y Z hY => ?_) ⟨?_, ?_⟩⟩
    · unfold stepLc
      walk_at "fd"
      rw [Int.zero_add]
      have c01 : ∀ x : Int, x.natAbs < 2 ^ 1000 → ∀ b : Bool, CMulA x (if b = true then 1 else 0) := fun x hx b => cmul_of (B := 1) hx (by cases b <;> decide) (by omega)
      refine ⟨_, rfl, c01 T ro.2.2.1 _, covL ms i, rfl, ?_⟩
      walk_at "fd"
      refine ⟨_, rfl, c01 B ro.2.2.2 _, _, rfl, ?_⟩
      have e1 : (if decide ((j : Int) = (i : Int)) = true then (1 : Int) else 0) = if j = i then 1 else 0 := by by_cases e : j = i <;> simp [e] <;> omega
      rw [e1]
      simp only [Bool.false_eq_true, if_false, decide_eq_true_eq]
      exact hY
    · rw [List.length_map, List.length_range]
      show _ ≤ 1000000
      omega
    · refine ⟨0, _, _, rfl, rfl, rfl, ?_, ?_⟩
      · simp only [List.length_map, List.length_range]
        show _ < 1000000
        omega
      · simp [List.range_succ, rowOf]
  · rintro ρ S ⟨rfl, rfl⟩
    rw [rangeW_len]
    walk_at "fd"
    exact ⟨0, _, rfl, rfl, h⟩
/-- the bits that are let -/
def bits7 : Nat := 10000000
def sp_without : PSp := fun ds Q _ => ∃ (row first : List Int) (c : Nat), ds = [intsD row, intsD first, .int c] ∧ row.length = first.length ∧ c < row.length ∧ row.length ≤ 100 ∧ szL bits7 row ∧ szL bits7 first ∧ Q (intsD (wo row first c))
def m_without : MS := (mSeq (mIfS (mB (mBin iEq (mBin fIx (mV 0) (mV 2)) (mC (.int 0))))
    (mRet (mV 0))
    mNext)
    (mSeq (mSet 3 (mLc newF (mItZ (mV 0) (mV 1)) (mgT [6, 7]) mYes (mBin iSub (mBin iMul (mBin fIx (mV 1) (mV 2)) (mV 6)) (mBin iMul (mBin fIx (mV 0) (mV 2)) (mV 7))) [6, 7]))
    (mSeq (mSet 4 (mC (.int 0)))
    (mSeq (mFor (mItL (mV 3)) (mgN 5)
    (mSeq (mSet 4 (mCallP sp_common_divisor [] (mCons (mV 4) (mCons (mV 5) mNil))))
    (mWipe [5] mNext)))
    (mRet (mIf (mB (mBin iEq (mV 4) (mC (.int 0)))) (mV 3) (mLc newF (mItL (mV 3)) (mgN 5) mYes (mBin iDivA (mV 5) (mV 4)) [5])))))))
theorem pl_without : ∀ ds Q E, sp_without ds Q E → ds.length = 3 := fun ds Q E ⟨v, w, u, e, _⟩ => by rw [e]; rfl
theorem pure_without : ∀ ds Q E, sp_without ds Q E → m_without (endsP Q E) (stE 8 (ds.map .p)) [] := by
  rintro ds Q E ⟨row, first, c, rfl, hl, hc, hs, b1, b2, h⟩
  unfold m_without
  walk_at "fd"
  refine ⟨_, (c : Int), _, .inl rfl, rfl, at_int hc, ?_⟩
  walk_at "fd"
  by_cases hz : at0 row c = 0
  · rw [decide_eq_true hz]
    walk_at "fd"
    rw [show wo row first c = row from if_pos hz] at h
    exact h
  · rw [decide_eq_false hz]
    walk_at "fd"
    refine ⟨_, _, _, _, rfl, rfl, ?_⟩
    have ez : List.zipWith (fun x y => PyData.int (at0 first c * x - at0 row c * y)) row first = (comb c row first).map .int := by unfold comb; rw [List.map_zipWith]
    have cm : ∀ {x y : Int}, x.natAbs < 2 ^ bits7 → y.natAbs < 2 ^ bits7 → CMulA x y := fun hx hy => cmul_of hx hy (by decide)
    have sm : ∀ n, n ≤ 100 → n ≤ small := fun n h => Nat.le_trans h (by decide)
    have hcl : (comb c row first).length ≤ 100 := by rw [comb_len hl]; exact hs
    refine lc_zipG PyData.int PyData.int (fun x y => .int (at0 first c * x - at0 row c * y)) (sm _ hs) (fun x y hxy Y Z hY => ?_) ?_
    · unfold stepLc
      obtain ⟨hx, hy⟩ := List.of_mem_zip hxy
      walk_at "fd"
      refine fIx_at rfl (at_int (by omega)) ?_
      walk_at "fd"
      refine ⟨cm (b2.at c) (b1 x hx), fIx_at rfl (at_int hc) ?_⟩
      walk_at "fd"
      exact ⟨cm (b1.at c) (b2 y hy), _, rfl, hY⟩
    · rw [ez]
      refine ⟨by rw [List.length_map]; exact sm _ hcl, ?_⟩
      unfold mFor
      walk_at "fd"
      refine ⟨_, _, rfl, fun i ρ S => ρ = [some (.p (intsD row)), some (.p (intsD first)), some (.p (.int c)), some (.p (intsD (comb c row first))), some (.p (.int (gcdFrom 0 ((comb c row first).take i) : Nat))), none, none, none] ∧ S = [], ⟨rfl, rfl⟩, ?_, ?_, fun _ _ _ _ => trivial⟩
      · rintro i it ρ S hit ⟨rfl, rfl⟩
        obtain ⟨x, hx, rfl⟩ := mapW_getG hit
        walk_at "fd"
        refine ⟨_, rfl, _, _, rfl, ?_⟩
        rw [Int.natAbs_natCast, List.take_add_one, hx]
        simp [gcdFrom]
      · rintro ρ S ⟨rfl, rfl⟩
        rw [List.length_map, List.length_map, List.take_length]
        walk_at "fd"
        have hw : wo row first c = lowest (comb c row first) := if_neg hz
        rw [hw] at h
        by_cases hg : gcdL (comb c row first) = 0
        · have hg' : ((gcdFrom 0 (comb c row first) : Nat) : Int) = 0 := by unfold gcdL at hg; omega
          rw [decide_eq_true hg']
          walk_at "fd"
          rw [show lowest (comb c row first) = comb c row first from if_pos hg] at h
          exact h
        · have hg' : ¬ ((gcdFrom 0 (comb c row first) : Nat) : Int) = 0 := by unfold gcdL at hg; omega
          rw [decide_eq_false hg']
          walk_at "fd"
          rw [show lowest (comb c row first) = (comb c row first).map fun x => x.fdiv (gcdL (comb c row first)) from if_neg hg] at h
          refine ⟨_, _, rfl, lc_mapG PyData.int (fun x => .int (x.fdiv (gcdL (comb c row first)))) (sm _ hcl) (fun x hx Y Z hY => ?_) ?_⟩
          · unfold stepLc
            walk_at "fd"
            exact ⟨hg', _, rfl, hY⟩
          · refine ⟨by rw [List.length_map]; exact sm _ hcl, ?_⟩
            rw [intsD, List.map_map] at h
            exact h
def sp_reduced_rows : PSp := fun ds Q _ => ∃ (rows : List (List Int)) (w m b : Nat), ds = [rowsD rows, .int w] ∧ (∀ r ∈ rows, r.length = m) ∧ (∀ r ∈ rows, szL b r) ∧ bd b w ≤ bits7 ∧ w ≤ m ∧ m ≤ 100 ∧ rows.length ≤ 100 ∧ Q (rowsD (redRows rows w))
def m_reduced_rows : MS := (mSeq (mPar 2 3 (mCons (mLc newO (mItL (mV 0)) (mgN 7) mYes (mCB (fList newF) (mCons (mV 7) mNil)) [7]) (mCons (mLst mNil) mNil)))
    (mSeq (mFor (mItR1 (mV 1)) (mgN 4)
    (mSeq (mSet 5 (mLc newF (mItE (mV 2)) (mgT [8, 7]) (mB (mBin iNe (mBin fIx (mV 7) (mV 4)) (mC (.int 0)))) (mV 8) [8, 7]))
    (mSeq (mIfS (mB (mBin (fEqD true) (mV 5) (mLst mNil)))
    (mSeq (mSet 6 (mBM fPopAt (mV 2) (mCons (mBin fIx (mV 5) (mC (.int 0))) mNil)))
    (mSeq (mSet 2 (mLc newO (mItL (mV 2)) (mgN 7) mYes (mCallP sp_without [] (mCons (mV 7) (mCons (mV 6) (mCons (mV 4) mNil)))) [7]))
    (mSet 3 (mBin (fCat newF) (mLc newF (mItL (mV 3)) (mgN 7) mYes (mCallP sp_without [] (mCons (mV 7) (mCons (mV 6) (mCons (mV 4) mNil)))) [7]) (mLst (mCons (mV 6) mNil))))))
    mNext)
    (mWipe [4, 5, 6] mNext))))
    (mRet (mV 3))))
theorem pl_reduced_rows : ∀ ds Q E, sp_reduced_rows ds Q E → ds.length = 2 := fun ds Q E ⟨v, w, u, _, e, _⟩ => by rw [e]; rfl
theorem bd_up (b : Nat) {i j : Nat} (h : i ≤ j) : bd b i ≤ bd b j := by
  induction h with
  | refl => exact Nat.le_refl _
  | step _ ih => exact Nat.le_trans ih (bd_mono b _)
theorem pure_reduced_rows : ∀ ds Q E, sp_reduced_rows ds Q E → m_reduced_rows (endsP Q E) (stE 9 (ds.map .p)) [] := by
  rintro ds Q E ⟨rows, w, m, b, rfl, hl, hs, hb, hw, hm, hn, h⟩
  have sm : ∀ n, n ≤ 100 → n ≤ small := fun n h => Nat.le_trans h (by decide)
  unfold m_reduced_rows
  walk_at "fd"
  refine ⟨_, _, rfl, lc_mapG (fun r : List Int => intsD r) (fun r => intsD r) (sm _ hn) (fun r hr Y Z hY => ?_) ?_⟩
  · unfold stepLc
    walk_at "fd"
    have hr2 : r.length ≤ 100 := by rw [hl r hr]; exact hm
    exact ⟨_, _, rfl, .inl rfl, by rw [List.length_map]; exact sm _ hr2, _, rfl, hY⟩
  · refine ⟨by rw [List.length_map]; exact sm _ hn, _, rfl, Nat.zero_le _, _, _, rfl, ?_⟩
    unfold mFor
    walk_at "fd"
    refine ⟨⟨by omega, by omega⟩, fun i ρ S => ∃ k, ρ = [some (.p (rowsD rows)), some (.p (.int w)), some (.c k), some (.p (rowsD (redAll rows i).2)), none, none, none, none, none] ∧ S[k]? = some (.l ((redAll rows i).1.map fun r => intsD r)), ⟨0, rfl, rfl⟩, ?_, ?_, fun _ _ _ _ => trivial⟩
    · rintro i it ρ S hit ⟨k, rfl, hk⟩
      rw [Int.toNat_natCast] at hit
      have hi : i < w := by have := (List.getElem?_eq_some_iff.mp hit).1; rw [rangeW_len] at this; exact this
      rw [rangeW_get hi] at hit
      cases hit
      rw [Int.zero_add]
      obtain ⟨dp, I, e⟩ := redAll_inv hl hs i (by omega)
      have hbi : bd b i ≤ bits7 := Nat.le_trans (bd_up b (by omega)) hb
      have lL := I.lenL
      have lD := I.lenD
      have cnt := I.cnt
      have zl := fun r hr => (I.szl r hr).mono hbi
      have zd := fun p hp => (I.szd p hp).mono hbi
      walk_at "fd"
      simp only [redAll_succ]
      have e2 : redAll rows i = ((redAll rows i).1, dp.map (·.1)) := by rw [← e]
      rw [e2] at hk ⊢
      generalize (redAll rows i).1 = left at hk lL cnt zl ⊢
      clear I e e2
      rw [hk]
      have enz : ((left.mapIdx fun j r => if at0 r i = 0 then none else some (PyData.int (j : Nat))).filterMap id) = ((nzs i left).map fun j : Nat => (j : Int)).map PyData.int := by
        unfold nzs
        have e1 : (left.mapIdx fun j r => if at0 r i = 0 then none else some (PyData.int (j : Nat))) = (left.mapIdx fun j r => if at0 r i = 0 then none else some j).map (Option.map fun j : Nat => PyData.int (j : Nat)) := by
          apply List.ext_getElem (by simp)
          intro n h1 h2
          simp only [List.getElem_mapIdx, List.getElem_map]
          split <;> rfl
        rw [e1]
        generalize (left.mapIdx fun j r => if at0 r i = 0 then none else some j) = os
        induction os with
        | nil => rfl
        | cons o os ih =>
          cases o with
          | none => simpa using ih
          | some j => simpa using ih
      refine ⟨_, _, rfl, lc_enumFG (fun r : List Int => intsD r) (fun j r => if at0 r i = 0 then none else some (PyData.int (j : Nat))) (sm _ (by omega)) (fun j r hj Y Z hY hZ => ?_) ?_ hk⟩
      · unfold stepLc
        walk_at "fd"
        refine fIx_at rfl (at_int (by rw [lL r (List.mem_of_getElem? hj)]; omega)) ?_
        walk_at "fd"
        by_cases hz : at0 r i = 0
        · rw [decide_eq_true hz]
          walk_at "fd"
          exact hZ (if_pos hz)
        · rw [decide_eq_false hz]
          walk_at "fd"
          exact ⟨_, rfl, hY _ (if_neg hz)⟩
      · rw [enz]
        refine ⟨by
          rw [List.length_map, List.length_map]
          refine sm _ (Nat.le_trans (List.length_filterMap_le _ _) ?_)
          rw [List.length_mapIdx]; omega, ?_⟩
        refine ⟨_, rfl, Nat.zero_le _, intsD _, intsD [], rfl, rfl, shaped_ints _, shaped_ints [], ?_⟩
        rw [eqv_ints]
        cases hnz : nzs i left with
        | nil =>
          rw [redStep_nil hnz]
          walk_at "fd"
          simp only [decide_true]
          walk_at "fd"
          exact ⟨k, rfl, hk⟩
        | cons j js =>
          rw [redStep_cons hnz]
          have hj := nzs_mem.mp (show j ∈ nzs i left by rw [hnz]; simp)
          have hg : left[j]? = some (left.getD j []) := by rw [List.getD_eq_getElem?_getD, List.getElem?_eq_getElem hj.1]; rfl
          generalize left.getD j [] = first at hg hj ⊢
          have hm1 : first ∈ left := List.mem_of_getElem? hg
          have ed : decide ((j :: js).map (fun j : Nat => (j : Int)) = []) = false := decide_eq_false (by simp)
          simp only [ed]
          walk_at "fd"
          refine ⟨⟨_, by rw [hk]⟩, fIx_at (i := 0) (d := .int (j : Nat)) rfl (atI_nat (j := 0) rfl) ?_⟩
          refine ⟨k, _, _, _, rfl, rfl, hk, by omega, by have := hj.1; omega, by rw [Int.toNat_natCast, List.getElem?_map, hg]; rfl, ?_⟩
          rw [Int.toNat_natCast]
          have hk2 : (S.set k (.l ((left.map fun r => intsD r).eraseIdx j)))[k]? = some (.l (((left.eraseIdx j)).map fun r => intsD r)) := by
            rw [List.getElem?_set_self (List.getElem?_eq_some_iff.mp hk).1]
            simp [List.eraseIdx_eq_take_drop_succ, List.map_take, List.map_drop]
          generalize S.set k (.l ((left.map fun r => intsD r).eraseIdx j)) = S2 at hk2 ⊢
          walk_at "fd"
          rw [hk2]
          have er : ∀ r, r ∈ left.eraseIdx j → r ∈ left := fun r hr => List.mem_of_mem_eraseIdx hr
          have le1 : (left.eraseIdx j).length ≤ 100 := by rw [List.length_eraseIdx]; split <;> omega
          refine ⟨_, _, rfl, lc_mapG (fun r : List Int => intsD r) (fun r => intsD (wo r first i)) (sm _ le1) (fun r hr Y Z hY => ?_) ?_ hk2⟩
          · unfold stepLc
            walk_at "fd"
            have hr1 := lL r (er r hr)
            have hf1 := lL first hm1
            exact ⟨_, rfl, r, first, i, rfl, by omega, by omega, by omega, zl r (er r hr), zl first hm1, _, rfl, hY⟩
          · refine ⟨by rw [List.length_map]; exact sm _ le1, _, _, rfl, ?_⟩
            have ld : (dp.map (·.1)).length ≤ 100 := by rw [List.length_map]; omega
            have lD' : ∀ r ∈ dp.map (·.1), r.length = m ∧ szL bits7 r := fun r hr => by
              obtain ⟨p, hp, rfl⟩ := List.mem_map.mp hr
              exact ⟨lD p hp, zd p hp⟩
            refine lc_mapG (fun r : List Int => intsD r) (fun r => intsD (wo r first i)) (sm _ ld) (fun r hr Y Z hY => ?_) ?_
            · unfold stepLc
              walk_at "fd"
              obtain ⟨hr1, hr2⟩ := lD' r hr
              have hf1 := lL first hm1
              exact ⟨_, rfl, r, first, i, rfl, by omega, by omega, by omega, hr2, zl first hm1, _, rfl, hY⟩
            · refine ⟨by rw [List.length_map]; exact sm _ ld, _, rfl, show 1 ≤ 1000000 by decide, _, _, rfl, rfl, ?_, ?_⟩
              · rw [List.length_append, List.length_map]
                exact Nat.le_trans (Nat.add_le_add_right ld _) (show 100 + 1 ≤ 1000000 by decide)
              · refine ⟨S2.length, ?_, ?_⟩
                · simp [List.map_map, Function.comp_def]
                · simp [List.map_map, Function.comp_def]
    · rintro ρ S ⟨k, rfl, hk⟩
      rw [rangeW_len]
      walk_at "fd"
      exact h
def sp_times_to_whole : PSp := fun ds Q _ => ∃ (tops bots : List Int) (B : Nat), ds = [intsD tops, intsD bots] ∧ tops.length = bots.length ∧ bots.length ≤ 100 ∧ (∀ x ∈ bots, x ≠ 0) ∧ szL B tops ∧ szL B bots ∧ 1 + B + bots.length * B < 100000000 ∧ Q (intsD (twN tops bots))
def m_times_to_whole : MS := (mSeq (mSet 2 (mC (.int 1)))
    (mSeq (mFor (mItL (mV 1)) (mgN 3)
    (mSeq (mSet 2 (mBin iDivA (mBin iMul (mV 2) (mCB fAbs (mCons (mV 3) mNil))) (mCallP sp_common_divisor [] (mCons (mV 2) (mCons (mV 3) mNil)))))
    (mWipe [3] mNext)))
    (mSeq (mAsg (mTup (mCons (mLc newF (mItZ (mV 0) (mV 1)) (mgT [7, 3]) mYes (mBin iMul (mV 7) (mBin iDivA (mV 2) (mV 3))) [7, 3]) (mCons (mC (.int 0)) mNil))) (mgT [4, 5]))
    (mSeq (mFor (mItL (mV 4)) (mgN 6)
    (mSeq (mSet 5 (mCallP sp_common_divisor [] (mCons (mV 5) (mCons (mV 6) mNil))))
    (mWipe [6] mNext)))
    (mRet (mLc newF (mItL (mV 4)) (mgN 6) mYes (mBin iDivA (mV 6) (mCB fMax2 (mCons (mV 5) (mCons (mC (.int 1)) mNil)))) [6]))))))
theorem pl_times_to_whole : ∀ ds Q E, sp_times_to_whole ds Q E → ds.length = 2 := fun ds Q E ⟨v, w, u, e, _⟩ => by rw [e]; rfl
theorem pure_times_to_whole : ∀ ds Q E, sp_times_to_whole ds Q E → m_times_to_whole (endsP Q E) (stE 8 (ds.map .p)) [] := by
  rintro ds Q E ⟨tops, bots, B, rfl, hl, hn, h0, b1, b2, hB, h⟩
  have sm : ∀ n, n ≤ 100 → n ≤ small := fun n h => Nat.le_trans h (by decide)
  have mB : ∀ i, i ≤ bots.length → i * B ≤ bots.length * B := fun i hi => Nat.mul_le_mul_right _ hi
  have hC : ∀ i, i ≤ bots.length → 0 < (bots.take i).foldl cmnStep 1 ∧ ((bots.take i).foldl cmnStep 1).natAbs < 2 ^ (1 + i * B) := fun i hi => by
    obtain ⟨k1, _, _, k4⟩ := cmnFrom_ok (bots.take i) 1 1 B (by omega) (by decide) (fun x hx => h0 x (List.mem_of_mem_take hx)) fun x hx => b2 x (List.mem_of_mem_take hx)
    rw [List.length_take, Nat.min_eq_left hi] at k4
    exact ⟨k1, k4⟩
  unfold m_times_to_whole
  walk_at "fd"
  unfold mFor
  walk_at "fd"
  refine ⟨_, _, rfl, fun i ρ S => ρ = [some (.p (intsD tops)), some (.p (intsD bots)), some (.p (.int ((bots.take i).foldl cmnStep 1))), none, none, none, none, none] ∧ S = [], ⟨rfl, rfl⟩, ?_, ?_, fun _ _ _ _ => trivial⟩
  · rintro i it ρ S hit ⟨rfl, rfl⟩
    obtain ⟨x, hx, rfl⟩ := mapW_getG hit
    have hi := (List.getElem?_eq_some_iff.mp hx).1
    have hm := List.mem_of_getElem? hx
    obtain ⟨c1, c2⟩ := hC i (by omega)
    walk_at "fd"
    have ab : (if x < 0 then -x else x) = (x.natAbs : Int) := by split <;> omega
    have := mB i (by omega)
    refine ⟨x, rfl, ?_⟩
    rw [ab]
    refine ⟨cmul_of c2 (by rw [Int.natAbs_natCast]; exact b2 x hm) (by omega), _, rfl, _, _, rfl, ?_⟩
    walk_at "fd"
    refine ⟨by have := Nat.gcd_pos_of_pos_left x.natAbs (show 0 < ((bots.take i).foldl cmnStep 1).natAbs by omega); omega, ?_⟩
    rw [List.take_add_one, hx]
    simp [cmnStep, List.foldl_append]
  · rintro ρ S ⟨rfl, rfl⟩
    rw [List.length_map, List.length_map, List.take_length]
    walk_at "fd"
    obtain ⟨c1, cd, c2⟩ := cmn_ok h0 b2
    have ec : bots.foldl cmnStep 1 = cmn bots := rfl
    rw [ec]
    have ez : List.zipWith (fun t b => PyData.int (t * (cmn bots).fdiv b)) tops bots = (twF tops bots).map .int := by unfold twF; rw [List.map_zipWith]
    have hfl : (twF tops bots).length ≤ 100 := by rw [twF_len hl]; omega
    refine ⟨_, _, _, _, rfl, rfl, lc_zipG PyData.int PyData.int (fun t b => .int (t * (cmn bots).fdiv b)) (sm _ (by omega)) (fun t b htb Y Z hY => ?_) ?_⟩
    · unfold stepLc
      obtain ⟨ht, hb⟩ := List.of_mem_zip htb
      walk_at "fd"
      have a1 := sz_div (fdiv_exact (cd b hb)) (h0 b hb) c2
      exact ⟨h0 b hb, cmul_of (b1 t ht) a1 (by omega), _, rfl, hY⟩
    · rw [ez]
      refine ⟨by rw [List.length_map]; exact sm _ hfl, ?_⟩
      refine ⟨_, rfl, show 2 ≤ 1000000 by decide, rfl, ?_⟩
      walk_at "fd"
      refine ⟨_, _, rfl, fun i ρ S => ρ = [some (.p (intsD tops)), some (.p (intsD bots)), some (.p (.int (cmn bots))), none, some (.p (intsD (twF tops bots))), some (.p (.int (gcdFrom 0 ((twF tops bots).take i) : Nat))), none, none] ∧ S = [], ⟨rfl, rfl⟩, ?_, ?_, fun _ _ _ _ => trivial⟩
      · rintro i it ρ S hit ⟨rfl, rfl⟩
        obtain ⟨x, hx, rfl⟩ := mapW_getG hit
        walk_at "fd"
        refine ⟨_, rfl, _, _, rfl, ?_⟩
        rw [Int.natAbs_natCast, List.take_add_one, hx]
        simp [gcdFrom]
      · rintro ρ S ⟨rfl, rfl⟩
        rw [List.length_map, List.length_map, List.take_length]
        walk_at "fd"
        refine ⟨_, _, rfl, lc_mapG PyData.int (fun x => .int (x.fdiv (max (gcdL (twF tops bots) : Int) 1))) (sm _ hfl) (fun x hx Y Z hY => ?_) ?_⟩
        · unfold stepLc
          walk_at "fd"
          exact ⟨_, _, rfl, by omega, _, rfl, hY⟩
        · refine ⟨by rw [List.length_map]; exact sm _ hfl, ?_⟩
          unfold twN at h
          rw [intsD, List.map_map] at h
          exact h
def optD : Option (List Int) → PyData
  | none => .none
  | some xs => intsD xs
theorem bd12 {N : Nat} (h : N ≤ 11) : bd 1001 N ≤ 2052095 := by
  have h1 := bd_le 1001 11
  have h2 := bd_up 1001 h
  have : 2 ^ 11 * (1001 + 1) = 2052096 := by decide
  omega
/-- rows as the moves' rows are -/
structure RowsIn (rows : List (List Int)) (N : Nat) : Prop where
  len : rows.length = N
  lens : ∀ r ∈ rows, r.length = N
  sz : ∀ r ∈ rows, szL 1001 r
  most : N ≤ 11
theorem rows_in {ms : List Int} {T B : Int} (t : tabI ms) (r : rateOk T B) : RowsIn (rowsOf ms T B) (ms.length - 1) :=
  ⟨rowsOf_len ms T B, rowsOf_lens, rowsOf_sz r.2.2.1 r.2.2.2, by have := t.2.1; omega⟩
def sp_slow_for : PSp := fun ds Q _ => ∃ (ms : List Int) (T B : Int), ds = [intsD ms, rateD T B] ∧ tabI ms ∧ rateOk T B ∧ Q (optD (slowR (rowsOf ms T B)))
def m_slow_for : MS := (mSeq (mSet 2 (mBin iSub (mCB fLen (mCons (mV 0) mNil)) (mC (.int 1))))
    (mSeq (mSet 3 (mLc newF (mItL (mCallP sp_rows_of [] (mCons (mV 0) (mCons (mV 1) mNil)))) (mgN 6) mYes (mLst (mStar (mV 6) (mCons (mC (.int 1)) mNil))) [6]))
    (mSeq (mSet 4 (mCallP sp_reduced_rows [] (mCons (mV 3) (mCons (mV 2) mNil))))
    (mSeq (mIfS (mB (mBin iLt (mCB fLen (mCons (mV 4) mNil)) (mV 2)))
    (mRet (mC .none))
    mNext)
    (mSeq (mSet 5 (mCallP sp_times_to_whole [] (mCons (mLc newF (mItL (mV 4)) (mgN 6) mYes (mBin fIx (mV 6) (mV 2)) [6]) (mCons (mLc newF (mItE (mV 4)) (mgT [7, 6]) mYes (mBin fIx (mV 6) (mV 7)) [7, 6]) mNil))))
    (mRet (mIf (mB (mCB fAll (mCons (mLc newF (mItL (mV 5)) (mgN 8) mYes (mBin iGt (mV 8) (mC (.int 0))) [8]) mNil))) (mV 5) (mC .none))))))))
theorem pl_slow_for : ∀ ds Q E, sp_slow_for ds Q E → ds.length = 2 := fun ds Q E ⟨v, w, u, e, _⟩ => by rw [e]; rfl
theorem rowsD_len (rows : List (List Int)) : (rows.map fun r => intsD r).length = rows.length := by simp
theorem pure_slow_for : ∀ ds Q E, sp_slow_for ds Q E → m_slow_for (endsP Q E) (stE 9 (ds.map .p)) [] := by
  rintro ds Q E ⟨ms, T, B, rfl, t, ro, h⟩
  have sm : ∀ n, n ≤ 100 → n ≤ small := fun n h => Nat.le_trans h (by decide)
  have RI := rows_in t ro
  unfold m_slow_for
  walk_at "fd"
  refine ⟨_, _, rfl, .inl rfl, _, rfl, ms, T, B, rfl, t, ro, ?_⟩
  have l1 := t.1
  have l2 := t.2.1
  have eN : ((ms.map PyData.int).length : Int) - 1 = ((ms.length - 1 : Nat) : Int) := by rw [List.length_map]; omega
  rw [eN]
  generalize rowsOf ms T B = rows at RI h ⊢
  generalize ms.length - 1 = N at RI ⊢
  have hN := RI.most
  walk_at "fd"
  refine ⟨_, _, rfl, lc_mapG (fun r : List Int => intsD r) (fun r => intsD (r ++ [1])) (sm _ (by rw [RI.len]; omega)) (fun r hr Y Z hY => ?_) ?_⟩
  · unfold stepLc
    walk_at "fd"
    refine ⟨_, .inl rfl, _, unp_apps _ rfl, ?_, _, rfl, ?_⟩
    · rw [List.length_append, List.length_map, RI.lens r hr]
      exact sm _ (show N + 1 ≤ 100 by omega)
    · rw [intsD, List.map_append] at hY
      exact hY
  · refine ⟨by rw [List.length_map, RI.len]; exact sm _ (by omega), _, rfl, slowRows rows, N, N + 1, 1001, ?_, slowRows_lens RI.lens, slowRows_sz RI.sz (by omega), ?_, by omega, by omega, by simp only [slowRows, List.length_map, RI.len]; omega, ?_⟩
    · simp [slowRows, rowsD, List.map_map, Function.comp_def]
    · exact Nat.le_trans (bd12 hN) (by decide)
    · have ed : redRows (slowRows rows) N = slowDone rows := by unfold slowDone; rw [RI.len]
      rw [ed]
      walk_at "fd"
      refine ⟨_, _, rfl, .inl rfl, ?_⟩
      have RO := slowDone_ok RI.len RI.lens RI.sz (by omega)
      rw [rowsD_len]
      by_cases hl : (slowDone rows).length < N
      · have e1 : decide (((slowDone rows).length : Int) < (N : Int)) = true := decide_eq_true (by omega)
        rw [e1]
        walk_at "fd"
        rw [show slowR rows = none by unfold slowR; rw [if_pos (by rw [RI.len]; exact hl)]] at h
        exact h
      · have e1 : decide (((slowDone rows).length : Int) < (N : Int)) = false := decide_eq_false (by omega)
        rw [e1]
        walk_at "fd"
        have hdl : (slowDone rows).length = N := by have := RO.len; omega
        have SA := slow_at RI.len RI.lens RI.sz (by omega) hdl
        have hs : slowR rows = if (slowNums rows).all (fun x => decide (0 < x)) then some (slowNums rows) else none := by
          unfold slowR
          rw [if_neg (by rw [RI.len]; omega)]
        rw [hs] at h
        refine ⟨_, _, rfl, lc_mapG (fun r : List Int => intsD r) (fun r => .int (at0 r N)) (sm _ (by omega)) (fun r hr Y Z hY => ?_) ?_⟩
        · unfold stepLc
          walk_at "fd"
          refine fIx_at rfl (at_int (by rw [RO.lens r hr]; omega)) ?_
          exact ⟨_, rfl, hY⟩
        · refine ⟨by rw [List.length_map]; exact sm _ (by omega), _, _, rfl, lc_enumG (fun r : List Int => intsD r) (fun i r => .int (at0 r i)) (sm _ (by omega)) (fun i r hi Y Z hY => ?_) ?_⟩
          · unfold stepLc
            walk_at "fd"
            have hi2 := (List.getElem?_eq_some_iff.mp hi).1
            refine fIx_at rfl (at_int (by rw [RO.lens r (List.mem_of_getElem? hi)]; omega)) ?_
            exact ⟨_, rfl, hY⟩
          · refine ⟨by rw [List.length_mapIdx]; exact sm _ (by omega), _, rfl, (slowDone rows).map (at0 · N), (slowDone rows).mapIdx (fun i r => at0 r i), bd 1001 N, ?_, by simp, by rw [List.length_mapIdx]; omega, SA.bots, tops_sz RO.sz, bots_sz RO.sz, ?_, ?_⟩
            · simp [List.map_map, Function.comp_def, map_mapIdxE]
            · rw [List.length_mapIdx, hdl]
              have h1 := bd12 hN
              have h2 : N * bd 1001 N ≤ 11 * 2052095 := Nat.mul_le_mul hN h1
              omega
            · have en : twN ((slowDone rows).map (at0 · N)) ((slowDone rows).mapIdx fun i r => at0 r i) = slowNums rows := by unfold slowNums; rw [RI.len]
              rw [en]
              walk_at "fd"
              refine ⟨_, _, rfl, lc_mapG PyData.int (fun x => .bool (decide (0 < x))) (sm _ (by rw [SA.nlen]; omega)) (fun x hx Y Z hY => ?_) ?_⟩
              · unfold stepLc
                walk_at "fd"
                exact ⟨_, rfl, hY⟩
              · refine ⟨by rw [List.length_map, SA.nlen]; exact sm _ (by omega), _, (slowNums rows).map (fun x => decide (0 < x)), rfl, ?_, ?_⟩
                · simp [List.map_map, Function.comp_def]
                · have ea : ((slowNums rows).map (fun x => decide (0 < x))).all id = (slowNums rows).all (fun x => decide (0 < x)) := by rw [List.all_map]; rfl
                  rw [ea]
                  cases q : (slowNums rows).all fun x => decide (0 < x) with
                  | true =>
                    rw [q, if_pos rfl] at h
                    exact h
                  | false =>
                    rw [q, if_neg (by simp)] at h
                    exact h
/-- the bits of papers' numbers -/
def bitsP : Nat := 50000000
def holdsF (ms : List Int) (T B : Int) (ws : List Int) : Bool := (List.zipWith (fun w s => decide (T * w ≤ B * s)) ws (oneB ms ws)).all id
theorem sz_sum {B : Nat} : ∀ {xs : List Int}, szL B xs → xs.sum.natAbs < 2 ^ (B + xs.length)
  | [], _ => by simp; exact Nat.pow_pos (by omega)
  | x :: xs, h => by
    have h1 := sz_sum (xs := xs) fun y hy => h y (by simp [hy])
    have h2 := h x (by simp)
    rw [List.sum_cons, List.length_cons]
    have h3 : x.natAbs < 2 ^ (B + xs.length) := Nat.lt_of_lt_of_le h2 (Nat.pow_le_pow_right (by omega) (by omega))
    exact sz_add h3 h1
theorem sumAt_sz {ms ws : List Int} {B i : Nat} (h : szL B ws) (hw : ws.length ≤ 100) : (sumAt ms ws i).natAbs < 2 ^ (B + 100) := by
  have h1 := sz_sum (xs := (ws.drop (loOf ms i).toNat).take ((hiOf ms i).toNat - (loOf ms i).toNat)) fun x hx => h x (List.mem_of_mem_drop (List.mem_of_mem_take hx))
  refine Nat.lt_of_lt_of_le h1 (Nat.pow_le_pow_right (by omega) (Nat.add_le_add_left ?_ _))
  rw [List.length_take, List.length_drop]
  omega
theorem oneB_sz {ms ws : List Int} {B : Nat} (h : szL B ws) (hw : ws.length ≤ 100) : szL (B + 100) (oneB ms ws) := fun x hx => by
  obtain ⟨i, _, rfl⟩ := List.mem_map.mp hx
  exact sumAt_sz h hw
def sp_holds_fast : PSp := fun ds Q _ => ∃ (ms : List Int) (T B : Int) (ws : List Int), ds = [intsD ms, rateD T B, intsD ws] ∧ tabI ms ∧ rateOk T B ∧ ws.length = ms.length - 1 ∧ szL bitsP ws ∧ Q (.bool (holdsF ms T B ws))
def m_holds_fast : MS := (mSeq (mSet 3 (mCallP sp_one_before [] (mCons (mV 0) (mCons (mV 2) mNil))))
    (mRet (mCB fAll (mCons (mLc newF (mItZ (mV 2) (mV 3)) (mgT [4, 5]) mYes (mBin iGe (mBin iMul (mBin fIx (mV 1) (mC (.int 1))) (mV 5)) (mBin iMul (mBin fIx (mV 1) (mC (.int 0))) (mV 4))) [4, 5]) mNil))))
theorem pl_holds_fast : ∀ ds Q E, sp_holds_fast ds Q E → ds.length = 3 := fun ds Q E ⟨v, w, u, _, e, _⟩ => by rw [e]; rfl
theorem pure_holds_fast : ∀ ds Q E, sp_holds_fast ds Q E → m_holds_fast (endsP Q E) (stE 6 (ds.map .p)) [] := by
  rintro ds Q E ⟨ms, T, B, ws, rfl, t, ro, hl, hw, h⟩
  have sm : ∀ n, n ≤ 100 → n ≤ small := fun n h => Nat.le_trans h (by decide)
  have l2 := t.2.1
  unfold m_holds_fast
  walk_at "fd"
  refine ⟨_, rfl, ms, ws, rfl, t, hl, ?_⟩
  walk_at "fd"
  have hl2 : (oneB ms ws).length = ws.length := by simp [oneB, hl]
  refine ⟨_, _, _, _, rfl, rfl, lc_zipG PyData.int PyData.int (fun w s => .bool (decide (T * w ≤ B * s))) (sm _ (by omega)) (fun w s hws Y Z hY => ?_) ?_⟩
  · unfold stepLc
    obtain ⟨h1, h2⟩ := List.of_mem_zip hws
    walk_at "fd"
    refine fIx_tup (d := .int B) rfl (atI_nat (j := 1) rfl) ?_
    walk_at "fd"
    refine ⟨cmul_of ro.2.2.2 (oneB_sz hw (by omega) s h2) (by decide), fIx_tup (d := .int T) rfl (atI_nat (j := 0) rfl) ?_⟩
    walk_at "fd"
    exact ⟨cmul_of ro.2.2.1 (hw w h1) (by decide), _, rfl, hY⟩
  · refine ⟨by rw [List.length_zipWith]; exact sm _ (by omega), _, List.zipWith (fun w s => decide (T * w ≤ B * s)) ws (oneB ms ws), rfl, ?_, h⟩
    rw [boolsD, List.map_zipWith]
def sp_fast_for : PSp := fun ds Q _ => ∃ (ms : List Int) (T B : Int), ds = [intsD ms, rateD T B] ∧ tabI ms ∧ rateOk T B ∧ Q (optD (fastR (rowsOf ms T B)))
def m_fast_for : MS := (mSeq (mSet 2 (mCallP sp_rows_of [] (mCons (mV 0) (mCons (mV 1) mNil))))
    (mSeq (mFor (mItE (mV 2)) (mgT [3, 4])
    (mSeq (mSet 5 (mCallP sp_reduced_rows [] (mCons (mLc newF (mItL (mSl newF (mV 2) mNo (mPart (mV 3)))) (mgN 9) mYes (mLst (mStar (mSl newF (mV 9) mNo (mPart (mV 3))) (mCons (mBin iSub (mC (.int 0)) (mBin fIx (mV 9) (mV 3))) mNil))) [9]) (mCons (mV 3) mNil))))
    (mSeq (mPar 6 7 (mCons (mLc newF (mItL (mV 5)) (mgN 9) mYes (mBin fIx (mV 9) (mV 3)) [9]) (mCons (mLc newF (mItE (mV 5)) (mgT [10, 9]) mYes (mBin fIx (mV 9) (mV 10)) [10, 9]) mNil)))
    (mSeq (mSet 8 (mCallP sp_times_to_whole [] (mCons (mLst (mStar (mV 6) (mCons (mC (.int 1)) mNil))) (mCons (mLst (mStar (mV 7) (mCons (mC (.int 1)) mNil))) mNil))))
    (mSeq (mIfS (mB (mBin iLe (mCB fSum (mCons (mLc newF (mItZ (mV 4) (mV 8)) (mgT [11, 12]) mYes (mBin iMul (mV 11) (mV 12)) [11, 12]) mNil)) (mC (.int 0))))
    (mRet (mLst (mStar (mV 8) (mStar (mBin (fRep newF) (mLst (mCons (mC (.int 0)) mNil)) (mBin iSub (mBin iSub (mCB fLen (mCons (mV 2) mNil)) (mV 3)) (mC (.int 1)))) mNil))))
    mNext)
    (mWipe [3, 4, 5, 6, 7, 8] mNext))))))
    (mRet (mC .none))))
theorem pl_fast_for : ∀ ds Q E, sp_fast_for ds Q E → ds.length = 2 := fun ds Q E ⟨v, w, u, e, _⟩ => by rw [e]; rfl
theorem fastR_none {rows : List (List Int)} {N : Nat} (hn : rows.length = N) (h : ∀ k, k < N → 0 < fastVal rows k) : fastR rows = none := by
  unfold fastR
  rw [hn, List.find?_eq_none.mpr fun k hk => by have := h k (by simpa using hk); simp; omega]; rfl
theorem fastR_some {rows : List (List Int)} {N l : Nat} (hn : rows.length = N) (hl : l < N) (h : ∀ k, k < l → 0 < fastVal rows k) (h2 : fastVal rows l ≤ 0) : fastR rows = some (fastNums rows l ++ List.replicate (N - l - 1) 0) := by
  unfold fastR
  rw [hn]
  have e : (List.range N).find? (fun l => decide (fastVal rows l ≤ 0)) = some l := by
    rw [List.find?_range_eq_some]
    refine ⟨by simpa using h2, by simpa using hl, fun j hj => ?_⟩
    have := h j hj
    simp; omega
  rw [e]; rfl
theorem cut_take {α : Type} (f : α → PyData) (xs : List α) {l : Nat} (h : l ≤ xs.length) : cut (xs.map f) none (some (l : Int)) = (xs.take l).map f := by
  rw [cut_map, cut_to _ (by omega) (by omega), Int.toNat_natCast]
theorem pure_fast_for : ∀ ds Q E, sp_fast_for ds Q E → m_fast_for (endsP Q E) (stE 13 (ds.map .p)) [] := by
  rintro ds Q E ⟨ms, T, B, rfl, t, ro, h⟩
  have sm : ∀ n, n ≤ 100 → n ≤ small := fun n h => Nat.le_trans h (by decide)
  have RI := rows_in t ro
  unfold m_fast_for
  walk_at "fd"
  refine ⟨_, rfl, ms, T, B, rfl, t, ro, ?_⟩
  generalize rowsOf ms T B = rows at RI h ⊢
  generalize ms.length - 1 = N at RI ⊢
  have hN := RI.most
  unfold mFor
  walk_at "fd"
  refine ⟨_, _, rfl, fun i ρ S => ρ = [some (.p (intsD ms)), some (.p (rateD T B)), some (.p (rowsD rows)), none, none, none, none, none, none, none, none, none, none] ∧ S = [] ∧ ∀ k, k < i → 0 < fastVal rows k, ⟨rfl, rfl, by omega⟩, ?_, ?_, fun _ _ _ _ => trivial⟩
  · rintro l it ρ S hit ⟨rfl, rfl, hv⟩
    obtain ⟨here, hh, rfl⟩ := enumW_getG hit
    have hl : l < N := by have := (List.getElem?_eq_some_iff.mp hh).1; rw [RI.len] at this; exact this
    have eh : rows.getD l [] = here := by rw [List.getD_eq_getElem?_getD, hh]; rfl
    have FA := fast_at RI.len RI.lens RI.sz (by omega) hl (fast_pre RI.len RI.lens RI.sz (by omega) l (by omega) hv)
    walk_at "fd"
    have bl : bd 1001 l ≤ 2052095 := bd12 (by omega)
    have bl2 : (l + 1) * bd 1001 l ≤ 11 * 2052095 := Nat.mul_le_mul (by omega) bl
    refine ⟨_, rfl, ?_⟩
    rw [cut_take _ _ (by rw [RI.len]; omega)]
    have ltk : (rows.take l).length = l := by rw [List.length_take, RI.len]; omega
    refine ⟨by rw [List.length_map, ltk]; exact sm _ (by omega), _, _, rfl, lc_mapG (fun r : List Int => intsD r) (fun r => intsD (r.take l ++ [0 - at0 r l])) (sm _ (by omega)) (fun r hr Y Z hY => ?_) ?_⟩
    · unfold stepLc
      walk_at "fd"
      have hr2 := RI.lens r (List.mem_of_mem_take hr)
      refine ⟨_, rfl, ?_⟩
      rw [cut_take _ _ (by omega)]
      refine ⟨by rw [List.length_map, List.length_take]; exact sm _ (by omega), _, .inl rfl, fIx_at rfl (at_int (by omega)) ?_⟩
      walk_at "fd"
      refine ⟨_, unp_apps _ rfl, ?_, _, rfl, ?_⟩
      · rw [List.length_append, List.length_map, List.length_take]
        exact sm _ (show _ + 1 ≤ 100 by omega)
      · rw [intsD, List.map_append] at hY
        exact hY
    · refine ⟨by rw [List.length_map, ltk]; exact sm _ (by omega), _, rfl, fastRows rows l, l, l + 1, 1001, ?_, fastRows_lens RI.len RI.lens hl, fastRows_sz RI.len RI.lens RI.sz hl, Nat.le_trans bl (by decide), by omega, by omega, by rw [fastRows_len RI.len hl]; omega, ?_⟩
      · simp [fastRows, rowsD, List.map_map, Function.comp_def]
      · have ed : redRows (fastRows rows l) l = fastDone rows l := rfl
        rw [ed]
        walk_at "fd"
        have dl := FA.len
        refine ⟨_, _, rfl, lc_mapG (fun r : List Int => intsD r) (fun r => .int (at0 r l)) (sm _ (by omega)) (fun r hr Y Z hY => ?_) ?_⟩
        · unfold stepLc
          walk_at "fd"
          refine fIx_at rfl (at_int (by rw [FA.lens r hr]; omega)) ?_
          exact ⟨_, rfl, hY⟩
        · refine ⟨by rw [List.length_map]; exact sm _ (by omega), _, _, rfl, lc_enumG (fun r : List Int => intsD r) (fun i r => .int (at0 r i)) (sm _ (by omega)) (fun i r hi Y Z hY => ?_) ?_⟩
          · unfold stepLc
            walk_at "fd"
            have hi2 := (List.getElem?_eq_some_iff.mp hi).1
            refine fIx_at rfl (at_int (by rw [FA.lens r (List.mem_of_getElem? hi)]; omega)) ?_
            exact ⟨_, rfl, hY⟩
          · refine ⟨by rw [List.length_mapIdx]; exact sm _ (by omega), ?_⟩
            refine ⟨_, _, rfl, _, .inl rfl, _, unp_apps _ rfl, ?_, _, .inl rfl, _, unp_apps _ rfl, ?_, _, rfl, (fastDone rows l).map (at0 · l) ++ [1], (fastDone rows l).mapIdx (fun i r => at0 r i) ++ [1], bd 1001 l, ?_, by simp, ?_, FA.bots, one_sz (tops_sz FA.sz) (Nat.le_trans (by omega) (bd_ge 1001 l)), one_sz (bots_sz FA.sz) (Nat.le_trans (by omega) (bd_ge 1001 l)), ?_, ?_⟩
            · rw [List.length_append, List.length_map]
              exact sm _ (show _ + 1 ≤ 100 by omega)
            · rw [List.length_append, List.length_mapIdx]
              exact sm _ (show _ + 1 ≤ 100 by omega)
            · simp [List.map_map, Function.comp_def, map_mapIdxE]
            · rw [List.length_append, List.length_mapIdx]
              exact (show _ + 1 ≤ 100 by omega)
            · rw [List.length_append, List.length_mapIdx, dl]
              show 1 + bd 1001 l + (l + 1) * bd 1001 l < _
              omega
            · have en : twN ((fastDone rows l).map (at0 · l) ++ [1]) ((fastDone rows l).mapIdx (fun i r => at0 r i) ++ [1]) = fastNums rows l := rfl
              rw [en]
              walk_at "fd"
              have hln : here.length = N := RI.lens here (List.mem_of_getElem? hh)
              have nl := FA.nlen
              refine ⟨_, _, _, _, rfl, rfl, lc_zipG PyData.int PyData.int (fun x y => .int (x * y)) (sm _ (by omega)) (fun x y hxy Y Z hY => ?_) ?_⟩
              · unfold stepLc
                obtain ⟨h1, h2⟩ := List.of_mem_zip hxy
                walk_at "fd"
                exact ⟨cmul_of (RI.sz here (List.mem_of_getElem? hh) x h1) (FA.nsz y h2) (by omega), _, rfl, hY⟩
              · refine ⟨by rw [List.length_zipWith]; exact sm _ (by omega), _, List.zipWith (fun x y => x * y) here (fastNums rows l), rfl, ?_, ?_⟩
                · rw [intsD, List.map_zipWith]
                · have ev : (List.zipWith (fun x y => x * y) here (fastNums rows l)).sum = fastVal rows l := by unfold fastVal; rw [eh]
                  rw [ev]
                  by_cases hz : fastVal rows l ≤ 0
                  · rw [decide_eq_true hz]
                    walk_at "fd"
                    rw [fastR_some RI.len hl hv hz] at h
                    have ek : ((rows.map fun r => intsD r).length : Int) - l - 1 = ((N - l - 1 : Nat) : Int) := by rw [List.length_map, RI.len]; omega
                    have er : (List.replicate (N - l - 1) [PyData.int 0]).flatten = (List.replicate (N - l - 1) (0 : Int)).map .int := by rw [List.flatten_replicate_singleton, List.map_replicate]
                    refine ⟨_, .inl rfl, _, rfl, show 1 ≤ 1000000 by decide, _, _, rfl, .inl rfl, _, _, rfl, rfl, by omega, by omega, ?_⟩
                    rw [ek, Int.toNat_natCast, er]
                    refine ⟨by rw [List.length_map, List.length_replicate]; exact sm _ (by omega), _, .inl rfl, _, unp_apps _ (unp_map _), ?_, ?_⟩
                    · rw [List.length_append, List.length_map, List.length_map, List.length_replicate]
                      exact sm _ (by omega)
                    · rw [← List.map_append]
                      exact h
                  · rw [decide_eq_false hz]
                    walk_at "fd"
                    intro k hk
                    by_cases e : k = l
                    · subst e; omega
                    · exact hv k (by omega)
  · rintro ρ S ⟨rfl, rfl, hv⟩
    rw [enumW_lenG, RI.len] at hv
    walk_at "fd"
    rw [fastR_none RI.len hv] at h
    exact h
theorem isI_ex {v : PyData} {lo hi : Option Int} (h : isI v lo hi = true) : ∃ i, v = .int i ∧ (∀ l, lo = some l → l ≤ i) ∧ ∀ u, hi = some u → i ≤ u := by
  cases v with
  | int i =>
    refine ⟨i, rfl, ?_, ?_⟩
    · rintro l rfl
      simp only [isI, Bool.and_eq_true, decide_eq_true_eq] at h
      exact h.1
    · rintro u rfl
      simp only [isI, Bool.and_eq_true, decide_eq_true_eq] at h
      exact h.2
  | _ => simp [isI] at h
/-- the whole numbers of a list -/
def intsOf : List PyData → Option (List Int)
  | [] => some []
  | .int i :: ds => (intsOf ds).map (i :: ·)
  | _ :: _ => none
theorem intsOf_ints : ∀ ns : List Int, intsOf (ns.map .int) = some ns
  | [] => rfl
  | n :: ns => by
    show (intsOf (ns.map .int)).map (n :: ·) = _
    rw [intsOf_ints ns]; rfl
theorem all_isI {lo hi : Option Int} : ∀ {ds : List PyData}, ds.all (fun d => isI d lo hi) = true → ∃ ns : List Int, ds = ns.map .int ∧ ∀ n ∈ ns, isI (.int n) lo hi = true
  | [], _ => ⟨[], rfl, by simp⟩
  | d :: ds, h => by
    rw [List.all_cons, Bool.and_eq_true] at h
    obtain ⟨ns, rfl, h2⟩ := all_isI h.2
    obtain ⟨i, rfl, _⟩ := isI_ex h.1
    exact ⟨i :: ns, rfl, fun n hn => by
      rcases List.mem_cons.mp hn with rfl | hn
      · exact h.1
      · exact h2 n hn⟩
theorem isTab_ex {v : PyData} (h : isTab v = true) : ∃ ms, v = intsD ms ∧ tabI ms := by
  cases v with
  | list xs =>
    simp only [isTab, Bool.and_eq_true, decide_eq_true_eq] at h
    obtain ⟨⟨h1, h2⟩, h3⟩ := h
    obtain ⟨ns, rfl, h4⟩ := all_isI h3
    rw [List.length_map] at h1 h2 h4
    refine ⟨ns, rfl, h1, h2, fun m hm => ?_⟩
    have := h4 m hm
    simp only [isI, Bool.and_eq_true, decide_eq_true_eq] at this
    exact this
  | _ => simp [isTab] at h
theorem isTab_of {ms : List Int} (t : tabI ms) : isTab (intsD ms) = true := by
  simp only [isTab, List.length_map, Bool.and_eq_true, decide_eq_true_eq, List.all_map, List.all_eq_true]
  refine ⟨⟨t.1, t.2.1⟩, fun m hm => ?_⟩
  have := t.2.2 m hm
  simp [isI, this]
theorem isRate_ex {v : PyData} (h : isRate v = true) : ∃ T B, v = rateD T B ∧ 1 ≤ T ∧ 1 ≤ B := by
  unfold isRate at h
  split at h
  · rw [Bool.and_eq_true] at h
    obtain ⟨T, rfl, h1, _⟩ := isI_ex h.1
    obtain ⟨B, rfl, h2, _⟩ := isI_ex h.2
    exact ⟨T, B, rfl, h1 1 rfl, h2 1 rfl⟩
  · cases h
theorem isRate_of {T B : Int} (h1 : 1 ≤ T) (h2 : 1 ≤ B) : isRate (rateD T B) = true := by simp [isRate, isI, h1, h2]
/-- moves and a rate: what is raised, what is told of right ones -/
def goodMR (ad : Str → Addr) (v r : PyData) (E : Addr → Prop) (k : List Int → Int → Int → Prop) : Prop := shortD v ∧ (isTab v = false → E (ad "InvalidMoves")) ∧ (isTab v = true → isRate r = false → E (ad "InvalidRate")) ∧ ∀ ms T B, v = intsD ms → r = rateD T B → tabI ms → 1 ≤ T → 1 ≤ B → rateOk T B ∧ k ms T B
theorem goodMR.of {ad : Str → Addr} {ms : List Int} {T B : Int} {E : Addr → Prop} {k : List Int → Int → Int → Prop} (t : tabI ms) (r : rateOk T B) (h : k ms T B) : goodMR ad (intsD ms) (rateD T B) E k := by
  refine ⟨by simp only [shortD, List.length_map]; have := t.2.1; exact Nat.le_trans this (by decide), fun q => ?_, fun _ q => ?_, fun ms' T' B' e1 e2 _ _ _ => ?_⟩
  · rw [isTab_of t] at q; cases q
  · rw [isRate_of r.1 r.2.1] at q; cases q
  · have e3 : ms = ms' := by
      have : (ms.map PyData.int) = ms'.map PyData.int := by injection e1
      exact (List.map_inj_right (fun a b h => by injection h)).mp this
    injection e2 with e4
    injection e4 with e5 e6
    injection e6 with e7
    injection e5 with e5
    injection e7 with e7
    subst e3; subst e5; subst e7
    exact ⟨r, h⟩
theorem goodMR.run {ad : Str → Addr} {v r : PyData} {Q : Prop} {E : Addr → Prop} {k : List Int → Int → Int → Prop} (g : goodMR ad v r E k) (h : ∀ ms T B, v = intsD ms → r = rateD T B → tabI ms → rateOk T B → k ms T B → Q) :
    sp_need_moves ad [v] (fun _ => sp_need_rate ad [r] (fun _ => Q) E) E := by
  obtain ⟨h1, h2, h3, h4⟩ := g
  refine ⟨v, rfl, h1, fun ht => ⟨r, rfl, fun hr => ?_, h3 ht⟩, h2⟩
  obtain ⟨ms, rfl, t⟩ := isTab_ex ht
  obtain ⟨T, B, rfl, b1, b2⟩ := isRate_ex hr
  obtain ⟨ro, hk⟩ := h4 ms T B rfl rfl t b1 b2
  exact h ms T B rfl rfl t ro hk
def sp_fast_paper (ad : Str → Addr) : PSp := fun ds Q E => ∃ v r, ds = [v, r] ∧ goodMR ad v r E fun ms T B => Q (optD (fastR (rowsOf ms T B)))
def m_fast_paper (ad : Str → Addr) : MS := (mSeq (mDrop (mCallP (sp_need_moves ad) [] (mCons (mV 0) mNil)))
    (mSeq (mDrop (mCallP (sp_need_rate ad) [] (mCons (mV 1) mNil)))
    (mRet (mCallP sp_fast_for [] (mCons (mV 0) (mCons (mV 1) mNil))))))
theorem pl_fast_paper {ad : Str → Addr} : ∀ ds Q E, sp_fast_paper ad ds Q E → ds.length = 2 := fun ds Q E ⟨v, w, e, _⟩ => by rw [e]; rfl
theorem pure_fast_paper {ad : Str → Addr} : ∀ ds Q E, sp_fast_paper ad ds Q E → m_fast_paper ad (endsP Q E) (stE 2 (ds.map .p)) [] := by
  rintro ds Q E ⟨v, r, rfl, g⟩
  unfold m_fast_paper
  walk_at "fd"
  refine ⟨_, rfl, ?_⟩
  have key : ∀ P : Prop, (∀ ms T B, v = intsD ms → r = rateD T B → tabI ms → rateOk T B → Q (optD (fastR (rowsOf ms T B))) → P) → sp_need_moves ad [v] (fun _ => ∃ ds, some [r] = some ds ∧ sp_need_rate ad ds (fun _ => P) E) E := fun P h => by
    obtain ⟨v', e, h1, h2, h3⟩ := g.run h
    cases e
    exact ⟨v, rfl, h1, fun q => ⟨_, rfl, h2 q⟩, h3⟩
  refine key _ fun ms T B e1 e2 t ro h => ?_
  subst e1; subst e2
  exact ⟨_, rfl, ms, T, B, rfl, t, ro, h⟩
def sp_slow_paper (ad : Str → Addr) : PSp := fun ds Q E => ∃ v r, ds = [v, r] ∧ goodMR ad v r E fun ms T B => Q (optD (slowR (rowsOf ms T B)))
def m_slow_paper (ad : Str → Addr) : MS := (mSeq (mDrop (mCallP (sp_need_moves ad) [] (mCons (mV 0) mNil)))
    (mSeq (mDrop (mCallP (sp_need_rate ad) [] (mCons (mV 1) mNil)))
    (mRet (mCallP sp_slow_for [] (mCons (mV 0) (mCons (mV 1) mNil))))))
theorem pl_slow_paper {ad : Str → Addr} : ∀ ds Q E, sp_slow_paper ad ds Q E → ds.length = 2 := fun ds Q E ⟨v, w, e, _⟩ => by rw [e]; rfl
theorem pure_slow_paper {ad : Str → Addr} : ∀ ds Q E, sp_slow_paper ad ds Q E → m_slow_paper ad (endsP Q E) (stE 2 (ds.map .p)) [] := by
  rintro ds Q E ⟨v, r, rfl, g⟩
  unfold m_slow_paper
  walk_at "fd"
  refine ⟨_, rfl, ?_⟩
  have key : ∀ P : Prop, (∀ ms T B, v = intsD ms → r = rateD T B → tabI ms → rateOk T B → Q (optD (slowR (rowsOf ms T B))) → P) → sp_need_moves ad [v] (fun _ => ∃ ds, some [r] = some ds ∧ sp_need_rate ad ds (fun _ => P) E) E := fun P h => by
    obtain ⟨v', e, h1, h2, h3⟩ := g.run h
    cases e
    exact ⟨v, rfl, h1, fun q => ⟨_, rfl, h2 q⟩, h3⟩
  refine key _ fun ms T B e1 e2 t ro h => ?_
  subst e1; subst e2
  exact ⟨_, rfl, ms, T, B, rfl, t, ro, h⟩
theorem goodMR.both {ad : Str → Addr} {v r : PyData} {E : Addr → Prop} {k : List Int → Int → Int → Prop} (g : goodMR ad v r E k) (P : Prop) (h : ∀ ms T B, v = intsD ms → r = rateD T B → tabI ms → rateOk T B → k ms T B → P) :
    sp_need_moves ad [v] (fun _ => ∃ ds, some [r] = some ds ∧ sp_need_rate ad ds (fun _ => P) E) E := by
  obtain ⟨v', e, h1, h2, h3⟩ := g.run h
  cases e
  exact ⟨v, rfl, h1, fun q => ⟨_, rfl, h2 q⟩, h3⟩
/-- a list of whole numbers from a least one on, of a length -/
def papL (val : PyData) (least : Int) (n : Nat) : Option (List Int) := match val with
  | .list ds => match intsOf ds with
    | some ws => if ws.all (fun w => decide (least ≤ w)) && decide (ws.length = n) then some ws else none
    | none => none
  | _ => none
def isFastP (ms : List Int) (T B : Int) (val : PyData) : Bool := match papL val 0 (ms.length - 1) with
  | some ws => ws.any (fun w => decide (0 < w)) && holdsF ms T B ws
  | none => false
theorem intsOf_ex : ∀ {ds : List PyData} {ws : List Int}, intsOf ds = some ws → ds = ws.map .int
  | [], ws, h => by cases h; rfl
  | d :: ds, ws, h => by
    cases d with
    | int i =>
      have h' : (intsOf ds).map (i :: ·) = some ws := h
      cases q : intsOf ds with
      | none => rw [q] at h'; cases h'
      | some us =>
        rw [q] at h'
        cases h'
        rw [intsOf_ex q]; rfl
    | _ => cases h
theorem papL_ex {val : PyData} {least : Int} {n : Nat} {ws : List Int} (h : papL val least n = some ws) : val = intsD ws ∧ (∀ w ∈ ws, least ≤ w) ∧ ws.length = n := by
  unfold papL at h
  split at h
  · split at h
    · rename_i q
      split at h
      · rename_i h2
        cases h
        rw [Bool.and_eq_true, decide_eq_true_eq, List.all_eq_true] at h2
        exact ⟨by rw [intsOf_ex q], fun w hw => by simpa using h2.1 w hw, h2.2⟩
      · cases h
    · cases h
  · cases h
theorem papL_of {ws : List Int} {least : Int} {n : Nat} (h1 : ∀ w ∈ ws, least ≤ w) (h2 : ws.length = n) : papL (intsD ws) least n = some ws := by
  unfold papL
  simp only [intsOf_ints]
  rw [if_pos (by rw [Bool.and_eq_true, decide_eq_true_eq, List.all_eq_true]; exact ⟨fun w hw => by simpa using h1 w hw, h2⟩)]
theorem areI_pap {val : PyData} {least : Int} (h : areI val (some least) none = true) : ∃ ws, val = intsD ws ∧ ∀ w ∈ ws, least ≤ w := by
  cases val with
  | list xs =>
    simp only [areI] at h
    obtain ⟨ns, rfl, h2⟩ := all_isI h
    refine ⟨ns, rfl, fun w hw => ?_⟩
    have := h2 w hw
    simpa [isI] using this
  | _ => simp [areI] at h
theorem areI_of {ws : List Int} {least : Int} (h : ∀ w ∈ ws, least ≤ w) : areI (intsD ws) (some least) none = true := by
  simp only [areI, List.all_map, List.all_eq_true]
  intro w hw
  simp [isI, h w hw]
theorem papL_areI {val : PyData} {least : Int} {n : Nat} (h : areI val (some least) none = false) : papL val least n = none := by
  cases q : papL val least n with
  | none => rfl
  | some ws =>
    obtain ⟨rfl, h1, _⟩ := papL_ex q
    rw [areI_of h1] at h; cases h
theorem papL_len {ws : List Int} {least : Int} {n : Nat} (h : ws.length ≠ n) : papL (intsD ws) least n = none := by
  cases q : papL (intsD ws) least n with
  | none => rfl
  | some us =>
    obtain ⟨e, _, h2⟩ := papL_ex q
    have : ws = us := by
      have : (ws.map PyData.int) = us.map PyData.int := by injection e
      exact (List.map_inj_right (fun a b h => by injection h)).mp this
    subst this
    exact absurd h2 h
def valOk (val : PyData) : Prop := shortD val ∧ ∀ ws, val = intsD ws → szL bitsP ws
def sp_is_fast_paper (ad : Str → Addr) : PSp := fun ds Q E => ∃ v r val, ds = [v, r, val] ∧ goodMR ad v r E fun ms T B => valOk val ∧ Q (.bool (isFastP ms T B val))
def m_is_fast_paper (ad : Str → Addr) : MS := (mSeq (mDrop (mCallP (sp_need_moves ad) [] (mCons (mV 0) mNil)))
    (mSeq (mDrop (mCallP (sp_need_rate ad) [] (mCons (mV 1) mNil)))
    (mSeq (mIfS (mOrT (mNotT (mB (mCallP sp_are_integers [.none] (mCons (mV 2) (mCons (mC (.int 0)) mNil))))) (mB (mBin iNe (mCB fLen (mCons (mV 2) mNil)) (mBin iSub (mCB fLen (mCons (mV 0) mNil)) (mC (.int 1))))))
    (mRet (mC (.bool false)))
    mNext)
    (mRet (mAndV (mCB fAny (mCons (mLc newF (mItL (mV 2)) (mgN 3) mYes (mBin iGt (mV 3) (mC (.int 0))) [3]) mNil)) (mCallP sp_holds_fast [] (mCons (mV 0) (mCons (mV 1) (mCons (mV 2) mNil)))))))))
theorem pl_is_fast_paper {ad : Str → Addr} : ∀ ds Q E, sp_is_fast_paper ad ds Q E → ds.length = 3 := fun ds Q E ⟨v, w, u, e, _⟩ => by rw [e]; rfl
theorem pure_is_fast_paper {ad : Str → Addr} : ∀ ds Q E, sp_is_fast_paper ad ds Q E → m_is_fast_paper ad (endsP Q E) (stE 4 (ds.map .p)) [] := by
  rintro ds Q E ⟨v, r, val, rfl, g⟩
  unfold m_is_fast_paper
  walk_at "fd"
  refine ⟨_, rfl, g.both _ fun ms T B e1 e2 t ro ⟨⟨sh, sz⟩, h⟩ => ?_⟩
  subst e1; subst e2
  have sm : ∀ n, n ≤ 100 → n ≤ small := fun n h => Nat.le_trans h (by decide)
  have l1 := t.1
  have l2 := t.2.1
  refine ⟨_, rfl, val, some 0, none, rfl, sh, ?_⟩
  walk_at "fd"
  cases ha : areI val (some 0) none with
  | false =>
    walk_at "fd"
    rw [show isFastP ms T B val = false by unfold isFastP; rw [papL_areI ha]] at h
    exact h
  | true =>
    walk_at "fd"
    obtain ⟨ws, rfl, hw⟩ := areI_pap ha
    refine ⟨_, _, rfl, .inl rfl, _, _, rfl, .inl rfl, ?_⟩
    rw [List.length_map, List.length_map]
    by_cases hl : ws.length = ms.length - 1
    · have e1 : decide ((ws.length : Int) = (ms.length : Int) - 1) = true := decide_eq_true (by omega)
      rw [e1]
      walk_at "fd"
      rw [show isFastP ms T B (intsD ws) = (ws.any (fun w => decide (0 < w)) && holdsF ms T B ws) by unfold isFastP; rw [papL_of hw hl]] at h
      refine ⟨_, _, rfl, lc_mapG PyData.int (fun w => .bool (decide (0 < w))) (sm _ (by omega)) (fun w hw Y Z hY => ?_) ?_⟩
      · unfold stepLc
        walk_at "fd"
        exact ⟨_, rfl, hY⟩
      · refine ⟨by rw [List.length_map]; exact sm _ (by omega), _, ws.map (fun w => decide (0 < w)), rfl, by simp [List.map_map, Function.comp_def], ?_⟩
        rw [show (ws.map fun w => decide (0 < w)).any id = ws.any fun w => decide (0 < w) by rw [List.any_map]; rfl]
        cases q : ws.any fun w => decide (0 < w) with
        | false =>
          rw [q] at h
          walk_at "fd"
          exact h
        | true =>
          rw [q] at h
          walk_at "fd"
          exact ⟨_, rfl, ms, T, B, ws, rfl, t, ro, hl, sz ws rfl, h⟩
    · have e1 : decide ((ws.length : Int) = (ms.length : Int) - 1) = false := decide_eq_false (by omega)
      rw [e1]
      walk_at "fd"
      rw [show isFastP ms T B (intsD ws) = false by unfold isFastP; rw [papL_len hl]] at h
      exact h
def holdsS (ms : List Int) (T B : Int) (ws : List Int) : Bool := (List.zipWith (fun w s => decide (B * s < T * w)) ws (oneB ms ws)).all id
def isSlowP (ms : List Int) (T B : Int) (val : PyData) : Bool := match papL val 1 (ms.length - 1) with
  | some ws => holdsS ms T B ws
  | none => false
def sp_is_slow_paper (ad : Str → Addr) : PSp := fun ds Q E => ∃ v r val, ds = [v, r, val] ∧ goodMR ad v r E fun ms T B => valOk val ∧ Q (.bool (isSlowP ms T B val))
def m_is_slow_paper (ad : Str → Addr) : MS := (mSeq (mDrop (mCallP (sp_need_moves ad) [] (mCons (mV 0) mNil)))
    (mSeq (mDrop (mCallP (sp_need_rate ad) [] (mCons (mV 1) mNil)))
    (mSeq (mIfS (mOrT (mNotT (mB (mCallP sp_are_integers [.none] (mCons (mV 2) (mCons (mC (.int 1)) mNil))))) (mB (mBin iNe (mCB fLen (mCons (mV 2) mNil)) (mBin iSub (mCB fLen (mCons (mV 0) mNil)) (mC (.int 1))))))
    (mRet (mC (.bool false)))
    mNext)
    (mSeq (mSet 3 (mCallP sp_one_before [] (mCons (mV 0) (mCons (mV 2) mNil))))
    (mRet (mCB fAll (mCons (mLc newF (mItZ (mV 2) (mV 3)) (mgT [4, 5]) mYes (mBin iLt (mBin iMul (mBin fIx (mV 1) (mC (.int 1))) (mV 5)) (mBin iMul (mBin fIx (mV 1) (mC (.int 0))) (mV 4))) [4, 5]) mNil)))))))
theorem pl_is_slow_paper {ad : Str → Addr} : ∀ ds Q E, sp_is_slow_paper ad ds Q E → ds.length = 3 := fun ds Q E ⟨v, w, u, e, _⟩ => by rw [e]; rfl
theorem pure_is_slow_paper {ad : Str → Addr} : ∀ ds Q E, sp_is_slow_paper ad ds Q E → m_is_slow_paper ad (endsP Q E) (stE 6 (ds.map .p)) [] := by
  rintro ds Q E ⟨v, r, val, rfl, g⟩
  unfold m_is_slow_paper
  walk_at "fd"
  refine ⟨_, rfl, g.both _ fun ms T B e1 e2 t ro hx => ?_⟩
  obtain ⟨⟨sh, sz⟩, h⟩ := hx
  subst e1; subst e2
  have sm : ∀ n, n ≤ 100 → n ≤ small := fun n h => Nat.le_trans h (by decide)
  have l1 := t.1
  have l2 := t.2.1
  refine ⟨_, rfl, val, some 1, none, rfl, sh, ?_⟩
  walk_at "fd"
  cases ha : areI val (some 1) none with
  | false =>
    walk_at "fd"
    rw [show isSlowP ms T B val = false by unfold isSlowP; rw [papL_areI ha]] at h
    exact h
  | true =>
    walk_at "fd"
    obtain ⟨ws, rfl, hw⟩ := areI_pap ha
    have sz := sz ws rfl
    refine ⟨_, _, rfl, .inl rfl, _, _, rfl, .inl rfl, ?_⟩
    rw [List.length_map, List.length_map]
    by_cases hl : ws.length = ms.length - 1
    · have e1 : decide ((ws.length : Int) = (ms.length : Int) - 1) = true := decide_eq_true (by omega)
      rw [e1]
      walk_at "fd"
      rw [show isSlowP ms T B (intsD ws) = holdsS ms T B ws by unfold isSlowP; rw [papL_of hw hl]] at h
      refine ⟨_, rfl, ms, ws, rfl, t, hl, ?_⟩
      walk_at "fd"
      have hl2 : (oneB ms ws).length = ws.length := by simp [oneB, hl]
      refine ⟨_, _, _, _, rfl, rfl, lc_zipG PyData.int PyData.int (fun w s => .bool (decide (B * s < T * w))) (sm _ (by omega)) (fun w s hws Y Z hY => ?_) ?_⟩
      · unfold stepLc
        obtain ⟨h1, h2⟩ := List.of_mem_zip hws
        walk_at "fd"
        refine fIx_tup (d := .int B) rfl (atI_nat (j := 1) rfl) ?_
        walk_at "fd"
        refine ⟨cmul_of ro.2.2.2 (oneB_sz sz (by omega) s h2) (by decide), fIx_tup (d := .int T) rfl (atI_nat (j := 0) rfl) ?_⟩
        walk_at "fd"
        exact ⟨cmul_of ro.2.2.1 (sz w h1) (by decide), _, rfl, hY⟩
      · refine ⟨by rw [List.length_zipWith]; exact sm _ (by omega), _, List.zipWith (fun w s => decide (B * s < T * w)) ws (oneB ms ws), rfl, ?_, h⟩
        rw [boolsD, List.map_zipWith]
    · have e1 : decide ((ws.length : Int) = (ms.length : Int) - 1) = false := decide_eq_false (by omega)
      rw [e1]
      walk_at "fd"
      rw [show isSlowP ms T B (intsD ws) = false by unfold isSlowP; rw [papL_len hl]] at h
      exact h
/-- the draws of a cell: digits, a number to stir, a counter of at most n -/
def Well (n : Nat) (w : List PyData) : Prop := ∃ a b c : Int, w = [.int a, .int b, .int c] ∧ 0 ≤ a ∧ 0 ≤ b ∧ b < 2 ^ 110 ∧ 0 ≤ c ∧ c ≤ n
theorem Well.mono {m n : Nat} {w : List PyData} (h : Well m w) (hm : m ≤ n) : Well n w := by
  obtain ⟨a, b, c, e, h1, h2, h3, h4, h5⟩ := h
  exact ⟨a, b, c, e, h1, h2, h3, h4, by omega⟩
def sp__law_well : SLSp := fun ds0 ds Q _ => ∃ (ns : List Int) (k : Nat), ds0 = ns.map .int ∧ ds = [.int k] ∧ k ≤ 1000 ∧ ∀ w, Well 0 w → Q w
def m__law_well : MS := (mSeq (mSet 2 (mIf (mB (mBin iLt (mV 1) (mCB fLen (mCons (mV 0) mNil)))) (mBin fIx (mV 0) (mV 1)) (mC (.int 0))))
    (mRet (mLstO (mCons (mCB fMax2 (mCons (mC (.int 0)) (mCons (mBin iSub (mV 2) (mBin iPow (mC (.int 10)) (mC (.int 18)))) mNil))) (mCons (mBin iAdd (mBin iAdd (mBin iMod (mCB fInt (mCons (mCB fAbs (mCons (mV 2) mNil)) mNil)) (mBin iAdd (mBin iPow (mC (.int 10)) (mC (.int 31))) (mC (.int 33)))) (mBin iMul (mC (.int 7368787)) (mV 1))) (mC (.int 409))) (mCons (mC (.int 0)) mNil))))))
theorem pl__law_well : ∀ ds0 ds Q E, sp__law_well ds0 ds Q E → ds.length + 1 = 2 := fun ds0 ds Q E ⟨v, w, _, e, _⟩ => by rw [e]; rfl
theorem pure__law_well : ∀ ds0 ds Q E, sp__law_well ds0 ds Q E → m__law_well (endsL Q E) (stE 3 (.s ds0 :: ds.map .p)) [] := by
  rintro ds0 ds Q E ⟨ns, k, rfl, rfl, hk, h⟩
  unfold m__law_well
  walk_at "fd"
  refine ⟨_, _, rfl, .inl rfl, ?_⟩
  have e18 : (10 : Int) ^ Int.toNat 18 = 1000000000000000000 := by decide
  have e31 : (10 : Int) ^ Int.toNat 31 = 10000000000000000000000000000000 := by decide
  have p18 : CPowA 10 18 := cpow_of (A := 4) (by decide) (by decide) (by decide)
  have p31 : CPowA 10 31 := cpow_of (A := 4) (by decide) (by decide) (by decide)
  have cm : CMulA 7368787 (k : Int) := cmul_of (A := 40) (B := 40) (by decide) (by rw [Int.natAbs_natCast]; omega) (by decide)
  rw [e18, e31]
  have wl : ∀ x : Int, Well 0 [.int (max 0 (x - 1000000000000000000)), .int ((if x < 0 then -x else x) % (10000000000000000000000000000000 + 33) + 7368787 * k + 409), .int 0] := fun x => by
    refine ⟨_, _, _, rfl, by omega, ?_, ?_, by omega, by omega⟩
    · have := Int.emod_nonneg (if x < 0 then -x else x) (show (10000000000000000000000000000000 + 33 : Int) ≠ 0 by decide)
      omega
    · have := Int.emod_lt_of_pos (if x < 0 then -x else x) (show (0 : Int) < 10000000000000000000000000000000 + 33 by decide)
      omega
  by_cases hl : k < ns.length
  · rw [if_pos (by simpa using hl)]
    refine ⟨_, _, _, .inl rfl, rfl, atI_map PyData.int (List.getElem?_eq_getElem hl), ?_⟩
    walk_at "fd"
    exact ⟨p18, _, _, rfl, _, rfl, _, rfl, p31, by decide, cm, _, rfl, show 3 ≤ 1000000 by decide, h _ (wl _)⟩
  · rw [if_neg (by simpa using hl)]
    exact ⟨p18, _, _, rfl, _, rfl, _, rfl, p31, by decide, cm, _, rfl, show 3 ≤ 1000000 by decide, h _ (wl 0)⟩
def sp__law_pick : CSp := fun c ds Q _ => ∃ (n : Nat) (w : List PyData) (b : Int), c = .l w ∧ Well n w ∧ n ≤ 1000000 ∧ ds = [.int b] ∧ 1 ≤ b ∧ b < 2 ^ 8000 ∧ ∀ r w', 0 ≤ r → r < b → Well (n + 1) w' → Q (.int r) (.l w')
def m__law_pick : MS := (mSeq (mIfS (mB (mBin iGt (mBin fIx (mV 0) (mC (.int 0))) (mC (.int 0))))
    (mSeq (mSet 2 (mBin iMod (mCB fInt (mCons (mBin fIx (mV 0) (mC (.int 0))) mNil)) (mV 1)))
    (mSeq (mSetIx (mBin iDiv (mBin fIx (mV 0) (mC (.int 0))) (mV 1)) (mV 0) (mC (.int 0)))
    (mRet (mV 2))))
    mNext)
    (mSeq (mSetIx (mBin iAdd (mBin fIx (mV 0) (mC (.int 2))) (mC (.int 1))) (mV 0) (mC (.int 2)))
    (mSeq (mSet 3 (mBin iMod (mCB fInt (mCons (mBin iPow (mBin iAdd (mBin fIx (mV 0) (mC (.int 1))) (mBin iMul (mC (.int 611953)) (mBin fIx (mV 0) (mC (.int 2))))) (mC (.int 5))) mNil)) (mBin iAdd (mBin iPow (mC (.int 10)) (mC (.int 33))) (mC (.int 61)))))
    (mSeq (mSet 3 (mBin iMod (mCB fInt (mCons (mBin iPow (mBin iAdd (mV 3) (mBin iMul (mC (.int 1299827)) (mBin fIx (mV 0) (mC (.int 2))))) (mC (.int 3))) mNil)) (mBin iAdd (mBin iPow (mC (.int 10)) (mC (.int 27))) (mC (.int 103)))))
    (mRet (mBin iMod (mCB fInt (mCons (mBin iDiv (mV 3) (mC (.int 8191))) mNil)) (mV 1)))))))
theorem pl__law_pick : ∀ c ds Q E, sp__law_pick c ds Q E → ds.length + 1 = 2 := fun c ds Q E ⟨v, w, _, _, _, _, e, _⟩ => by rw [e]; rfl
theorem pure__law_pick : ∀ c ds Q E, flat c = true → sp__law_pick c ds Q E → m__law_pick (endsC Q E) (stE 4 (.c 0 :: ds.map .p)) [c] := by
  rintro c ds Q E _ ⟨n, w, b, rfl, ⟨a, s, t, rfl, a0, s0, s1, t0, t1⟩, hn, rfl, b0, b1, h⟩
  unfold m__law_pick
  walk_at "fd"
  refine fIx_at (d := .int a) rfl (atI_nat (j := 0) rfl) ?_
  walk_at "fd"
  by_cases ha : 0 < a
  · rw [if_pos (by simpa using ha)]
    refine fIx_at (d := .int a) rfl (atI_nat (j := 0) rfl) ?_
    refine ⟨_, rfl, by omega, fIx_at (d := .int a) rfl (atI_nat (j := 0) rfl) ?_⟩
    walk_at "fd"
    have lb : b.natAbs.log2 < 9000 := by
      have : b.natAbs < 2 ^ 8000 := by omega
      exact Nat.lt_of_lt_of_le ((Nat.log2_lt (by omega)).mpr this) (by decide)
    refine ⟨⟨by omega, lb⟩, 0, _, 0, _, 0, rfl, rfl, rfl, rfl, rfl, ?_⟩
    walk_at "fd"
    exact h _ _ (Int.emod_nonneg _ (by omega)) (Int.emod_lt_of_pos _ (by omega)) ⟨_, _, _, rfl, Int.ediv_nonneg (by omega) (by omega), s0, s1, t0, by omega⟩
  · rw [if_neg (by simpa using ha)]
    refine fIx_at (d := .int t) rfl (atI_nat (j := 2) rfl) ?_
    walk_at "fd"
    refine ⟨0, _, 2, _, 2, rfl, rfl, rfl, rfl, rfl, ?_⟩
    walk_at "fd"
    refine fIx_at (d := .int s) rfl (atI_nat (j := 1) rfl) (fIx_at (d := .int (t + 1)) rfl (atI_nat (j := 2) rfl) ?_)
    walk_at "fd"
    have c1 : CMulA 611953 (t + 1) := cmul_of (A := 40) (B := 40) (by decide) (by omega) (by decide)
    have c2 : CMulA 1299827 (t + 1) := cmul_of (A := 40) (B := 40) (by decide) (by omega) (by decide)
    have p1 : CPowA (s + 611953 * (t + 1)) 5 := cpow_of (A := 120) (by omega) (by decide) (by decide)
    have m1 := Int.emod_nonneg ((s + 611953 * (t + 1)) ^ Int.toNat 5) (show (10 ^ Int.toNat 33 + 61 : Int) ≠ 0 by decide)
    have m2 := Int.emod_lt_of_pos ((s + 611953 * (t + 1)) ^ Int.toNat 5) (show (0 : Int) < 10 ^ Int.toNat 33 + 61 by decide)
    refine ⟨c1, p1, _, rfl, cpow_of (A := 4) (by decide) (by decide) (by decide), by decide, fIx_at (d := .int (t + 1)) rfl (atI_nat (j := 2) rfl) ?_⟩
    walk_at "fd"
    generalize (s + 611953 * (t + 1)) ^ Int.toNat 5 % (10 ^ Int.toNat 33 + 61) = u at m1 m2 ⊢
    have e33 : (10 : Int) ^ Int.toNat 33 + 61 = 1000000000000000000000000000000061 := by decide
    rw [e33] at m2
    refine ⟨c2, cpow_of (A := 120) (by omega) (by decide) (by decide), _, rfl, cpow_of (A := 4) (by decide) (by decide) (by decide), by decide, ⟨by decide, by decide⟩, _, rfl, by omega, ?_⟩
    exact h _ _ (Int.emod_nonneg _ (by omega)) (Int.emod_lt_of_pos _ (by omega)) ⟨_, _, _, rfl, a0, s0, s1, by omega, by omega⟩
section
variable {g : MG} {mt : MT} {me : ME} {ρw : En} {fin : List PyData → So → Prop} {gd : So → Prop}
/-- draws in a comprehension: each turn draws at most q numbers -/
theorem lc_wells {lo : Int} {k n q : Nat} {w : List PyData} (St : List PyData → So) (P : Nat → PyData → Prop) (hk : k ≤ 1000) (hw : Well n w)
    (hs : ∀ i w', i < k → Well (n + q * i) w' → ∀ (Y : PyData → So → Prop) (Z : So → Prop), (∀ d w2, P i d → Well (n + q * (i + 1)) w2 → Y d (St w2)) → stepLc g mt me ρw (.p (.int (lo + (i : Nat)))) (St w') Y Z)
    (he : ∀ ds w', ds.length = k → (∀ i d, ds[i]? = some d → P i d) → Well (n + q * k) w' → fin ds (St w')) (hgd : ∀ w', gd (St w') := by intros; first | trivial | exact ⟨trivial, trivial⟩) : LcGoal (rangeW lo k) g mt me ρw (St w) fin gd := by
  refine lc_st (by rw [rangeW_len]; exact Nat.le_trans hk (by decide)) (fun i acc S' => acc.length = i ∧ (∀ j d, acc[j]? = some d → P j d) ∧ ∃ w', S' = St w' ∧ Well (n + q * i) w') ⟨rfl, by simp, w, rfl, hw⟩ (fun i it acc S' hi hit hJ => ?_) (fun acc S' hJ => ?_) (fun i acc S' hJ => ?_)
  · obtain ⟨h1, h2, w', rfl, h3⟩ := hJ
    rw [rangeW_len] at hi
    rw [rangeW_get hi] at hit
    cases hit
    refine hs i w' hi h3 _ _ fun d w2 p hw2 => ⟨by simp [h1], fun j e' hj => ?_, w2, rfl, hw2⟩
    by_cases hjl : j < acc.length
    · rw [List.getElem?_append_left hjl] at hj
      exact h2 j e' hj
    · rw [List.getElem?_append_right (by omega)] at hj
      have : j - acc.length = 0 := by
        have := (List.getElem?_eq_some_iff.mp hj).1
        simp at this; omega
      rw [this] at hj
      cases hj
      rw [show j = i by omega]
      exact p
  · obtain ⟨h1, h2, w', rfl, h3⟩ := hJ
    rw [rangeW_len] at h1 h3
    exact he acc w' h1 h2 h3
  · obtain ⟨_, _, w', rfl, _⟩ := hJ
    exact hgd w'
end
theorem ints_of_P {P : Nat → Int → Prop} : ∀ {ds : List PyData}, (∀ i d, ds[i]? = some d → ∃ x, d = .int x ∧ P i x) → ∃ xs : List Int, ds = xs.map .int ∧ ∀ i x, xs[i]? = some x → P i x := by
  intro ds
  induction ds generalizing P with
  | nil => exact fun _ => ⟨[], rfl, by simp⟩
  | cons d ds ih =>
    intro h
    obtain ⟨x, rfl, p⟩ := h 0 d rfl
    obtain ⟨xs, rfl, p2⟩ := ih (P := fun i => P (i + 1)) fun i d hd => h (i + 1) d (by simpa using hd)
    refine ⟨x :: xs, rfl, fun i y hy => ?_⟩
    cases i with
    | zero => cases hy; exact p
    | succ i => exact p2 i y (by simpa using hy)
theorem pop_perm {α : Type} {xs : List α} {i : Nat} (h : i < xs.length) : (xs[i] :: xs.eraseIdx i).Perm xs := by
  have e : xs.take i ++ xs[i] :: xs.drop (i + 1) = xs := by
    have := List.take_append_drop i xs
    rw [List.drop_eq_getElem_cons h] at this
    exact this
  rw [List.eraseIdx_eq_take_drop_succ]
  refine List.Perm.trans List.perm_middle.symm ?_
  rw [e]
theorem lt8000 {b : Int} (h : b < 1000000) : b < 2 ^ 8000 := Int.lt_trans h (by decide +kernel)
def sp__law_mixed : CSp := fun c ds Q _ => ∃ (n : Nat) (w : List PyData) (size : Nat), c = .l w ∧ Well n w ∧ n ≤ 900000 ∧ ds = [.int size] ∧ size ≤ 1000 ∧ ∀ xs w', xs.Perm (upto 0 size) → Well (n + size) w' → Q (intsD xs) (.l w')
def m__law_mixed : MS := (mSeq (mPar 2 3 (mCons (mLrg1 newO (mV 1)) (mCons (mLstO mNil) mNil)))
    (mSeq (mWhile (mB (mBin (fEqD true) (mV 2) (mLst mNil)))
    (mDrop (mBM fApp (mV 3) (mCons (mBM fPopAt (mV 2) (mCons (mCallC sp__law_pick (mCons (mV 0) (mCons (mCB fLen (mCons (mV 2) mNil)) mNil))) mNil)) mNil))))
    (mFrz 3 (mRet (mV 3)))))
theorem pl__law_mixed : ∀ c ds Q E, sp__law_mixed c ds Q E → ds.length + 1 = 2 := fun c ds Q E ⟨v, w, _, _, _, _, e, _⟩ => by rw [e]; rfl
theorem pure__law_mixed : ∀ c ds Q E, flat c = true → sp__law_mixed c ds Q E → m__law_mixed (endsC Q E) (stE 4 (.c 0 :: ds.map .p)) [c] := by
  rintro c ds Q E _ ⟨n, w, size, rfl, hw, hn, rfl, hz, h⟩
  unfold m__law_mixed
  walk_at "fd"
  have lr : (upto 0 size).length = size := by unfold upto; rw [rangeI_len]; omega
  refine ⟨⟨by omega, by omega, by omega, by omega, Nat.le_trans (show _ ≤ 1000 by omega) (by decide)⟩, ?_, _, rfl, Nat.zero_le _, _, _, rfl, ?_⟩
  · rw [List.length_map, rangeI_len]
    exact Nat.le_trans (show _ ≤ 1000 by omega) (by decide)
  unfold mWhile
  walk_at "fd"
  refine ⟨fun m ρ S => ∃ xs ys w', m = ys.length ∧ ρ = [some (.c 0), some (.p (.int size)), some (.c 1), some (.c 2)] ∧ S = [.l w', .l (ys.map .int), .l (xs.map .int)] ∧ (xs ++ ys).Perm (upto 0 size) ∧ xs.length + ys.length = size ∧ Well (n + xs.length) w', ⟨_, [], upto 0 size, w, rfl, rfl, rfl, List.Perm.refl _, (by simpa using lr), (show Well (n + 0) w from hw)⟩, ?_⟩
  rintro m ρ S ⟨xs, ys, w', rfl, rfl, rfl, hp, hl, hw'⟩
  walk_at "fd"
  refine ⟨_, rfl, Nat.zero_le _, intsD ys, intsD [], rfl, rfl, shaped_ints _, shaped_ints [], ?_⟩
  rw [eqv_ints]
  cases ys with
  | nil =>
    simp only [decide_true]
    walk_at "fd"
    rw [List.append_nil] at hp
    refine ⟨2, _, rfl, rfl, ?_⟩
    walk_at "fd"
    have e : xs.length = size := by simpa using hl
    rw [e] at hw'
    exact h xs w' hp hw'
  | cons y ys' =>
    generalize hy : y :: ys' = ys at hp hl
    have hpos : 1 ≤ ys.length := by rw [← hy]; simp
    rw [show decide (ys = []) = false from decide_eq_false (by rw [← hy]; simp)]
    walk_at "fd"
    refine ⟨⟨_, rfl⟩, ⟨_, rfl⟩, _, _, rfl, .inl rfl, 0, _, _, _, rfl, rfl, rfl, rfl, n + xs.length, w', ys.length, rfl, hw', by omega, by rw [List.length_map], by omega, ?_, fun r w2 r0 r1 hw2 => ?_⟩
    · exact lt8000 (by omega)
    · walk_at "fd"
      have hr : r.toNat < ys.length := by omega
      refine ⟨1, _, r, .int ys[r.toNat], rfl, rfl, rfl, r0, by omega, by rw [List.getElem?_map, List.getElem?_eq_getElem hr]; rfl, ?_⟩
      walk_at "fd"
      refine ⟨2, _, _, rfl, rfl, rfl, ?_, ?_⟩
      · rw [List.length_map]
        exact Nat.lt_of_le_of_lt (show xs.length ≤ 1000 by omega) (by decide)
      · walk_at "fd"
        have he : (ys.eraseIdx r.toNat).length = ys.length - 1 := by rw [List.length_eraseIdx, if_pos hr]
        refine ⟨ys.length - 1, by omega, xs ++ [ys[r.toNat]], ys.eraseIdx r.toNat, w2, he.symm, ?_, ?_, ?_, ?_⟩
        · simp [List.eraseIdx_eq_take_drop_succ, List.map_take, List.map_drop]
        · refine List.Perm.trans ?_ hp
          rw [List.append_assoc]
          exact (pop_perm hr).append_left xs
        · rw [List.length_append, he]
          show xs.length + 1 + _ = _
          omega
        · rw [List.length_append]
          exact hw2
def sp__law_moves : CSp := fun c ds Q _ => ∃ (n : Nat) (w : List PyData) (size : Nat), c = .l w ∧ Well n w ∧ n ≤ 800000 ∧ ds = [.int size] ∧ 1 ≤ size ∧ size ≤ 12 ∧ ∀ ms w', tabI ms → ms.length = size → Well (n + 30) w' → Q (intsD ms) (.l w')
def m__law_moves : MS := (mSeq (mSet 2 (mCallC sp__law_pick (mCons (mV 0) (mCons (mC (.int 6)) mNil))))
    (mSeq (mIfS (mB (mBin iEq (mV 2) (mC (.int 0))))
    (mRet (mLc newF (mItR1 (mV 1)) (mgN 8) mYes (mCallC sp__law_pick (mCons (mV 0) (mCons (mV 1) mNil))) [8]))
    mNext)
    (mSeq (mSet 3 (mCallC sp__law_mixed (mCons (mV 0) (mCons (mV 1) mNil))))
    (mSeq (mIfS (mB (mBin iEq (mV 2) (mC (.int 1))))
    (mSeq (mSet 4 (mBin (fRep newO) (mLst (mCons (mC (.int 0)) mNil)) (mV 1)))
    (mSeq (mFor (mItE (mV 3)) (mgT [5, 6])
    (mSeq (mSetIx (mBin fIx (mV 3) (mBin iMod (mCB fInt (mCons (mBin iAdd (mV 5) (mC (.int 1))) mNil)) (mV 1))) (mV 4) (mV 6))
    (mWipe [5, 6] mNext)))
    (mFrz 4 (mRet (mV 4)))))
    mNext)
    (mSeq (mIfS (mB (mBin iEq (mV 2) (mC (.int 2))))
    (mRet (mV 3))
    mNext)
    (mSeq (mIfS (mB (mBin iEq (mV 2) (mC (.int 3))))
    (mSeq (mSet 7 (mLc newF (mItR1 (mV 1)) (mgN 8) mYes (mCallC sp__law_pick (mCons (mV 0) (mCons (mBin iAdd (mC (.int 1)) (mBin iDiv (mV 1) (mC (.int 3)))) mNil))) [8]))
    (mRet (mLc newF (mItE (mV 7)) (mgT [5, 6]) mYes (mIf (mB (mBin iEq (mBin iMul (mBin iDiv (mV 5) (mC (.int 2))) (mC (.int 2))) (mV 5))) (mV 6) (mBin iSub (mBin iSub (mV 1) (mC (.int 1))) (mV 6))) [5, 6])))
    mNext)
    (mSeq (mIfS (mB (mBin iEq (mV 2) (mC (.int 4))))
    (mRet (mLc newF (mItR1 (mV 1)) (mgN 8) mYes (mBin fIx (mV 3) (mCallC sp__law_pick (mCons (mV 0) (mCons (mCB fMin2 (mCons (mV 1) (mCons (mC (.int 2)) mNil))) mNil)))) [8]))
    mNext)
    (mRet (mLc newF (mItR1 (mV 1)) (mgN 5) mYes (mCB fMin2 (mCons (mBin iSub (mV 1) (mC (.int 1))) (mCons (mCB fMax2 (mCons (mC (.int 0)) (mCons (mBin iSub (mBin iAdd (mV 5) (mCallC sp__law_pick (mCons (mV 0) (mCons (mC (.int 3)) mNil)))) (mC (.int 1))) mNil))) mNil))) [5])))))))))
theorem pl__law_moves : ∀ c ds Q E, sp__law_moves c ds Q E → ds.length + 1 = 2 := fun c ds Q E ⟨v, w, _, _, _, _, e, _⟩ => by rw [e]; rfl
theorem tab_of {size : Nat} {xs : List Int} (h1 : 1 ≤ size) (h2 : size ≤ 12) (hl : xs.length = size) (h : ∀ (i : Nat) (x : Int), xs[i]? = some x → 0 ≤ x ∧ x ≤ (size : Int) - 1) : tabI xs := by
  refine ⟨by omega, by omega, fun m hm => ?_⟩
  obtain ⟨i, hi, rfl⟩ := List.getElem_of_mem hm
  rw [hl]
  exact h i _ (List.getElem?_eq_getElem hi)
theorem mem_upto {a b x : Int} (h : x ∈ upto a b) : a ≤ x ∧ x < b := by
  unfold upto rangeI at h
  obtain ⟨k, hk, rfl⟩ := List.mem_map.mp h
  have := List.mem_range.mp hk
  omega
theorem pure__law_moves : ∀ c ds Q E, flat c = true → sp__law_moves c ds Q E → m__law_moves (endsC Q E) (stE 9 (.c 0 :: ds.map .p)) [c] := by
  rintro c ds Q E _ ⟨n, w, size, rfl, hw, hn, rfl, z1, z2, h⟩
  unfold m__law_moves
  walk_at "fd"
  have sm : ∀ n, n ≤ 100 → n ≤ small := fun n h => Nat.le_trans h (by decide)
  have bz : bound (size : Int) := ⟨by omega, by omega⟩
  refine ⟨0, _, _, _, rfl, rfl, rfl, rfl, n, w, 6, rfl, hw, by omega, rfl, by omega, by decide +kernel, fun way w1 r0 r1 hw1 => ?_⟩
  walk_at "fd"
  by_cases e0 : way = 0
  · rw [decide_eq_true e0]
    walk_at "fd"
    refine ⟨bz, ?_⟩
    rw [Int.toNat_natCast]
    refine lc_wells (q := 1) (fun w => [.l w]) (fun _ d => ∃ x, d = .int x ∧ 0 ≤ x ∧ x ≤ (size : Int) - 1) (by omega) hw1 (fun i w' hi hw' Y Z hY => ?_) fun ds w' hl hP hw' => ?_
    · unfold stepLc
      walk_at "fd"
      refine ⟨0, _, _, _, rfl, rfl, rfl, rfl, _, w', size, rfl, hw', by omega, rfl, by omega, lt8000 (by omega), fun r w2 q0 q1 hw2 => ?_⟩
      exact ⟨_, rfl, hY _ _ ⟨r, rfl, q0, by omega⟩ hw2⟩
    · obtain ⟨xs, rfl, hx⟩ := ints_of_P (P := fun _ x => 0 ≤ x ∧ x ≤ (size : Int) - 1) hP
      rw [List.length_map] at hl
      refine ⟨by rw [List.length_map]; exact sm _ (by omega), ?_⟩
      walk_at "fd"
      exact h xs w' (tab_of z1 z2 hl hx) hl (hw'.mono (by omega))
  · rw [decide_eq_false e0]
    walk_at "fd"
    refine ⟨0, _, _, _, rfl, rfl, rfl, rfl, n + 1, w1, size, rfl, hw1, by omega, rfl, by omega, fun mix w2 hp hw2 => ?_⟩
    walk_at "fd"
    have sl : mix.length = size := by rw [hp.length_eq]; unfold upto; rw [rangeI_len]; omega
    have sb : ∀ (i : Nat) (x : Int), mix[i]? = some x → 0 ≤ x ∧ x ≤ (size : Int) - 1 := fun i x hx => by
      have := mem_upto (hp.mem_iff.mp (List.mem_of_getElem? hx))
      omega
    by_cases e1 : way = 1
    · rw [decide_eq_true e1]
      walk_at "fd"
      have er : (List.replicate size [PyData.int 0]).flatten = (List.replicate size (0 : Int)).map .int := by rw [List.flatten_replicate_singleton, List.map_replicate]
      refine ⟨_, rfl, show 1 ≤ 1000000 by decide, _, _, rfl, rfl, by omega, by omega, ?_⟩
      rw [Int.toNat_natCast, er]
      refine ⟨by rw [List.length_map, List.length_replicate]; exact sm _ (by omega), ?_⟩
      unfold mFor
      walk_at "fd"
      refine ⟨_, _, rfl, fun i ρ S => ∃ ys : List Int, ρ = [some (.c 0), some (.p (.int size)), some (.p (.int way)), some (.p (intsD mix)), some (.c 1), none, none, none, none] ∧ S = [.l w2, .l (ys.map .int)] ∧ ys.length = size ∧ ∀ (i : Nat) (x : Int), ys[i]? = some x → 0 ≤ x ∧ x ≤ (size : Int) - 1, ⟨_, rfl, rfl, by simp, fun i x hx => ?_⟩, ?_, ?_, fun _ _ _ _ => trivial⟩
      · have := List.mem_of_getElem? hx
        rw [List.mem_replicate] at this
        omega
      · rintro i it ρ S hit ⟨ys, rfl, rfl, hl, hb⟩
        obtain ⟨x, hx, rfl⟩ := enumW_getG hit
        obtain ⟨x0, x1⟩ := sb i x hx
        have hi := (List.getElem?_eq_some_iff.mp hx).1
        walk_at "fd"
        have hm0 := Int.emod_nonneg ((i : Int) + 1) (show (size : Int) ≠ 0 by omega)
        have hm1 := Int.emod_lt_of_pos ((i : Int) + 1) (show (0 : Int) < size by omega)
        refine ⟨_, rfl, by omega, ?_⟩
        generalize ((i : Int) + 1) % (size : Int) = j at hm0 hm1 ⊢
        obtain ⟨j, rfl⟩ := Int.eq_ofNat_of_zero_le hm0
        have hj : j < mix.length := by omega
        refine fIx_at rfl (atI_map PyData.int (List.getElem?_eq_getElem hj)) ?_
        walk_at "fd"
        obtain ⟨k, rfl⟩ := Int.eq_ofNat_of_zero_le x0
        refine ⟨1, _, k, _, (k : Int), rfl, rfl, rfl, ?_, rfl, ys.set k mix[j], ?_, by simpa using hl, fun i' x' hx' => ?_⟩
        · rw [List.length_map, hl]
          unfold ixN
          rw [if_pos (by omega), if_pos (by omega)]; rfl
        · simp [List.map_set]
        · rw [List.getElem?_set] at hx'
          split at hx'
          · split at hx'
            · cases hx'
              exact sb j _ (List.getElem?_eq_getElem hj)
            · cases hx'
          · exact hb i' x' hx'
      · rintro ρ S ⟨ys, rfl, rfl, hl, hb⟩
        walk_at "fd"
        refine ⟨1, _, rfl, rfl, ?_⟩
        walk_at "fd"
        exact h ys w2 (tab_of z1 z2 hl hb) hl (hw2.mono (by omega))
    · rw [decide_eq_false e1]
      walk_at "fd"
      by_cases e2 : way = 2
      · rw [decide_eq_true e2]
        walk_at "fd"
        exact h mix w2 (tab_of z1 z2 sl sb) sl (hw2.mono (by omega))
      · rw [decide_eq_false e2]
        walk_at "fd"
        by_cases e3 : way = 3
        · rw [decide_eq_true e3]
          walk_at "fd"
          refine ⟨bz, ?_⟩
          rw [Int.toNat_natCast]
          refine lc_wells (q := 1) (fun w => [.l w]) (fun _ d => ∃ x, d = .int x ∧ 0 ≤ x ∧ x ≤ (size : Int) - 1) (by omega) hw2 (fun i w' hi hw' Y Z hY => ?_) fun ds w' hl hP hw' => ?_
          · unfold stepLc
            walk_at "fd"
            refine ⟨⟨by decide, by decide⟩, 0, _, _, _, rfl, rfl, rfl, rfl, _, w', _, rfl, hw', by omega, rfl, by omega, lt8000 (by omega), fun r w3 q0 q1 hw3 => ?_⟩
            exact ⟨_, rfl, hY _ _ ⟨r, rfl, q0, by omega⟩ hw3⟩
          · obtain ⟨xs, rfl, hx⟩ := ints_of_P (P := fun _ x => 0 ≤ x ∧ x ≤ (size : Int) - 1) hP
            rw [List.length_map] at hl
            refine ⟨by rw [List.length_map]; exact sm _ (by omega), _, _, rfl, lc_enumG PyData.int (fun i x => .int (if (i : Int) / 2 * 2 = i then x else (size : Int) - 1 - x)) (sm _ (by omega)) (fun i x hi Y Z hY => ?_) ?_⟩
            · unfold stepLc
              walk_at "fd"
              have hi2 := (List.getElem?_eq_some_iff.mp hi).1
              refine ⟨⟨by decide, by decide⟩, cmul_of (A := 40) (B := 40) (by omega) (by decide) (by decide), ?_⟩
              by_cases hd : (i : Int) / 2 * 2 = i
              · rw [decide_eq_true hd]
                rw [if_pos hd] at hY
                walk_at "fd"
                exact ⟨_, rfl, hY⟩
              · rw [decide_eq_false hd]
                rw [if_neg hd] at hY
                walk_at "fd"
                exact ⟨_, rfl, hY⟩
            · refine ⟨by rw [List.length_mapIdx]; exact sm _ (by omega), ?_⟩
              walk_at "fd"
              have em : (xs.mapIdx fun i x => PyData.int (if (i : Int) / 2 * 2 = i then x else (size : Int) - 1 - x)) = (xs.mapIdx fun i x => if (i : Int) / 2 * 2 = i then x else (size : Int) - 1 - x).map .int := by rw [map_mapIdxE]
              rw [em]
              refine h _ w' (tab_of z1 z2 (by simpa using hl) fun i x hx' => ?_) (by simpa using hl) (hw'.mono (by omega))
              rw [List.getElem?_mapIdx] at hx'
              cases e : xs[i]? with
              | none => rw [e] at hx'; cases hx'
              | some y =>
                rw [e] at hx'
                have := hx i y e
                have hx2 : (if (i : Int) / 2 * 2 = i then y else (size : Int) - 1 - y) = x := Option.some.inj hx'
                split at hx2 <;> omega
        · rw [decide_eq_false e3]
          walk_at "fd"
          by_cases e4 : way = 4
          · rw [decide_eq_true e4]
            walk_at "fd"
            refine ⟨bz, ?_⟩
            rw [Int.toNat_natCast]
            refine lc_wells (q := 1) (fun w => [.l w]) (fun _ d => ∃ x, d = .int x ∧ 0 ≤ x ∧ x ≤ (size : Int) - 1) (by omega) hw2 (fun i w' hi hw' Y Z hY => ?_) fun ds w' hl hP hw' => ?_
            · unfold stepLc
              walk_at "fd"
              refine ⟨_, _, rfl, 0, _, _, _, rfl, rfl, rfl, rfl, _, w', _, rfl, hw', by omega, rfl, by omega, lt8000 (by omega), fun r w3 q0 q1 hw3 => ?_⟩
              walk_at "fd"
              obtain ⟨k, rfl⟩ := Int.eq_ofNat_of_zero_le q0
              have hk : k < mix.length := by omega
              refine fIx_at rfl (atI_map PyData.int (List.getElem?_eq_getElem hk)) ?_
              exact ⟨_, rfl, hY _ _ ⟨_, rfl, sb k _ (List.getElem?_eq_getElem hk)⟩ hw3⟩
            · obtain ⟨xs, rfl, hx⟩ := ints_of_P (P := fun _ x => 0 ≤ x ∧ x ≤ (size : Int) - 1) hP
              rw [List.length_map] at hl
              refine ⟨by rw [List.length_map]; exact sm _ (by omega), ?_⟩
              walk_at "fd"
              exact h xs w' (tab_of z1 z2 hl hx) hl (hw'.mono (by omega))
          · rw [decide_eq_false e4]
            walk_at "fd"
            refine ⟨bz, ?_⟩
            rw [Int.toNat_natCast]
            refine lc_wells (q := 1) (fun w => [.l w]) (fun _ d => ∃ x, d = .int x ∧ 0 ≤ x ∧ x ≤ (size : Int) - 1) (by omega) hw2 (fun i w' hi hw' Y Z hY => ?_) fun ds w' hl hP hw' => ?_
            · unfold stepLc
              walk_at "fd"
              refine ⟨0, _, _, _, rfl, rfl, rfl, rfl, _, w', 3, rfl, hw', by omega, rfl, by omega, lt8000 (by omega), fun r w3 q0 q1 hw3 => ?_⟩
              walk_at "fd"
              exact ⟨_, _, rfl, _, _, rfl, _, rfl, hY _ _ ⟨_, rfl, by omega, by omega⟩ hw3⟩
            · obtain ⟨xs, rfl, hx⟩ := ints_of_P (P := fun _ x => 0 ≤ x ∧ x ≤ (size : Int) - 1) hP
              rw [List.length_map] at hl
              refine ⟨by rw [List.length_map]; exact sm _ (by omega), ?_⟩
              walk_at "fd"
              exact h xs w' (tab_of z1 z2 hl hx) hl (hw'.mono (by omega))
def sp__law_sums : PSp := fun ds Q _ => ∃ (ms ws : List Int), ds = [intsD ms, intsD ws] ∧ tabI ms ∧ ws.length = ms.length - 1 ∧ Q (intsD (oneB ms ws))
def m__law_sums : MS := (mSeq (mSet 2 (mLstO mNil))
    (mSeq (mFor (mItZ (mV 0) (mSl newF (mV 0) (mPart (mC (.int 1))) mNo)) (mgT [3, 4])
    (mSeq (mDrop (mBM fApp (mV 2) (mCons (mCB fSum (mCons (mSl newF (mV 1) (mPart (mCB fMin2 (mCons (mV 3) (mCons (mV 4) mNil)))) (mPart (mCB fMax2 (mCons (mV 3) (mCons (mV 4) mNil))))) mNil)) mNil)))
    (mWipe [3, 4] mNext)))
    (mFrz 2 (mRet (mV 2)))))
theorem pl__law_sums : ∀ ds Q E, sp__law_sums ds Q E → ds.length = 2 := fun ds Q E ⟨v, w, e, _⟩ => by rw [e]; rfl
theorem pure__law_sums : ∀ ds Q E, sp__law_sums ds Q E → m__law_sums (endsP Q E) (stE 5 (ds.map .p)) [] := by
  rintro ds Q E ⟨ms, ws, rfl, t, hl, h⟩
  have sm : ∀ n, n ≤ 100 → n ≤ small := fun n h => Nat.le_trans h (by decide)
  have l1 := t.1
  have l2 := t.2.1
  unfold m__law_sums
  walk_at "fd"
  refine ⟨_, rfl, Nat.zero_le _, ?_⟩
  unfold mFor
  walk_at "fd"
  refine ⟨_, rfl, ?_⟩
  have ec : cut (ms.map PyData.int) (some 1) none = (ms.drop 1).map PyData.int := by rw [cut_map, cut_from _ (by omega) (by omega)]; rfl
  rw [ec]
  refine ⟨by rw [List.length_map, List.length_drop]; exact sm _ (by omega), _, _, _, _, rfl, rfl, fun i ρ S => ρ = [some (.p (intsD ms)), some (.p (intsD ws)), some (.c 0), none, none] ∧ S = [.l (((List.range i).map (sumAt ms ws)).map .int)], ⟨rfl, rfl⟩, ?_, ?_, fun _ _ _ _ => ⟨trivial, trivial⟩⟩
  · rintro i it ρ S hit ⟨rfl, rfl⟩
    obtain ⟨x, y, hx, hy, rfl⟩ := zipW_getG hit
    have hi := (List.getElem?_eq_some_iff.mp hy).1
    rw [List.length_drop] at hi
    have ex : x = at0 ms i := by unfold at0; rw [List.getD_eq_getElem?_getD, hx]; rfl
    have ey : y = at0 ms (i + 1) := by
      unfold at0
      rw [List.getElem?_drop, Nat.add_comm] at hy
      rw [List.getD_eq_getElem?_getD, hy]; rfl
    subst ex; subst ey
    have b := t.lo (i := i) (by omega)
    walk_at "fd"
    refine ⟨⟨_, rfl⟩, _, _, rfl, _, _, rfl, _, rfl, ?_⟩
    have e2 : cut (ws.map PyData.int) (some (min (at0 ms i) (at0 ms (i + 1)))) (some (max (at0 ms i) (at0 ms (i + 1)))) = ((ws.drop (loOf ms i).toNat).take ((hiOf ms i).toNat - (loOf ms i).toNat)).map PyData.int := by
      show cut (ws.map PyData.int) (some (loOf ms i)) (some (hiOf ms i)) = _
      rw [cut_map, cut_nat _ b.1 b.2.1 (by omega)]
    rw [e2]
    refine ⟨by rw [List.length_map, List.length_take, List.length_drop]; exact sm _ (by omega), _, _, rfl, rfl, 0, _, _, rfl, rfl, rfl, ?_, ?_⟩
    · rw [List.length_map, List.length_map, List.length_range]
      exact Nat.lt_of_le_of_lt (show i ≤ 100 by omega) (by decide)
    · simp [List.range_succ, sumAt]
  · rintro ρ S ⟨rfl, rfl⟩
    rw [zipW_len, List.length_map, List.length_map, List.length_drop, show min ms.length (ms.length - 1) = ms.length - 1 by omega]
    walk_at "fd"
    exact ⟨0, _, rfl, rfl, h⟩
def sp__law_are_whole : PSp := fun ds Q _ => ∃ (v : PyData) (least : Int), ds = [v, .int least] ∧ shortD v ∧ Q (.bool (areI v (some least) none))
def m__law_are_whole : MS := (mSeq (mIfS (mNotT (mB (mIs isListD (mV 0))))
    (mRet (mC (.bool false)))
    mNext)
    (mRet (mBin (fEqD false) (mLc newF (mItL (mV 0)) (mgN 2) (mOrT (mNotT (mB (mIs isIntD (mV 2)))) (mOrT (mB (mIs isBoolD (mV 2))) (mB (mBin iLt (mV 2) (mV 1))))) (mC (.int 1)) [2]) (mLst mNil))))
theorem pl__law_are_whole : ∀ ds Q E, sp__law_are_whole ds Q E → ds.length = 2 := fun ds Q E ⟨v, w, e, _⟩ => by rw [e]; rfl
/-- [1 for .. if ..] is [] -/
def ones {α : Type} (p : α → Bool) (xs : List α) : List Int := (xs.filter fun d => !p d).map fun _ => 1
theorem ones_eq {α : Type} (p : α → Bool) (xs : List α) : xs.filterMap (fun d => if p d = true then none else some (PyData.int 1)) = (ones p xs).map PyData.int := by
  unfold ones
  induction xs with
  | nil => rfl
  | cons d ds ih =>
    rw [List.filterMap_cons]
    cases q : p d with
    | true => simp [q, ih]
    | false => simp [q, ih]
theorem ones_nil {α : Type} (p : α → Bool) (xs : List α) : decide (ones p xs = []) = xs.all p := by
  unfold ones
  induction xs with
  | nil => rfl
  | cons d ds ih =>
    cases q : p d with
    | true => simpa [q] using ih
    | false => simp [q]
theorem ones_len {α : Type} (p : α → Bool) (xs : List α) : (ones p xs).length ≤ xs.length := by
  unfold ones
  rw [List.length_map]
  exact List.length_filter_le _ _
theorem pure__law_are_whole : ∀ ds Q E, sp__law_are_whole ds Q E → m__law_are_whole (endsP Q E) (stE 3 (ds.map .p)) [] := by
  rintro ds Q E ⟨v, least, rfl, hs, h⟩
  unfold m__law_are_whole
  cases v with
  | list xs =>
    walk_at "fd"
    refine ⟨_, rfl, ite_b (fun q => absurd q (by simp [isListD])) fun _ => ?_⟩
    refine ⟨_, _, rfl, lc_fil (fun d => if isI d (some least) none = true then none else some (PyData.int 1)) hs (fun d hd Y Z hY hZ => ?_) ?_⟩
    · unfold stepLc
      cases d with
      | int i =>
        walk_at "fd"
        have e : isI (.int i) (some least) none = decide (least ≤ i) := by simp [isI]
        rw [e] at hY hZ
        simp only [isIntD, isBoolD]
        walk_at "fd"
        by_cases hi : i < least
        · rw [decide_eq_true hi]
          rw [decide_eq_false (by omega)] at hY hZ
          walk_at "fd"
          exact ⟨_, rfl, _, rfl, _, rfl, hY _ rfl⟩
        · rw [decide_eq_false hi]
          rw [decide_eq_true (by omega)] at hY hZ
          walk_at "fd"
          exact ⟨_, rfl, _, rfl, hZ rfl⟩
      | bool b =>
        simp only [isI] at hY hZ
        walk_at "fd"
        simp only [isIntD, isBoolD]
        walk_at "fd"
        exact ⟨_, rfl, _, rfl, _, rfl, hY _ rfl⟩
      | _ =>
        simp only [isI] at hY hZ
        walk_at "fd"
        simp only [isIntD, isBoolD]
        walk_at "fd"
        exact ⟨_, rfl, _, rfl, hY _ rfl⟩
    · rw [ones_eq]
      refine ⟨by rw [List.length_map]; exact Nat.le_trans (ones_len _ _) hs, _, rfl, Nat.zero_le _, intsD _, intsD [], rfl, rfl, shaped_ints _, shaped_ints [], ?_⟩
      rw [eqv_ints, ones_nil]
      exact h
  | _ => walk_at "fd"; simp [areI, isListD] at h ⊢; exact h
def sp__law_is_fast : PSp := fun ds Q _ => ∃ (ms : List Int) (T B : Int) (val : PyData), ds = [intsD ms, rateD T B, val] ∧ tabI ms ∧ rateOk T B ∧ valOk val ∧ Q (.bool (isFastP ms T B val))
def m__law_is_fast : MS := (mSeq (mIfS (mOrT (mNotT (mB (mCallP sp__law_are_whole [] (mCons (mV 2) (mCons (mC (.int 0)) mNil))))) (mOrT (mB (mBin iNe (mCB fLen (mCons (mV 2) mNil)) (mBin iSub (mCB fLen (mCons (mV 0) mNil)) (mC (.int 1))))) (mB (mBin iEq (mCB fMaxL (mCons (mBin (fCat newF) (mV 2) (mLst (mCons (mC (.int 0)) mNil))) mNil)) (mC (.int 0))))))
    (mRet (mC (.bool false)))
    mNext)
    (mRet (mBin (fEqD false) (mLc newF (mItZ (mV 2) (mCallP sp__law_sums [] (mCons (mV 0) (mCons (mV 2) mNil)))) (mgT [3, 4]) (mB (mBin iLt (mBin iMul (mBin fIx (mV 1) (mC (.int 1))) (mV 4)) (mBin iMul (mBin fIx (mV 1) (mC (.int 0))) (mV 3)))) (mC (.int 1)) [3, 4]) (mLst mNil))))
theorem pl__law_is_fast : ∀ ds Q E, sp__law_is_fast ds Q E → ds.length = 3 := fun ds Q E ⟨v, w, _, _, e, _⟩ => by rw [e]; rfl
theorem pure__law_is_fast : ∀ ds Q E, sp__law_is_fast ds Q E → m__law_is_fast (endsP Q E) (stE 5 (ds.map .p)) [] := by
  rintro ds Q E ⟨ms, T, B, val, rfl, t, ro, ⟨sh, sz⟩, h⟩
  have sm : ∀ n, n ≤ 100 → n ≤ small := fun n h => Nat.le_trans h (by decide)
  have l1 := t.1
  have l2 := t.2.1
  unfold m__law_is_fast
  walk_at "fd"
  refine ⟨_, rfl, val, 0, rfl, sh, ?_⟩
  walk_at "fd"
  cases ha : areI val (some 0) none with
  | false =>
    walk_at "fd"
    rw [show isFastP ms T B val = false by unfold isFastP; rw [papL_areI ha]] at h
    exact h
  | true =>
    walk_at "fd"
    obtain ⟨ws, rfl, hw⟩ := areI_pap ha
    have sz := sz ws rfl
    refine ⟨_, _, rfl, .inl rfl, _, _, rfl, .inl rfl, ?_⟩
    rw [List.length_map, List.length_map]
    by_cases hl : ws.length = ms.length - 1
    · have e1 : decide ((ws.length : Int) = (ms.length : Int) - 1) = true := decide_eq_true (by omega)
      rw [e1]
      walk_at "fd"
      rw [show isFastP ms T B (intsD ws) = (ws.any (fun w => decide (0 < w)) && holdsF ms T B ws) by unfold isFastP; rw [papL_of hw hl]] at h
      refine ⟨_, rfl, show 1 ≤ 1000000 by decide, _, _, rfl, rfl, ?_⟩
      have ea : ws.map PyData.int ++ [PyData.int 0] = (ws ++ [0]).map .int := by simp
      rw [ea]
      refine ⟨by rw [List.length_map, List.length_append]; exact sm _ (show ws.length + 1 ≤ 100 by omega), _, ws ++ [0], rfl, rfl, by simp, fun m hm hy => ?_⟩
      walk_at "fd"
      have m0 : 0 ≤ m := hy 0 (by simp)
      by_cases hz : m = 0
      · rw [decide_eq_true hz]
        walk_at "fd"
        have e2 : (ws.any fun w => decide (0 < w)) = false := by
          rw [List.any_eq_false]
          intro w hw'
          have := hy w (by simp [hw'])
          simp; omega
        rw [e2] at h
        exact h
      · rw [decide_eq_false hz]
        walk_at "fd"
        have e2 : (ws.any fun w => decide (0 < w)) = true := by
          rw [List.any_eq_true]
          have : m ∈ ws := by
            rcases List.mem_append.mp hm with h | h
            · exact h
            · have : m = 0 := by simpa using h
              omega
          exact ⟨m, this, by simp; omega⟩
        rw [e2, Bool.true_and] at h
        refine ⟨_, rfl, ms, ws, rfl, t, hl, ?_⟩
        walk_at "fd"
        have hl2 : (oneB ms ws).length = ws.length := by simp [oneB, hl]
        refine ⟨_, _, _, _, rfl, rfl, lc_zipFG PyData.int PyData.int (fun w s => if decide (T * w ≤ B * s) = true then none else some (PyData.int 1)) (sm _ (by omega)) (fun w s hws Y Z hY hZ => ?_) ?_⟩
        · unfold stepLc
          obtain ⟨h1, h2⟩ := List.of_mem_zip hws
          walk_at "fd"
          refine fIx_tup (d := .int B) rfl (atI_nat (j := 1) rfl) ?_
          walk_at "fd"
          refine ⟨cmul_of ro.2.2.2 (oneB_sz sz (by omega) s h2) (by decide), fIx_tup (d := .int T) rfl (atI_nat (j := 0) rfl) ?_⟩
          walk_at "fd"
          refine ⟨cmul_of ro.2.2.1 (sz w h1) (by decide), ?_⟩
          by_cases hlt : B * s < T * w
          · rw [decide_eq_true hlt]
            walk_at "fd"
            exact ⟨_, rfl, hY _ (if_neg (by simpa using hlt))⟩
          · rw [decide_eq_false hlt]
            walk_at "fd"
            exact hZ (if_pos (by simpa using hlt))
        · rw [ones_eq (fun p : Int × Int => decide (T * p.1 ≤ B * p.2))]
          refine ⟨?_, _, rfl, Nat.zero_le _, intsD _, intsD [], rfl, rfl, shaped_ints _, shaped_ints [], ?_⟩
          · rw [List.length_map]
            refine Nat.le_trans (ones_len _ _) ?_
            rw [List.length_zip]
            exact sm _ (by omega)
          · rw [eqv_ints, ones_nil]
            unfold holdsF at h
            rw [all_zipWith] at h
            exact h
    · have e1 : decide ((ws.length : Int) = (ms.length : Int) - 1) = false := decide_eq_false (by omega)
      rw [e1]
      walk_at "fd"
      rw [show isFastP ms T B (intsD ws) = false by unfold isFastP; rw [papL_len hl]] at h
      exact h
def sp__law_is_slow : PSp := fun ds Q _ => ∃ (ms : List Int) (T B : Int) (val : PyData), ds = [intsD ms, rateD T B, val] ∧ tabI ms ∧ rateOk T B ∧ valOk val ∧ Q (.bool (isSlowP ms T B val))
def m__law_is_slow : MS := (mSeq (mIfS (mOrT (mNotT (mB (mCallP sp__law_are_whole [] (mCons (mV 2) (mCons (mC (.int 1)) mNil))))) (mB (mBin iNe (mCB fLen (mCons (mV 2) mNil)) (mBin iSub (mCB fLen (mCons (mV 0) mNil)) (mC (.int 1))))))
    (mRet (mC (.bool false)))
    mNext)
    (mRet (mBin (fEqD false) (mLc newF (mItZ (mV 2) (mCallP sp__law_sums [] (mCons (mV 0) (mCons (mV 2) mNil)))) (mgT [3, 4]) (mB (mBin iGe (mBin iMul (mBin fIx (mV 1) (mC (.int 1))) (mV 4)) (mBin iMul (mBin fIx (mV 1) (mC (.int 0))) (mV 3)))) (mC (.int 1)) [3, 4]) (mLst mNil))))
theorem pl__law_is_slow : ∀ ds Q E, sp__law_is_slow ds Q E → ds.length = 3 := fun ds Q E ⟨v, w, _, _, e, _⟩ => by rw [e]; rfl
theorem pure__law_is_slow : ∀ ds Q E, sp__law_is_slow ds Q E → m__law_is_slow (endsP Q E) (stE 5 (ds.map .p)) [] := by
  rintro ds Q E ⟨ms, T, B, val, rfl, t, ro, ⟨sh, sz⟩, h⟩
  have sm : ∀ n, n ≤ 100 → n ≤ small := fun n h => Nat.le_trans h (by decide)
  have l1 := t.1
  have l2 := t.2.1
  unfold m__law_is_slow
  walk_at "fd"
  refine ⟨_, rfl, val, 1, rfl, sh, ?_⟩
  walk_at "fd"
  cases ha : areI val (some 1) none with
  | false =>
    walk_at "fd"
    rw [show isSlowP ms T B val = false by unfold isSlowP; rw [papL_areI ha]] at h
    exact h
  | true =>
    walk_at "fd"
    obtain ⟨ws, rfl, hw⟩ := areI_pap ha
    have sz := sz ws rfl
    refine ⟨_, _, rfl, .inl rfl, _, _, rfl, .inl rfl, ?_⟩
    rw [List.length_map, List.length_map]
    by_cases hl : ws.length = ms.length - 1
    · have e1 : decide ((ws.length : Int) = (ms.length : Int) - 1) = true := decide_eq_true (by omega)
      rw [e1]
      walk_at "fd"
      rw [show isSlowP ms T B (intsD ws) = holdsS ms T B ws by unfold isSlowP; rw [papL_of hw hl]] at h
      refine ⟨_, rfl, ms, ws, rfl, t, hl, ?_⟩
      walk_at "fd"
      have hl2 : (oneB ms ws).length = ws.length := by simp [oneB, hl]
      refine ⟨_, _, _, _, rfl, rfl, lc_zipFG PyData.int PyData.int (fun w s => if decide (B * s < T * w) = true then none else some (PyData.int 1)) (sm _ (by omega)) (fun w s hws Y Z hY hZ => ?_) ?_⟩
      · unfold stepLc
        obtain ⟨h1, h2⟩ := List.of_mem_zip hws
        walk_at "fd"
        refine fIx_tup (d := .int B) rfl (atI_nat (j := 1) rfl) ?_
        walk_at "fd"
        refine ⟨cmul_of ro.2.2.2 (oneB_sz sz (by omega) s h2) (by decide), fIx_tup (d := .int T) rfl (atI_nat (j := 0) rfl) ?_⟩
        walk_at "fd"
        refine ⟨cmul_of ro.2.2.1 (sz w h1) (by decide), ?_⟩
        by_cases hlt : T * w ≤ B * s
        · rw [decide_eq_true hlt]
          walk_at "fd"
          exact ⟨_, rfl, hY _ (if_neg (by simpa using hlt))⟩
        · rw [decide_eq_false hlt]
          walk_at "fd"
          exact hZ (if_pos (by simpa using hlt))
      · rw [ones_eq (fun p : Int × Int => decide (B * p.2 < T * p.1))]
        refine ⟨?_, _, rfl, Nat.zero_le _, intsD _, intsD [], rfl, rfl, shaped_ints _, shaped_ints [], ?_⟩
        · rw [List.length_map]
          refine Nat.le_trans (ones_len _ _) ?_
          rw [List.length_zip]
          exact sm _ (by omega)
        · rw [eqv_ints, ones_nil]
          unfold holdsS at h
          rw [all_zipWith] at h
          exact h
    · have e1 : decide ((ws.length : Int) = (ms.length : Int) - 1) = false := decide_eq_false (by omega)
      rw [e1]
      walk_at "fd"
      rw [show isSlowP ms T B (intsD ws) = false by unfold isSlowP; rw [papL_len hl]] at h
      exact h
def copyOk (v : PyData) : Prop := match v with
  | .list xs => xs.length ≤ small ∧ ∀ d ∈ xs, shortD d
  | _ => True
def sp__law_copy : PSp := fun ds Q _ => ∃ (v : PyData), ds = [v] ∧ copyOk v ∧ Q v
def m__law_copy : MS := (mSeq (mIfS (mNotT (mB (mIs isListD (mV 0))))
    (mRet (mV 0))
    mNext)
    (mRet (mLc newF (mItL (mV 0)) (mgN 1) mYes (mIf (mB (mIs isListD (mV 1))) (mCB (fList newF) (mCons (mV 1) mNil)) (mV 1)) [1])))
theorem pl__law_copy : ∀ ds Q E, sp__law_copy ds Q E → ds.length = 1 := fun ds Q E ⟨v, e, _⟩ => by rw [e]; rfl
theorem pure__law_copy : ∀ ds Q E, sp__law_copy ds Q E → m__law_copy (endsP Q E) (stE 2 (ds.map .p)) [] := by
  rintro ds Q E ⟨v, rfl, hs, h⟩
  unfold m__law_copy
  cases v with
  | list xs =>
    walk_at "fd"
    refine ⟨_, rfl, ite_b (fun q => absurd q (by simp [isListD])) fun _ => ?_⟩
    refine ⟨_, _, rfl, lc_map (fun d => d) hs.1 (fun d hd Y Z hY => ?_) ?_⟩
    · unfold stepLc
      walk_at "fd"
      refine ⟨_, rfl, ite_b (fun q => ?_) fun _ => ⟨_, rfl, hY⟩⟩
      cases d with
      | list es => exact ⟨_, _, rfl, .inl rfl, hs.2 _ hd, _, rfl, hY⟩
      | _ => exact absurd q (by simp [isListD])
    · rw [List.map_id']
      exact ⟨hs.1, h⟩
  | _ => walk_at "fd"; simp [isListD] at h ⊢; exact h
/-- a value that may be judged, copied, compared -/
structure VOk (v : PyData) : Prop where
  val : valOk v
  copy : copyOk v
  eq : eqT 58 v = true
theorem fRepr_bools {a b : Bool} {S : So} {R : RK} (h : R (.p (.str (PyData.shown (.list [.bool a, .bool b])))) S) : fRepr [W.p (.list [.bool a, .bool b])] S R := by
  refine ⟨_, _, rfl, rfl, .inl ⟨_, rfl⟩, (okD.list (n := 0) fun d hd => ?_).mono (by omega), ?_, ?_, h⟩
  · simp only [List.mem_cons, List.not_mem_nil, or_false] at hd
    rcases hd with rfl | rfl <;> exact okD.bool _ 0
  · cases a <;> cases b <;> decide +kernel
  · cases a <;> cases b <;> decide +kernel
theorem eqS_str (x : Str) : eqS (.str x) (.str x) = some true := by simp [eqS, plainD, scal]
def sp__law_same (ad : Str → Addr) : PSp := fun ds Q _ => ∃ (ms : List Int) (T B : Int) (vals : List PyData), ds = [intsD ms, rateD T B, .list vals] ∧ tabI ms ∧ rateOk T B ∧ vals.length ≤ small ∧ (∀ v ∈ vals, VOk v) ∧ Q (.bool true)
def m__law_same (ad : Str → Addr) : MS := (mSeq (mSet 3 (mLst (mCons (mCallP sp__law_copy [] (mCons (mV 0) mNil)) (mCons (mV 1) (mCons (mLc newF (mItL (mV 2)) (mgN 4) mYes (mCallP sp__law_copy [] (mCons (mV 4) mNil)) [4]) mNil)))))
    (mSeq (mFor (mItL (mV 2)) (mgN 4)
    (mSeq (mSet 5 (mLst (mCons (mCallP (sp_is_fast_paper ad) [] (mCons (mV 0) (mCons (mV 1) (mCons (mV 4) mNil)))) (mCons (mCallP (sp_is_slow_paper ad) [] (mCons (mV 0) (mCons (mV 1) (mCons (mV 4) mNil)))) mNil))))
    (mSeq (mIfS (mB (mBin (fEqS true) (mCB fRepr (mCons (mV 5) mNil)) (mCB fRepr (mCons (mLst (mCons (mCallP sp__law_is_fast [] (mCons (mV 0) (mCons (mV 1) (mCons (mV 4) mNil)))) (mCons (mCallP sp__law_is_slow [] (mCons (mV 0) (mCons (mV 1) (mCons (mV 4) mNil)))) mNil))) mNil))))
    (mRet (mC (.bool false)))
    mNext)
    (mWipe [4, 5] mNext))))
    (mRet (mBin fEqT (mLst (mCons (mV 0) (mCons (mV 1) (mCons (mV 2) mNil)))) (mV 3)))))
theorem pl__law_same {ad : Str → Addr} : ∀ ds Q E, sp__law_same ad ds Q E → ds.length = 3 := fun ds Q E ⟨v, w, _, _, e, _⟩ => by rw [e]; rfl
theorem pure__law_same {ad : Str → Addr} : ∀ ds Q E, sp__law_same ad ds Q E → m__law_same ad (endsP Q E) (stE 6 (ds.map .p)) [] := by
  rintro ds Q E ⟨ms, T, B, vals, rfl, t, ro, hv, hvs, h⟩
  have l2 := t.2.1
  have sm : ∀ n, n ≤ 100 → n ≤ small := fun n h => Nat.le_trans h (by decide)
  unfold m__law_same
  walk_at "fd"
  refine ⟨_, rfl, intsD ms, rfl, ?_, ?_⟩
  · refine ⟨by rw [List.length_map]; exact sm _ (by omega), fun d hd => ?_⟩
    obtain ⟨x, _, rfl⟩ := List.mem_map.mp hd
    trivial
  walk_at "fd"
  refine ⟨_, _, rfl, lc_map (fun d => d) hv (fun d hd Y Z hY => ?_) ?_⟩
  · unfold stepLc
    walk_at "fd"
    exact ⟨_, rfl, d, rfl, (hvs d hd).copy, _, rfl, hY⟩
  · rw [List.map_id']
    refine ⟨hv, _, rfl, show 3 ≤ 1000000 by decide, ?_⟩
    unfold mFor
    walk_at "fd"
    refine ⟨_, _, rfl, fun i ρ S => ρ = [some (.p (intsD ms)), some (.p (rateD T B)), some (.p (.list vals)), some (.p (.list [intsD ms, rateD T B, .list vals])), none, none] ∧ S = [], ⟨rfl, rfl⟩, ?_, ?_, fun _ _ _ _ => trivial⟩
    · rintro i it ρ S hit ⟨rfl, rfl⟩
      obtain ⟨v, hx, rfl⟩ : ∃ v, vals[i]? = some v ∧ it = .p v := by
        rw [List.getElem?_map] at hit
        cases e : vals[i]? with
        | none => rw [e] at hit; cases hit
        | some v => rw [e] at hit; exact ⟨v, rfl, (Option.some.inj hit).symm⟩
      have V := hvs v (List.mem_of_getElem? hx)
      walk_at "fd"
      refine ⟨_, rfl, _, _, v, rfl, goodMR.of t ro ⟨V.val, ?_⟩⟩
      walk_at "fd"
      refine ⟨_, rfl, _, _, v, rfl, goodMR.of t ro ⟨V.val, ?_⟩⟩
      walk_at "fd"
      refine ⟨_, rfl, show 2 ≤ 1000000 by decide, fRepr_bools ?_⟩
      refine ⟨_, rfl, ms, T, B, v, rfl, t, ro, V.val, ?_⟩
      walk_at "fd"
      refine ⟨_, rfl, ms, T, B, v, rfl, t, ro, V.val, ?_⟩
      walk_at "fd"
      refine ⟨_, rfl, show 2 ≤ 1000000 by decide, fRepr_bools ⟨true, eqS_str _, ?_⟩⟩
      walk_at "fd"
    · rintro ρ S ⟨rfl, rfl⟩
      walk_at "fd"
      refine ⟨_, rfl, show 3 ≤ 1000000 by decide, _, rfl, rfl, fun d hd => ?_, h⟩
      simp only [List.mem_cons, List.not_mem_nil, or_false] at hd
      rcases hd with rfl | rfl | rfl
      · exact eqT_okD ((okD.ints ms).mono (by omega))
      · exact eqT_okD ((okD.tuple (n := 0) fun d hd => by
          simp only [List.mem_cons, List.not_mem_nil, or_false] at hd
          rcases hd with rfl | rfl <;> exact okD.int _ 0).mono (by omega))
      · exact eqT_lst fun v hv' => eqT_up (hvs v hv').eq
theorem VOk.lst {xs : List PyData} (hl : xs.length ≤ small) (h : ∀ d ∈ xs, shortD d ∧ (∀ i, d = .int i → i.natAbs < 2 ^ bitsP) ∧ okD 50 d) : VOk (.list xs) := by
  refine ⟨⟨hl, fun ws e x hx => ?_⟩, ⟨hl, fun d hd => (h d hd).1⟩, eqT_okD ((okD.list fun d hd => (h d hd).2.2).mono (by omega))⟩
  injection e with e
  exact (h (.int x) (by rw [e]; exact List.mem_map_of_mem hx)).2.1 x rfl
theorem VOk.ints {ws : List Int} (hl : ws.length ≤ 100) (h : szL bitsP ws) : VOk (intsD ws) := by
  refine .lst (by rw [List.length_map]; exact Nat.le_trans hl (by decide)) fun d hd => ?_
  obtain ⟨x, hx, rfl⟩ := List.mem_map.mp hd
  exact ⟨trivial, fun i e => by injection e with e; subst e; exact h x hx, okD.int _ _⟩
/-- a value that is no list -/
theorem VOk.other {d : PyData} (h : eqT 58 d = true) (hn : isListD d = false) : VOk d := by
  cases d with
  | list xs => exact absurd hn (by simp [isListD])
  | _ => exact ⟨⟨trivial, fun ws e => by cases e⟩, trivial, h⟩
theorem VOk.flat {d : PyData} (h : okD 50 d) (hn : isListD d = false) : VOk d := .other (eqT_okD (h.mono (by omega))) hn
theorem okD.str {x : Str} {n : Nat} (h : PyData.canLay0 (.str x) = true) : okD n (.str x) := ⟨h, by simp [PyData.depth]⟩
theorem VOk.rep {d : PyData} {k : Nat} (hk : k ≤ 100) (h : shortD d ∧ (∀ i, d = .int i → i.natAbs < 2 ^ bitsP) ∧ okD 50 d) : VOk (.list (List.replicate k d)) := by
  refine .lst (by rw [List.length_replicate]; exact Nat.le_trans hk (by decide)) fun d' hd => ?_
  rw [(List.mem_replicate.mp hd).2]
  exact h
theorem szP {x : Int} (h : x.natAbs < 2 ^ 100) : x.natAbs < 2 ^ bitsP := Nat.lt_of_lt_of_le h (Nat.pow_le_pow_right (by omega) (by decide))
theorem fRep_one {nk : NewK} {d : PyData} {k : Nat} {S : So} {R : RK} (hk : k ≤ 1000000) (h : nk (List.replicate k d) S R) : fRep nk (W.p (.list [d])) (W.p (.int k)) S R := by
  refine ⟨_, _, rfl, rfl, by omega, by omega, ?_⟩
  rw [Int.toNat_natCast, List.flatten_replicate_singleton]
  exact h
def sp__law_odd : CLSp := fun c ds Q _ => ∃ (n : Nat) (w : List PyData) (size : Nat), c = .l w ∧ Well n w ∧ n ≤ 800000 ∧ ds = [.int size] ∧ size ≤ 12 ∧ ∀ vals w', vals.length ≤ 100 → (∀ v ∈ vals, VOk v) → Well (n + 12) w' → Q vals (.l w')
def m__law_odd : MS := (mSeq (mSet 2 (mLc newF (mItR1 (mV 1)) (mgN 4) mYes (mBin iAdd (mC (.int 1)) (mCallC sp__law_pick (mCons (mV 0) (mCons (mC (.int 3)) mNil)))) [4]))
    (mSeq (mSet 3 (mLst (mCons (mC .none) (mCons (mC (.bool true)) (mCons (mC (.int 1)) (mCons (mC (.str "")) (mCons (mC (.str "1")) (mCons (mTup mNil) (mCons (mCB fTupL (mCons (mV 2) mNil)) (mCons mDict0 (mCons (mBin (fCat newF) (mV 2) (mLst (mCons (mC (.int 1)) mNil))) (mCons (mSl newF (mV 2) mNo (mPart (mUn iNeg (mC (.int 1))))) (mCons (mBin (fRep newF) (mLst (mCons (mC (.bool true)) mNil)) (mV 1)) (mCons (mBin (fRep newF) (mLst (mCons (mC .none) mNil)) (mV 1)) mNil))))))))))))))
    (mRet (mBin (fCat newO) (mV 3) (mLst (mCons (mBin (fRep newF) (mLst (mCons (mC (.str "1")) mNil)) (mV 1)) (mCons (mBin (fRep newF) (mLst (mCons (mV 2) mNil)) (mV 1)) (mCons (mBin (fRep newF) (mLst (mCons (mC (.int 0)) mNil)) (mV 1)) (mCons (mBin (fRep newF) (mLst (mCons (mUn iNeg (mC (.int 1))) mNil)) (mV 1)) (mCons (mLc newF (mItL (mV 2)) (mgN 5) mYes (mBin iSub (mC (.int 0)) (mV 5)) [5]) mNil))))))))))
theorem pl__law_odd : ∀ c ds Q E, sp__law_odd c ds Q E → ds.length + 1 = 2 := fun c ds Q E ⟨v, w, _, _, _, _, e, _⟩ => by rw [e]; rfl
theorem pure__law_odd : ∀ c ds Q E, flat c = true → sp__law_odd c ds Q E → m__law_odd (endsCL Q E) (stE 6 (.c 0 :: ds.map .p)) [c] := by
  rintro c ds Q E _ ⟨n, w, size, rfl, hw, hn, rfl, hz, h⟩
  have sm : ∀ n, n ≤ 100 → n ≤ small := fun n h => Nat.le_trans h (by decide)
  unfold m__law_odd
  walk_at "fd"
  refine ⟨⟨by omega, by omega⟩, ?_⟩
  rw [Int.toNat_natCast]
  refine lc_wells (q := 1) (fun w => [.l w]) (fun _ d => ∃ x, d = .int x ∧ 1 ≤ x ∧ x ≤ 3) (by omega) hw (fun i w' hi hw' Y Z hY => ?_) fun ds w' hl hP hw' => ?_
  · unfold stepLc
    walk_at "fd"
    refine ⟨0, _, _, _, rfl, rfl, rfl, rfl, _, w', 3, rfl, hw', by omega, rfl, by omega, lt8000 (by omega), fun r w2 q0 q1 hw2 => ?_⟩
    exact ⟨_, rfl, hY _ _ ⟨_, rfl, by omega, by omega⟩ hw2⟩
  · obtain ⟨xs, rfl, hx⟩ := ints_of_P (P := fun _ x => 1 ≤ x ∧ x ≤ 3) hP
    rw [List.length_map] at hl
    have hxs : ∀ x ∈ xs, 1 ≤ x ∧ x ≤ 3 := fun x hx' => by
      obtain ⟨i, hi, rfl⟩ := List.getElem_of_mem hx'
      exact hx i _ (List.getElem?_eq_getElem hi)
    have sx : szL bitsP xs := fun x hx' => szP (by have := hxs x hx'; omega)
    refine ⟨by rw [List.length_map]; exact sm _ (by omega), ?_⟩
    walk_at "fd"
    have hs6 : size ≤ 1000000 := by omega
    have one : ∀ d : PyData, [d].length ≤ small := fun d => show 1 ≤ 1000000 by decide
    have lr : ∀ d : PyData, (List.replicate size d).length ≤ small := fun d => by rw [List.length_replicate]; exact hs6
    have ec : cut (xs.map PyData.int) none (some (-1)) = (cut xs none (some (-1))).map PyData.int := cut_map PyData.int xs none (some (-1))
    have lc : (cut xs none (some (-1))).length ≤ 100 := by
      unfold cut
      rw [List.length_take, List.length_drop]; omega
    refine ⟨_, rfl, Nat.zero_le _, _, _, rfl, rfl, ?_⟩
    refine ⟨_, rfl, one _, _, _, rfl, rfl, ?_, ?_⟩
    · rw [List.length_append, List.length_map]
      exact Nat.le_trans (show xs.length + 1 ≤ 100 by omega) (by decide)
    refine ⟨_, rfl, ?_⟩
    rw [ec]
    refine ⟨by rw [List.length_map]; exact sm _ lc, _, rfl, one _, fRep_one hs6 ⟨lr _, ?_⟩⟩
    refine ⟨_, rfl, one _, fRep_one hs6 ⟨lr _, ?_⟩⟩
    refine ⟨_, rfl, show 12 ≤ 1000000 by decide, ?_⟩
    walk_at "fd"
    refine ⟨_, rfl, one _, fRep_one hs6 ⟨lr _, ?_⟩⟩
    refine ⟨_, rfl, one _, fRep_one hs6 ⟨lr _, ?_⟩⟩
    refine ⟨_, rfl, one _, fRep_one hs6 ⟨lr _, ?_⟩⟩
    refine ⟨_, rfl, one _, fRep_one hs6 ⟨lr _, ?_⟩⟩
    refine ⟨_, _, rfl, lc_mapG PyData.int (fun x => .int (0 - x)) (sm _ (by omega)) (fun x hx Y Z hY => ?_) ?_⟩
    · unfold stepLc
      walk_at "fd"
      exact ⟨_, rfl, hY⟩
    have en : (xs.map fun x => PyData.int (0 - x)) = (xs.map fun x => 0 - x).map .int := by simp [Function.comp_def]
    rw [en]
    refine ⟨by rw [List.length_map, List.length_map]; exact sm _ (by omega), _, rfl, show 5 ≤ 1000000 by decide, _, _, rfl, rfl, show 17 ≤ 1000000 by decide, 0, rfl, ?_⟩
    walk_at "fd"
    refine h _ w' (show 17 ≤ 100 by decide) (fun v hv => ?_) (hw'.mono (by omega))
    have ko : okD 50 (intsD xs) := (okD.ints xs).mono (by omega)
    simp only [List.mem_cons, List.not_mem_nil, or_false] at hv
    rcases hv with rfl | rfl | rfl | rfl | rfl | rfl | rfl | rfl | rfl | rfl | rfl | rfl | rfl | rfl | rfl | rfl | rfl
    · exact .flat (okD.none _) rfl
    · exact .flat (okD.bool _ _) rfl
    · exact .flat (okD.int _ _) rfl
    · exact .flat (okD.str (by decide +kernel)) rfl
    · exact .flat (okD.str (by decide +kernel)) rfl
    · exact .flat ((okD.tuple (n := 0) (by simp)).mono (by omega)) rfl
    · exact .flat ((okD.tuple (n := 0) fun d hd => by
        obtain ⟨x, _, rfl⟩ := List.mem_map.mp hd
        exact okD.int _ _).mono (by omega)) rfl
    · exact .other rfl rfl
    · have e : xs.map PyData.int ++ [PyData.int 1] = (xs ++ [1]).map PyData.int := by simp
      rw [e]
      refine .ints (by rw [List.length_append]; exact (show xs.length + 1 ≤ 100 by omega)) fun x hx' => ?_
      rcases List.mem_append.mp hx' with hx' | hx'
      · exact sx x hx'
      · have : x = 1 := by simpa using hx'
        subst this
        exact szP (by decide)
    · refine .ints lc fun x hx' => ?_
      unfold cut at hx'
      exact sx x (List.mem_of_mem_drop (List.mem_of_mem_take hx'))
    · exact .rep (by omega) ⟨trivial, fun i e => (by cases e), okD.bool _ _⟩
    · exact .rep (by omega) ⟨trivial, fun i e => (by cases e), okD.none _⟩
    · exact .rep (by omega) ⟨trivial, fun i e => (by cases e), okD.str (by decide +kernel)⟩
    · exact .rep (by omega) ⟨by show (xs.map PyData.int).length ≤ small; rw [List.length_map]; exact sm _ (by omega), fun i e => (by cases e), ko⟩
    · exact .rep (by omega) ⟨trivial, fun i e => by injection e with e; subst e; exact szP (by decide), okD.int _ _⟩
    · exact .rep (by omega) ⟨trivial, fun i e => by injection e with e; subst e; exact szP (by decide), okD.int _ _⟩
    · refine .ints (by rw [List.length_map]; omega) fun x hx' => ?_
      obtain ⟨y, hy, rfl⟩ := List.mem_map.mp hx'
      exact szP (by have := hxs y hy; omega)
def bitsQ : Nat := 40000000
def sp__law_changed : CSp := fun c ds Q _ => ∃ (n : Nat) (w : List PyData) (ws : List Int), c = .l w ∧ Well n w ∧ n ≤ 800000 ∧ ds = [intsD ws] ∧ ws.length ≤ 12 ∧ szL bitsQ ws ∧ ∀ vals w', vals.length ≤ 100 → (∀ v ∈ vals, VOk v) → Well (n + 12) w' → Q (.list vals) (.l w')
def m__law_changed : MS := (mSeq (mSet 2 (mLstO (mCons (mCB (fList newF) (mCons (mV 1) mNil)) mNil)))
    (mSeq (mFor (mItR1 (mC (.int 4))) (mgN 3)
    (mSeq (mIfS (mB (mBin (fEqD true) (mV 1) (mLst mNil)))
    (mSeq (mSet 4 (mCallC sp__law_pick (mCons (mV 0) (mCons (mCB fLen (mCons (mV 1) mNil)) mNil))))
    (mSeq (mSet 5 (mBin fIx (mLst (mCons (mC (.int 1)) (mCons (mUn iNeg (mC (.int 1))) (mCons (mBin iSub (mC (.int 0)) (mBin fIx (mV 1) (mV 4))) (mCons (mCallC sp__law_pick (mCons (mV 0) (mCons (mC (.int 9)) mNil))) (mCons (mBin iPow (mC (.int 10)) (mC (.int 30))) mNil)))))) (mCallC sp__law_pick (mCons (mV 0) (mCons (mC (.int 5)) mNil)))))
    (mDrop (mBM fApp (mV 2) (mCons (mBin (fCat newF) (mBin (fCat newF) (mSl newF (mV 1) mNo (mPart (mV 4))) (mLst (mCons (mBin iAdd (mBin fIx (mV 1) (mV 4)) (mV 5)) mNil))) (mSl newF (mV 1) (mPart (mBin iAdd (mV 4) (mC (.int 1)))) mNo)) mNil)))))
    mNext)
    (mWipe [3, 4, 5] mNext)))
    (mFrz 2 (mRet (mV 2)))))
theorem pl__law_changed : ∀ c ds Q E, sp__law_changed c ds Q E → ds.length + 1 = 2 := fun c ds Q E ⟨v, w, _, _, _, _, e, _⟩ => by rw [e]; rfl
theorem pure__law_changed : ∀ c ds Q E, flat c = true → sp__law_changed c ds Q E → m__law_changed (endsC Q E) (stE 6 (.c 0 :: ds.map .p)) [c] := by
  rintro c ds Q E _ ⟨n, w, ws, rfl, hw, hn, rfl, hz, hs, h⟩
  have sm : ∀ n, n ≤ 100 → n ≤ small := fun n h => Nat.le_trans h (by decide)
  have sQ : szL bitsP ws := hs.mono (by decide)
  unfold m__law_changed
  walk_at "fd"
  refine ⟨_, _, rfl, .inl rfl, by rw [List.length_map]; exact sm _ (by omega), _, rfl, show 1 ≤ 1000000 by decide, ?_⟩
  unfold mFor
  walk_at "fd"
  refine ⟨⟨by omega, by omega⟩, fun i ρ S => ∃ vals w', ρ = [some (.c 0), some (.p (intsD ws)), some (.c 1), none, none, none] ∧ S = [.l w', .l vals] ∧ vals.length ≤ i + 1 ∧ (∀ v ∈ vals, VOk v) ∧ Well (n + 3 * i) w', ⟨_, w, rfl, rfl, by simp, ?_, hw⟩, ?_, ?_, fun _ _ _ _ => trivial⟩
  · intro v hv
    have : v = intsD ws := by simpa using hv
    subst this
    exact .ints (by omega) sQ
  · rintro i it ρ S hit ⟨vals, w', rfl, rfl, hl, hv, hw'⟩
    have hi : i < 4 := by have := (List.getElem?_eq_some_iff.mp hit).1; rw [rangeW_len] at this; exact this
    walk_at "fd"
    refine ⟨_, rfl, Nat.zero_le _, intsD ws, intsD [], rfl, rfl, shaped_ints _, shaped_ints [], ?_⟩
    rw [eqv_ints]
    by_cases hnil : ws = []
    · rw [decide_eq_true hnil]
      walk_at "fd"
      exact ⟨vals, w', rfl, by omega, hv, hw'.mono (by omega)⟩
    · rw [decide_eq_false hnil]
      walk_at "fd"
      have hpos := List.length_pos_iff.mpr hnil
      refine ⟨_, _, rfl, .inl rfl, 0, _, _, _, rfl, rfl, rfl, rfl, _, w', ws.length, rfl, hw', by omega, by rw [List.length_map], by omega, lt8000 (by omega), fun r w2 r0 r1 hw2 => ?_⟩
      walk_at "fd"
      obtain ⟨j, rfl⟩ := Int.eq_ofNat_of_zero_le r0
      have hj : j < ws.length := by omega
      have sj := hs ws[j] (List.getElem_mem hj)
      refine fIx_at rfl (atI_map PyData.int (List.getElem?_eq_getElem hj)) ?_
      walk_at "fd"
      refine ⟨0, _, _, _, rfl, rfl, rfl, rfl, _, w2, 9, rfl, hw2, by omega, rfl, by omega, lt8000 (by omega), fun r3 w3 p0 p1 hw3 => ?_⟩
      walk_at "fd"
      refine ⟨cpow_of (A := 4) (by decide) (by decide) (by decide), _, rfl, show 5 ≤ 1000000 by decide, 0, _, _, _, rfl, rfl, rfl, rfl, _, w3, 5, rfl, hw3, by omega, rfl, by omega, lt8000 (by omega), fun r4 w4 s0 s1 hw4 => ?_⟩
      walk_at "fd"
      obtain ⟨k, rfl⟩ := Int.eq_ofNat_of_zero_le s0
      have szQ : ∀ {x : Int}, x.natAbs < 2 ^ 200 → x.natAbs < 2 ^ bitsQ := fun h => Nat.lt_of_lt_of_le h (Nat.pow_le_pow_right (by omega) (by decide))
      have pick : ∃ more : Int, [PyData.int 1, PyData.int (-1), PyData.int (0 - ws[j]), PyData.int r3, PyData.int (10 ^ Int.toNat 30)][k]? = some (.int more) ∧ more.natAbs < 2 ^ bitsQ := by
        have hk : k < 5 := by omega
        match k, hk with
        | 0, _ => exact ⟨_, rfl, szQ (by decide)⟩
        | 1, _ => exact ⟨_, rfl, szQ (by decide)⟩
        | 2, _ => exact ⟨_, rfl, by omega⟩
        | 3, _ => exact ⟨_, rfl, szQ (by omega)⟩
        | 4, _ => exact ⟨_, rfl, szQ (by decide)⟩
      obtain ⟨more, e1, e2⟩ := pick
      refine fIx_at rfl (atI_nat e1) ?_
      refine ⟨⟨_, rfl⟩, _, rfl, ?_⟩
      have c1 : cut (ws.map PyData.int) none (some (j : Int)) = (ws.take j).map PyData.int := cut_take PyData.int ws (by omega)
      have c2 : cut (ws.map PyData.int) (some ((j : Int) + 1)) none = (ws.drop (j + 1)).map PyData.int := by rw [cut_map, cut_from _ (by omega) (by omega)]; rfl
      rw [c1]
      refine ⟨by rw [List.length_map, List.length_take]; exact sm _ (by omega), fIx_at rfl (atI_map PyData.int (List.getElem?_eq_getElem hj)) ?_⟩
      walk_at "fd"
      refine ⟨_, rfl, show 1 ≤ 1000000 by decide, _, _, rfl, rfl, ?_, ?_⟩
      · rw [List.length_append, List.length_map, List.length_take]
        exact Nat.le_trans (show min j ws.length + 1 ≤ 100 by omega) (by decide)
      walk_at "fd"
      refine ⟨_, rfl, ?_⟩
      rw [c2]
      have ea : (ws.take j).map PyData.int ++ [PyData.int (ws[j] + more)] ++ (ws.drop (j + 1)).map PyData.int = (ws.take j ++ [ws[j] + more] ++ ws.drop (j + 1)).map PyData.int := by simp
      have el : (ws.take j ++ [ws[j] + more] ++ ws.drop (j + 1)).length = ws.length := by
        rw [List.length_append, List.length_append, List.length_take, List.length_drop]
        show min j ws.length + 1 + _ = _
        omega
      refine ⟨by rw [List.length_map, List.length_drop]; exact sm _ (by omega), _, _, rfl, rfl, ?_, ?_⟩
      · rw [ea, List.length_map, el]
        exact sm _ (by omega)
      · rw [ea]
        refine ⟨1, _, _, rfl, rfl, rfl, Nat.lt_of_le_of_lt (show vals.length ≤ 100 by omega) (by decide), ?_⟩
        walk_at "fd"
        refine ⟨_, w4, rfl, ?_, fun v hv' => ?_, hw4.mono (by omega)⟩
        · rw [List.length_append]
          show vals.length + 1 ≤ _
          omega
        · rcases List.mem_append.mp hv' with hv' | hv'
          · exact hv v hv'
          · have : v = intsD (ws.take j ++ [ws[j] + more] ++ ws.drop (j + 1)) := List.mem_singleton.mp hv'
            subst this
            refine .ints (by omega) fun x hx => ?_
            rcases List.mem_append.mp hx with hx | hx
            · rcases List.mem_append.mp hx with hx | hx
              · exact sQ x (List.mem_of_mem_take hx)
              · have : x = ws[j] + more := by simpa using hx
                subst this
                exact Nat.lt_of_lt_of_le (sz_add sj e2) (Nat.pow_le_pow_right (by omega) (by decide))
            · exact sQ x (List.mem_of_mem_drop hx)
  · rintro ρ S ⟨vals, w', rfl, rfl, hl, hv, hw'⟩
    rw [rangeW_len] at hl hw'
    walk_at "fd"
    refine ⟨1, _, rfl, rfl, ?_⟩
    walk_at "fd"
    exact h vals w' (Nat.le_trans hl (by decide)) hv hw'
def sp__law_right (ad : Str → Addr) : CSp := fun c ds Q _ => ∃ (n : Nat) (w : List PyData) (size : Nat), c = .l w ∧ Well n w ∧ n ≤ 500000 ∧ ds = [.int size] ∧ 1 ≤ size ∧ size ≤ 12 ∧ ∀ w', Well (n + 400) w' → Q (.bool true) (.l w')
def m__law_right (ad : Str → Addr) : MS := (mSeq (mSet 2 (mCallC sp__law_moves (mCons (mV 0) (mCons (mV 1) mNil))))
    (mSeq (mSet 3 (mTup (mCons (mBin iAdd (mC (.int 1)) (mCallC sp__law_pick (mCons (mV 0) (mCons (mBin iMul (mC (.int 3)) (mV 1)) mNil)))) (mCons (mBin iAdd (mC (.int 1)) (mCallC sp__law_pick (mCons (mV 0) (mCons (mC (.int 4)) mNil)))) mNil))))
    (mSeq (mSet 4 (mCallCL sp__law_odd newO (mCons (mV 0) (mCons (mBin iSub (mV 1) (mC (.int 1))) mNil))))
    (mSeq (mFor (mItR1 (mC (.int 12))) (mgN 5)
    (mSeq (mDrop (mBM fApp (mV 4) (mCons (mLc newF (mItR1 (mBin iSub (mV 1) (mC (.int 1)))) (mgN 7) mYes (mCallC sp__law_pick (mCons (mV 0) (mCons (mC (.int 4)) mNil))) [7]) mNil)))
    (mWipe [5] mNext)))
    (mFrz 4 (mSeq (mIfS (mNotT (mB (mCallP (sp__law_same ad) [] (mCons (mV 2) (mCons (mV 3) (mCons (mV 4) mNil))))))
    (mRet (mC (.bool false)))
    mNext)
    (mSeq (mFor (mItL (mLst (mCons (mCallP (sp_fast_paper ad) [] (mCons (mV 2) (mCons (mV 3) mNil))) (mCons (mCallP (sp_slow_paper ad) [] (mCons (mV 2) (mCons (mV 3) mNil))) mNil)))) (mgN 6)
    (mSeq (mIfS (mAndT (mB (mBin (fIsN true) (mV 6) (mC .none))) (mNotT (mB (mCallP (sp__law_same ad) [] (mCons (mV 2) (mCons (mV 3) (mCons (mCallC sp__law_changed (mCons (mV 0) (mCons (mV 6) mNil))) mNil)))))))
    (mRet (mC (.bool false)))
    mNext)
    (mWipe [6] mNext)))
    (mRet (mC (.bool true))))))))))
theorem pl__law_right {ad : Str → Addr} : ∀ c ds Q E, sp__law_right ad c ds Q E → ds.length + 1 = 2 := fun c ds Q E ⟨v, w, _, _, _, _, e, _⟩ => by rw [e]; rfl
/-- what is told as a paper: a list of so many numbers, or None -/
theorem fast_told {ms : List Int} {T B : Int} (t : tabI ms) (ro : rateOk T B) : ∀ xs, fastR (rowsOf ms T B) = some xs → xs.length = ms.length - 1 ∧ szL bitsQ xs := by
  intro xs h
  have RI := rows_in t ro
  generalize rowsOf ms T B = rows at RI h
  generalize ms.length - 1 = N at RI ⊢
  have hN := RI.most
  unfold fastR at h
  rw [RI.len] at h
  cases q : (List.range N).find? (fun l => decide (fastVal rows l ≤ 0)) with
  | none => rw [q] at h; cases h
  | some l =>
    rw [q] at h
    cases h
    rw [List.find?_range_eq_some] at q
    obtain ⟨q1, q2, q3⟩ := q
    have hl : l < N := by simpa using q2
    have FA := fast_at RI.len RI.lens RI.sz (by omega) hl (fast_pre RI.len RI.lens RI.sz (by omega) l (by omega) fun k hk => by have := q3 k hk; simp at this; omega)
    have bl : bd 1001 l ≤ 2052095 := bd12 (by omega)
    have bl2 : (l + 1) * bd 1001 l ≤ 11 * 2052095 := Nat.mul_le_mul (by omega) bl
    refine ⟨by rw [List.length_append, List.length_replicate, FA.nlen]; omega, fun x hx => ?_⟩
    rcases List.mem_append.mp hx with hx | hx
    · exact Nat.lt_of_lt_of_le (FA.nsz x hx) (Nat.pow_le_pow_right (by omega) (by show _ ≤ 40000000; omega))
    · rw [(List.mem_replicate.mp hx).2]
      exact Nat.pow_pos (by omega)
theorem slow_told {ms : List Int} {T B : Int} (t : tabI ms) (ro : rateOk T B) : ∀ xs, slowR (rowsOf ms T B) = some xs → xs.length = ms.length - 1 ∧ szL bitsQ xs := by
  intro xs h
  have RI := rows_in t ro
  generalize rowsOf ms T B = rows at RI h
  generalize ms.length - 1 = N at RI ⊢
  have hN := RI.most
  unfold slowR at h
  have RO := slowDone_ok RI.len RI.lens RI.sz (by omega)
  have hlen := RO.len
  by_cases hl : (slowDone rows).length < rows.length
  · rw [if_pos hl] at h; cases h
  · rw [if_neg hl] at h
    have rl := RI.len
    have SA := slow_at RI.len RI.lens RI.sz (by omega) (show (slowDone rows).length = N by omega)
    have b1 := bd12 hN
    have b2 : N * bd 1001 N ≤ 11 * 2052095 := Nat.mul_le_mul hN b1
    split at h
    · cases h
      exact ⟨SA.nlen, SA.nsz.mono (by show _ ≤ 40000000; omega)⟩
    · cases h
theorem pure__law_right {ad : Str → Addr} : ∀ c ds Q E, flat c = true → sp__law_right ad c ds Q E → m__law_right ad (endsC Q E) (stE 8 (.c 0 :: ds.map .p)) [c] := by
  rintro c ds Q E _ ⟨n, w, size, rfl, hw, hn, rfl, z1, z2, h⟩
  have sm : ∀ n, n ≤ 100 → n ≤ small := fun n h => Nat.le_trans h (by decide)
  unfold m__law_right
  walk_at "fd"
  refine ⟨0, _, _, _, rfl, rfl, rfl, rfl, n, w, size, rfl, hw, by omega, rfl, z1, z2, fun ms w1 t tl hw1 => ?_⟩
  walk_at "fd"
  refine ⟨cmul_of (A := 40) (B := 40) (by decide) (by omega) (by decide), 0, _, _, _, rfl, rfl, rfl, rfl, _, w1, 3 * size, rfl, hw1, by omega, rfl, by omega, lt8000 (by omega), fun r w2 r0 r1 hw2 => ?_⟩
  walk_at "fd"
  refine ⟨0, _, _, _, rfl, rfl, rfl, rfl, _, w2, 4, rfl, hw2, by omega, rfl, by omega, lt8000 (by omega), fun r' w3 r0' r1' hw3 => ?_⟩
  walk_at "fd"
  refine ⟨_, rfl, show 2 ≤ 1000000 by decide, ?_⟩
  have big : ∀ {x : Int}, x.natAbs < 2 ^ 20 → x.natAbs < 2 ^ 1000 := fun h => Nat.lt_of_lt_of_le h (Nat.pow_le_pow_right (by omega) (by decide))
  have ro : rateOk (1 + r) (1 + r') := ⟨by omega, by omega, big (by omega), big (by omega)⟩
  generalize 1 + r = T at ro
  generalize 1 + r' = B at ro
  have es : (size : Int) - 1 = ((size - 1 : Nat) : Int) := by omega
  rw [es]
  refine ⟨0, _, _, _, rfl, rfl, rfl, rfl, _, w3, size - 1, rfl, hw3, by omega, rfl, by omega, fun vals w4 hvl hv hw4 => ?_⟩
  refine ⟨sm _ hvl, ?_⟩
  unfold mFor
  walk_at "fd"
  refine ⟨⟨by omega, by omega⟩, fun i ρ S => ∃ vals w', ρ = [some (.c 0), some (.p (.int size)), some (.p (intsD ms)), some (.p (rateD T B)), some (.c 1), none, none, none] ∧ S = [.l w', .l vals] ∧ vals.length ≤ 100 + i ∧ (∀ v ∈ vals, VOk v) ∧ Well (n + 44 + 12 * i) w', ⟨vals, w4, rfl, rfl, by omega, hv, hw4.mono (by omega)⟩, ?_, ?_, fun _ _ _ _ => trivial⟩
  · rintro i it ρ S hit ⟨vals, w', rfl, rfl, hl, hv, hw'⟩
    have hi : i < 12 := by have := (List.getElem?_eq_some_iff.mp hit).1; rw [rangeW_len] at this; exact this
    walk_at "fd"
    rw [es]
    refine ⟨⟨_, rfl⟩, ⟨by omega, by omega⟩, ?_⟩
    rw [Int.toNat_natCast]
    refine lc_wells (q := 1) (fun w => [.l w, .l vals]) (fun _ d => ∃ x, d = .int x ∧ 0 ≤ x ∧ x ≤ 3) (by omega) hw' (fun j w5 hj hw5 Y Z hY => ?_) fun ds w5 hdl hP hw5 => ?_
    · unfold stepLc
      walk_at "fd"
      refine ⟨0, _, _, _, rfl, rfl, rfl, rfl, _, w5, 4, rfl, hw5, by omega, rfl, by omega, lt8000 (by omega), fun r w6 q0 q1 hw6 => ?_⟩
      exact ⟨_, rfl, hY _ _ ⟨_, rfl, by omega, by omega⟩ hw6⟩
    · obtain ⟨xs, rfl, hx⟩ := ints_of_P (P := fun _ x => 0 ≤ x ∧ x ≤ 3) hP
      rw [List.length_map] at hdl
      refine ⟨by rw [List.length_map]; exact sm _ (by omega), 1, _, _, rfl, rfl, rfl, Nat.lt_of_le_of_lt (show vals.length ≤ 200 by omega) (by decide), ?_⟩
      walk_at "fd"
      refine ⟨_, w5, rfl, ?_, fun v hv' => ?_, hw5.mono (by omega)⟩
      · rw [List.length_append]
        show vals.length + 1 ≤ _
        omega
      · rcases List.mem_append.mp hv' with hv' | hv'
        · exact hv v hv'
        · have : v = intsD xs := List.mem_singleton.mp hv'
          subst this
          refine .ints (by omega) fun x hx' => szP ?_
          obtain ⟨k, hk, rfl⟩ := List.getElem_of_mem hx'
          have := hx k _ (List.getElem?_eq_getElem hk)
          omega
  · rintro ρ S ⟨vals, w', rfl, rfl, hl, hv, hw'⟩
    rw [rangeW_len] at hl hw'
    walk_at "fd"
    refine ⟨1, _, rfl, rfl, ?_⟩
    walk_at "fd"
    refine ⟨_, rfl, ms, T, B, vals, rfl, t, ro, Nat.le_trans hl (by decide), hv, ?_⟩
    walk_at "fd"
    refine ⟨_, rfl, _, _, rfl, goodMR.of t ro ?_⟩
    walk_at "fd"
    refine ⟨_, rfl, _, _, rfl, goodMR.of t ro ?_⟩
    walk_at "fd"
    refine ⟨_, rfl, show 2 ≤ 1000000 by decide, ?_⟩
    refine ⟨_, _, rfl, fun i ρ S => ∃ w', ρ = [some (.c 0), some (.p (.int size)), some (.p (intsD ms)), some (.p (rateD T B)), some (.p (.list vals)), none, none, none] ∧ S = [.l w', .dead] ∧ Well (n + 200 + 12 * i) w', ⟨w', rfl, rfl, hw'.mono (by omega)⟩, ?_, ?_, fun _ _ _ _ => trivial⟩
    · rintro i it ρ S hit ⟨w', rfl, rfl, hw'⟩
      have hi : i < 2 := by have := (List.getElem?_eq_some_iff.mp hit).1; simpa using this
      have ex : ∃ o : Option (List Int), it = .p (optD o) ∧ ∀ xs, o = some xs → xs.length = ms.length - 1 ∧ szL bitsQ xs := by
        match i, hi with
        | 0, _ =>
          cases hit
          exact ⟨_, rfl, fast_told t ro⟩
        | 1, _ =>
          cases hit
          exact ⟨_, rfl, slow_told t ro⟩
      obtain ⟨o, rfl, ho⟩ := ex
      cases o with
      | none =>
        walk_at "fd"
        simp only [optD]
        walk_at "fd"
        exact ⟨w', rfl, hw'.mono (by omega)⟩
      | some xs =>
        obtain ⟨o1, o2⟩ := ho xs rfl
        simp only [optD]
        walk_at "fd"
        refine ⟨0, _, _, _, rfl, rfl, rfl, rfl, _, w', xs, rfl, hw', by omega, rfl, by omega, o2, fun vs w5 v1 v2 hw5 => ?_⟩
        walk_at "fd"
        refine ⟨_, rfl, ms, T, B, vs, rfl, t, ro, sm _ v1, v2, ?_⟩
        walk_at "fd"
        exact ⟨w5, rfl, hw5.mono (by omega)⟩
    · rintro ρ S ⟨w', rfl, rfl, hw'⟩
      walk_at "fd"
      exact h w' (hw'.mono (by simp))
def m_law (ad : Str → Addr) : MS := (mSeq (mFor (mItR1 (mCB fMax2 (mCons (mC (.int 1)) (mCons (mCB fMin2 (mCons (mC (.int 4)) (mCons (mCB fLen (mCons (mV 0) mNil)) mNil))) mNil)))) (mgN 1)
    (mSeq (mSet 2 (mCallSL sp__law_well newO (mCons (mV 0) (mCons (mV 1) mNil))))
    (mSeq (mFor (mItL (mLst (mCons (mC (.int 1)) (mCons (mC (.int 2)) (mCons (mC (.int 3)) (mCons (mC (.int 4)) (mCons (mC (.int 5)) (mCons (mBin iAdd (mC (.int 1)) (mCallC sp__law_pick (mCons (mV 2) (mCons (mC (.int 12)) mNil)))) (mCons (mC (.int 12)) mNil))))))))) (mgN 3)
    (mSeq (mIfS (mOrT (mNotT (mB (mCallC (sp__law_right ad) (mCons (mV 2) (mCons (mV 3) mNil))))) (mNotT (mB (mCallC (sp__law_right ad) (mCons (mV 2) (mCons (mV 3) mNil))))))
    (mRet (mC (.bool false)))
    mNext)
    (mWipe [3] mNext)))
    (mWipe [1, 2, 3] mNext))))
    (mSeq (mSet 4 (mLst (mCons (mC (.int 1)) (mCons (mC (.int 2)) (mCons (mC (.int 0)) mNil)))))
    (mSeq (mSet 5 (mLst (mCons (mCallP (sp_is_fast_paper ad) [] (mCons (mV 4) (mCons (mTup (mCons (mC (.int 3)) (mCons (mC (.int 2)) mNil))) (mCons (mLst (mCons (mC (.int 1)) (mCons (mC (.int 2)) mNil))) mNil)))) (mCons (mCallP (sp_is_slow_paper ad) [] (mCons (mV 4) (mCons (mTup (mCons (mC (.int 2)) (mCons (mC (.int 1)) mNil))) (mCons (mLst (mCons (mC (.int 2)) (mCons (mC (.int 3)) mNil))) mNil)))) mNil))))
    (mSeq (mSet 5 (mBin (fCat newF) (mV 5) (mLst (mCons (mCallP (sp_is_fast_paper ad) [] (mCons (mV 4) (mCons (mTup (mCons (mC (.int 3)) (mCons (mC (.int 2)) mNil))) (mCons (mLst (mCons (mC (.int 0)) (mCons (mC (.int 0)) mNil))) mNil)))) (mCons (mCallP (sp_is_slow_paper ad) [] (mCons (mLst (mCons (mC (.int 0)) mNil)) (mCons (mTup (mCons (mC (.int 1)) (mCons (mC (.int 1)) mNil))) (mCons (mLst mNil) mNil)))) (mCons (mCallP (sp_is_fast_paper ad) [] (mCons (mLst (mCons (mC (.int 0)) mNil)) (mCons (mTup (mCons (mC (.int 1)) (mCons (mC (.int 1)) mNil))) (mCons (mLst mNil) mNil)))) mNil))))))
    (mRet (mBin (fEqD false) (mV 5) (mLst (mCons (mC (.bool true)) (mCons (mC (.bool true)) (mCons (mC (.bool false)) (mCons (mC (.bool true)) (mCons (mC (.bool false)) mNil))))))))))))
theorem set_at {S : So} {k : Nat} {c d : Cell} (h : S[k]? = some c) : (S.set k d)[k]? = some d := by
  rw [List.getElem?_set_self (List.getElem?_eq_some_iff.mp h).1]
theorem pure_law {ad : Str → Addr} : ∀ ns : List Int, ns.length ≤ 63 → m_law ad endsE (stE 6 [.s (ns.map .int)]) [] := by
  intro ns hn
  unfold m_law
  unfold mFor
  walk_at "fd"
  refine ⟨_, _, rfl, .inl rfl, _, _, rfl, _, _, rfl, ⟨by omega, by omega⟩, fun i ρ S => ρ = [some (.s (ns.map .int)), none, none, none, none, none], rfl, ?_, ?_, fun _ _ _ _ => trivial⟩
  · rintro i it ρ S hit rfl
    have hi := (List.getElem?_eq_some_iff.mp hit).1
    rw [rangeW_len, List.length_map] at hi
    rw [List.length_map] at hit
    rw [rangeW_get (by omega)] at hit
    cases hit
    walk_at "fd"
    rw [Int.zero_add]
    refine ⟨_, _, _, rfl, rfl, ns, i, rfl, rfl, by omega, fun w hw => ⟨?_, ?_⟩⟩
    · obtain ⟨a, b, c, rfl, _⟩ := hw
      exact show 3 ≤ 1000000 by decide
    have hk : (S ++ [Cell.l w])[S.length]? = some (.l w) := by simp
    generalize S ++ [Cell.l w] = S1 at hk ⊢
    generalize S.length = k at hk ⊢
    walk_at "fd"
    refine ⟨k, _, _, _, rfl, hk, rfl, rfl, _, w, 12, rfl, hw, by omega, rfl, by omega, lt8000 (by omega), fun r w1 r0 r1 hw1 => ?_⟩
    walk_at "fd"
    refine ⟨_, rfl, show 7 ≤ 1000000 by decide, _, _, rfl, fun j ρ S => ∃ w', ρ = [some (.s (ns.map .int)), some (.p (.int i)), some (.c k), none, none, none] ∧ S[k]? = some (.l w') ∧ Well (1 + 800 * j) w', ⟨w1, rfl, set_at hk, hw1⟩, ?_, ?_, fun _ _ _ _ => trivial⟩
    · rintro j it ρ S hit ⟨w', rfl, hk', hw'⟩
      have hj : j < 7 := by have := (List.getElem?_eq_some_iff.mp hit).1; simpa using this
      have ex : ∃ size : Nat, it = .p (.int size) ∧ 1 ≤ size ∧ size ≤ 12 := by
        match j, hj with
        | 0, _ => cases hit; exact ⟨1, rfl, by omega, by omega⟩
        | 1, _ => cases hit; exact ⟨2, rfl, by omega, by omega⟩
        | 2, _ => cases hit; exact ⟨3, rfl, by omega, by omega⟩
        | 3, _ => cases hit; exact ⟨4, rfl, by omega, by omega⟩
        | 4, _ => cases hit; exact ⟨5, rfl, by omega, by omega⟩
        | 5, _ =>
          cases hit
          obtain ⟨r, rfl⟩ := Int.eq_ofNat_of_zero_le r0
          exact ⟨1 + r, by simp, by omega, by omega⟩
        | 6, _ => cases hit; exact ⟨12, rfl, by omega, by omega⟩
      obtain ⟨size, rfl, z1, z2⟩ := ex
      walk_at "fd"
      refine ⟨k, _, _, _, rfl, hk', rfl, rfl, _, w', size, rfl, hw', by omega, rfl, z1, z2, fun w2 hw2 => ?_⟩
      walk_at "fd"
      refine ⟨k, _, _, _, rfl, set_at hk', rfl, rfl, _, w2, size, rfl, hw2, by omega, rfl, z1, z2, fun w3 hw3 => ?_⟩
      walk_at "fd"
      exact ⟨w3, set_at (set_at hk'), hw3.mono (by omega)⟩
    · rintro ρ S ⟨w', rfl, hk', hw'⟩
      walk_at "fd"
  · rintro ρ S rfl
    walk_at "fd"
    have t3 : tabI [1, 2, 0] := ⟨by decide, by decide, by decide⟩
    have t1 : tabI [0] := ⟨by decide, by decide, by decide⟩
    have r32 : rateOk 3 2 := ⟨by decide, by decide, by decide +kernel, by decide +kernel⟩
    have r21 : rateOk 2 1 := ⟨by decide, by decide, by decide +kernel, by decide +kernel⟩
    have r11 : rateOk 1 1 := ⟨by decide, by decide, by decide +kernel, by decide +kernel⟩
    have vo : ∀ ws : List Int, ws.length ≤ 100 → (∀ x ∈ ws, x.natAbs < 2 ^ 100) → valOk (intsD ws) := fun ws h1 h2 => (VOk.ints h1 fun x hx => szP (h2 x hx)).val
    have s2 : ∀ a b : PyData, [a, b].length ≤ small := fun _ _ => show 2 ≤ 1000000 by decide
    have s1 : ∀ a : PyData, [a].length ≤ small := fun _ => show 1 ≤ 1000000 by decide
    refine ⟨_, rfl, show 3 ≤ 1000000 by decide, _, rfl, s2 _ _, _, rfl, s2 _ _, _, rfl, _, _, _, rfl, goodMR.of (ms := [1, 2, 0]) t3 r32 ⟨vo [1, 2] (by decide) (by decide), ?_⟩⟩
    refine ⟨_, rfl, s2 _ _, _, rfl, s2 _ _, _, rfl, _, _, _, rfl, goodMR.of (ms := [1, 2, 0]) t3 r21 ⟨vo [2, 3] (by decide) (by decide), ?_⟩⟩
    refine ⟨_, rfl, s2 _ _, _, rfl, s2 _ _, _, rfl, s2 _ _, _, rfl, _, _, _, rfl, goodMR.of (ms := [1, 2, 0]) t3 r32 ⟨vo [0, 0] (by decide) (by decide), ?_⟩⟩
    walk_at "fd"
    refine ⟨_, rfl, s1 _, _, rfl, s2 _ _, _, rfl, Nat.zero_le _, _, rfl, _, _, _, rfl, goodMR.of (ms := [0]) t1 r11 ⟨vo [] (by decide) (by decide), ?_⟩⟩
    walk_at "fd"
    refine ⟨_, rfl, s1 _, _, rfl, s2 _ _, _, rfl, Nat.zero_le _, _, rfl, _, _, _, rfl, goodMR.of (ms := [0]) t1 r11 ⟨vo [] (by decide) (by decide), ?_⟩⟩
    walk_at "fd"
    rw [show isFastP [1, 2, 0] 3 2 (.list [.int 0, .int 0]) = false by decide +kernel, show isSlowP [0] 1 1 (.list []) = true by decide +kernel, show isFastP [0] 1 1 (.list []) = false by decide +kernel, show isFastP [1, 2, 0] 3 2 (.list [.int 1, .int 2]) = true by decide +kernel, show isSlowP [1, 2, 0] 2 1 (.list [.int 2, .int 3]) = true by decide +kernel]
    refine ⟨_, rfl, show 3 ≤ 1000000 by decide, _, _, rfl, rfl, show 5 ≤ 1000000 by decide, _, rfl, show 5 ≤ 1000000 by decide, _, _, rfl, rfl, by decide +kernel, by decide +kernel, ?_⟩
    show PyData.bool _ = PyData.bool true
    exact congrArg PyData.bool (by decide +kernel)
end Lw
set_option maxRecDepth 100000
set_option maxHeartbeats 0
namespace Lw
open PySem PySem.Spec PyProof.Rows L2

def topS (i : Nat) : Stmt := PySem.Challenge.pw_sureturns_k41_papers_of_rates_judged.main.body.getD i (.Pass ⟨0, 0, 0, 0⟩)
abbrev s_is_integer : Stmt := topS 6
def d_is_integer : He.DefD := ⟨("is_integer", none), "is_integer", "is_integer", defArgs s_is_integer, defBody s_is_integer, defScope s_is_integer, [.non, .non], []⟩
abbrev s_are_integers : Stmt := topS 7
def d_are_integers : He.DefD := ⟨("are_integers", none), "are_integers", "are_integers", defArgs s_are_integers, defBody s_are_integers, defScope s_are_integers, [.non, .non], []⟩
abbrev s_is_table : Stmt := topS 8
def d_is_table : He.DefD := ⟨("is_table", none), "is_table", "is_table", defArgs s_is_table, defBody s_is_table, defScope s_is_table, [], []⟩
abbrev s_need_moves : Stmt := topS 9
def d_need_moves : He.DefD := ⟨("need_moves", none), "need_moves", "need_moves", defArgs s_need_moves, defBody s_need_moves, defScope s_need_moves, [], []⟩
abbrev s_common_divisor : Stmt := topS 10
def d_common_divisor : He.DefD := ⟨("common_divisor", none), "common_divisor", "common_divisor", defArgs s_common_divisor, defBody s_common_divisor, defScope s_common_divisor, [], []⟩
abbrev s_ends_of : Stmt := topS 12
def d_ends_of : He.DefD := ⟨("ends_of", none), "ends_of", "ends_of", defArgs s_ends_of, defBody s_ends_of, defScope s_ends_of, [], []⟩
abbrev s_covered_by : Stmt := topS 13
def d_covered_by : He.DefD := ⟨("covered_by", none), "covered_by", "covered_by", defArgs s_covered_by, defBody s_covered_by, defScope s_covered_by, [], []⟩
abbrev s_one_before : Stmt := topS 14
def d_one_before : He.DefD := ⟨("one_before", none), "one_before", "one_before", defArgs s_one_before, defBody s_one_before, defScope s_one_before, [], []⟩
abbrev s_need_rate : Stmt := topS 16
def d_need_rate : He.DefD := ⟨("need_rate", none), "need_rate", "need_rate", defArgs s_need_rate, defBody s_need_rate, defScope s_need_rate, [], []⟩
abbrev s_rows_of : Stmt := topS 17
def d_rows_of : He.DefD := ⟨("rows_of", none), "rows_of", "rows_of", defArgs s_rows_of, defBody s_rows_of, defScope s_rows_of, [], []⟩
abbrev s_reduced_rows : Stmt := topS 18
def d_reduced_rows : He.DefD := ⟨("reduced_rows", none), "reduced_rows", "reduced_rows", defArgs s_reduced_rows, defBody s_reduced_rows, defScope s_reduced_rows, [], []⟩
abbrev s_without : Stmt := topS 19
def d_without : He.DefD := ⟨("without", none), "without", "without", defArgs s_without, defBody s_without, defScope s_without, [], []⟩
abbrev s_times_to_whole : Stmt := topS 20
def d_times_to_whole : He.DefD := ⟨("times_to_whole", none), "times_to_whole", "times_to_whole", defArgs s_times_to_whole, defBody s_times_to_whole, defScope s_times_to_whole, [], []⟩
abbrev s_slow_for : Stmt := topS 21
def d_slow_for : He.DefD := ⟨("slow_for", none), "slow_for", "slow_for", defArgs s_slow_for, defBody s_slow_for, defScope s_slow_for, [], []⟩
abbrev s_holds_fast : Stmt := topS 22
def d_holds_fast : He.DefD := ⟨("holds_fast", none), "holds_fast", "holds_fast", defArgs s_holds_fast, defBody s_holds_fast, defScope s_holds_fast, [], []⟩
abbrev s_fast_for : Stmt := topS 23
def d_fast_for : He.DefD := ⟨("fast_for", none), "fast_for", "fast_for", defArgs s_fast_for, defBody s_fast_for, defScope s_fast_for, [], []⟩
abbrev s_fast_paper : Stmt := topS 24
def d_fast_paper : He.DefD := ⟨("fast_paper", none), "fast_paper", "fast_paper", defArgs s_fast_paper, defBody s_fast_paper, defScope s_fast_paper, [], []⟩
abbrev s_slow_paper : Stmt := topS 25
def d_slow_paper : He.DefD := ⟨("slow_paper", none), "slow_paper", "slow_paper", defArgs s_slow_paper, defBody s_slow_paper, defScope s_slow_paper, [], []⟩
abbrev s_is_fast_paper : Stmt := topS 26
def d_is_fast_paper : He.DefD := ⟨("is_fast_paper", none), "is_fast_paper", "is_fast_paper", defArgs s_is_fast_paper, defBody s_is_fast_paper, defScope s_is_fast_paper, [], []⟩
abbrev s_is_slow_paper : Stmt := topS 27
def d_is_slow_paper : He.DefD := ⟨("is_slow_paper", none), "is_slow_paper", "is_slow_paper", defArgs s_is_slow_paper, defBody s_is_slow_paper, defScope s_is_slow_paper, [], []⟩
abbrev s__law_well : Stmt := topS 29
def d__law_well : He.DefD := ⟨("_law_well", none), "_law_well", "_law_well", defArgs s__law_well, defBody s__law_well, defScope s__law_well, [], []⟩
abbrev s__law_pick : Stmt := topS 30
def d__law_pick : He.DefD := ⟨("_law_pick", none), "_law_pick", "_law_pick", defArgs s__law_pick, defBody s__law_pick, defScope s__law_pick, [], []⟩
abbrev s__law_mixed : Stmt := topS 31
def d__law_mixed : He.DefD := ⟨("_law_mixed", none), "_law_mixed", "_law_mixed", defArgs s__law_mixed, defBody s__law_mixed, defScope s__law_mixed, [], []⟩
abbrev s__law_moves : Stmt := topS 32
def d__law_moves : He.DefD := ⟨("_law_moves", none), "_law_moves", "_law_moves", defArgs s__law_moves, defBody s__law_moves, defScope s__law_moves, [], []⟩
abbrev s__law_sums : Stmt := topS 33
def d__law_sums : He.DefD := ⟨("_law_sums", none), "_law_sums", "_law_sums", defArgs s__law_sums, defBody s__law_sums, defScope s__law_sums, [], []⟩
abbrev s__law_are_whole : Stmt := topS 34
def d__law_are_whole : He.DefD := ⟨("_law_are_whole", none), "_law_are_whole", "_law_are_whole", defArgs s__law_are_whole, defBody s__law_are_whole, defScope s__law_are_whole, [], []⟩
abbrev s__law_is_fast : Stmt := topS 35
def d__law_is_fast : He.DefD := ⟨("_law_is_fast", none), "_law_is_fast", "_law_is_fast", defArgs s__law_is_fast, defBody s__law_is_fast, defScope s__law_is_fast, [], []⟩
abbrev s__law_is_slow : Stmt := topS 36
def d__law_is_slow : He.DefD := ⟨("_law_is_slow", none), "_law_is_slow", "_law_is_slow", defArgs s__law_is_slow, defBody s__law_is_slow, defScope s__law_is_slow, [], []⟩
abbrev s__law_copy : Stmt := topS 37
def d__law_copy : He.DefD := ⟨("_law_copy", none), "_law_copy", "_law_copy", defArgs s__law_copy, defBody s__law_copy, defScope s__law_copy, [], []⟩
abbrev s__law_same : Stmt := topS 38
def d__law_same : He.DefD := ⟨("_law_same", none), "_law_same", "_law_same", defArgs s__law_same, defBody s__law_same, defScope s__law_same, [], []⟩
abbrev s__law_odd : Stmt := topS 39
def d__law_odd : He.DefD := ⟨("_law_odd", none), "_law_odd", "_law_odd", defArgs s__law_odd, defBody s__law_odd, defScope s__law_odd, [], []⟩
abbrev s__law_changed : Stmt := topS 40
def d__law_changed : He.DefD := ⟨("_law_changed", none), "_law_changed", "_law_changed", defArgs s__law_changed, defBody s__law_changed, defScope s__law_changed, [], []⟩
abbrev s__law_right : Stmt := topS 41
def d__law_right : He.DefD := ⟨("_law_right", none), "_law_right", "_law_right", defArgs s__law_right, defBody s__law_right, defScope s__law_right, [], []⟩
abbrev s_law : Stmt := topS 42
def d_law : He.DefD := ⟨("law", none), "law", "law", defArgs s_law, defBody s_law, defScope s_law, [], []⟩
def fnL : List He.DefD := [d_is_integer, d_are_integers, d_is_table, d_need_moves, d_common_divisor, d_ends_of, d_covered_by, d_one_before, d_need_rate, d_rows_of, d_reduced_rows, d_without, d_times_to_whole, d_slow_for, d_holds_fast, d_fast_for, d_fast_paper, d_slow_paper, d_is_fast_paper, d_is_slow_paper, d__law_well, d__law_pick, d__law_mixed, d__law_moves, d__law_sums, d__law_are_whole, d__law_is_fast, d__law_is_slow, d__law_copy, d__law_same, d__law_odd, d__law_changed, d__law_right, d_law]
def faL : List He.Fa := [.glo "is_integer", .glo "are_integers", .glo "is_table", .glo "need_moves", .glo "common_divisor", .glo "ends_of", .glo "covered_by", .glo "one_before", .glo "need_rate", .glo "rows_of", .glo "reduced_rows", .glo "without", .glo "times_to_whole", .glo "slow_for", .glo "holds_fast", .glo "fast_for", .glo "fast_paper", .glo "slow_paper", .glo "is_fast_paper", .glo "is_slow_paper", .glo "_law_well", .glo "_law_pick", .glo "_law_mixed", .glo "_law_moves", .glo "_law_sums", .glo "_law_are_whole", .glo "_law_is_fast", .glo "_law_is_slow", .glo "_law_copy", .glo "_law_same", .glo "_law_odd", .glo "_law_changed", .glo "_law_right", .glo "law", .glo "TurnError", .exc "TurnError", .glo "InvalidMoves", .exc "InvalidMoves", .glo "InvalidRate", .exc "InvalidRate", .free "len", .free "abs", .free "int", .free "isinstance", .free "list", .free "max", .free "min", .free "range", .free "sum", .free "zip", .free "enumerate", .free "all", .free "any", .free "repr", .free "tuple", .free "bool", .free "ValueError", .int "MOST_PLACES" 12]
def loose0 : List PySem.Str := ["TurnError", "InvalidMoves", "InvalidRate", "MOST_PLACES", "is_integer", "are_integers", "is_table", "need_moves", "common_divisor", "ends_of", "covered_by", "one_before", "need_rate", "rows_of", "reduced_rows", "without", "times_to_whole", "slow_for", "holds_fast", "fast_for", "fast_paper", "slow_paper", "is_fast_paper", "is_slow_paper", "_law_well", "_law_pick", "_law_mixed", "_law_moves", "_law_sums", "_law_are_whole"]
def loose1 : List PySem.Str := ["_law_is_fast", "_law_is_slow", "_law_copy", "_law_same", "_law_odd", "_law_changed", "_law_right"]
def looseL : List PySem.Str := loose0 ++ loose1
abbrev R : PySem.W.OpenRow := PySem.W.OpenLaw.row PySem.Challenge.rw_sureturns_k41_papers_of_rates_judged
abbrev hk : PySem.W.Hook := He.hookD 4 faL fnL
def ob (s : PySem.W.SharedT) : He.AlD := He.obsDG 4 faL fnL (HandSHeadRun.getT s)
theorem ob_eq (s : PySem.W.SharedT) : ob s = hk.obs s.abs := He.obsDG_eq (HandSHeadRun.getT_eq s)
theorem run (w : World) : HandSHeadRun.RunEq R (PySem.W.view R.prog [42]) hk ob 6000 looseL w := by
  intro os
  kernel_rfl
/-- what the top leaves, over the base of a call -/
structure Tx (P : Program) (w : World) (K : PySem.W.Frag) (mg : Str → Option Value) (base : Heap) : Prop where
  sd : He.SaysD faL fnL K
  kin : K.In base
  ns : base.Ns mainGlobals mg
  seer : base.NoSeer
  tree : P.given.tree = none
section
variable {P : Program} {w : World} {K : PySem.W.Frag} {mg : Str → Option Value} {base : Heap}
theorem Tx.gl (T : Tx P w K mg base) (i : Nat) {x : Str} (h : faL[i]? = some (.glo x)) : mg x = some (.ref (He.ga K x)) := He.glo_ok T.kin T.ns (T.sd.fact i h)
theorem Tx.fr (T : Tx P w K mg base) (i : Nat) {x : Str} (h : faL[i]? = some (.free x)) : mg x = none := He.free_ok T.kin T.ns (T.sd.fact i h)
theorem Tx.it (T : Tx P w K mg base) (i : Nat) {x : Str} {n : Int} (h : faL[i]? = some (.int x n)) : ∃ t, mg x = some (.int n t) := He.int_ok T.kin T.ns (T.sd.fact i h)
theorem Tx.st (T : Tx P w K mg base) (i : Nat) {x z : Str} (h : faL[i]? = some (.str x z)) : ∃ t, mg x = some (.str z t) := He.str_ok T.kin T.ns (T.sd.fact i h)
end
def adr (K : PySem.W.Frag) (x : Str) : Addr := He.ga K x
end Lw
set_option maxRecDepth 100000
set_option maxHeartbeats 0
namespace Lw
open PySem PySem.Spec PyProof.Rows L2 Fd

abbrev N_is_integer : List Str := ["value", "low", "high"]
theorem sc_is_integer : FnScope N_is_integer ["value", "low", "high"] (defScope s_is_integer) := ⟨rfl, rfl, rfl, by decide +kernel, rfl, by decide +kernel, by decide +kernel⟩
theorem fn_is_integer {P : Program} {w : World} {K : PySem.W.Frag} {mg : Str → Option Value} {base : Heap} (T : Tx P w K mg base) : ∃ fd, FunD K "is_integer" "is_integer" (defArgs s_is_integer) (defBody s_is_integer) (defScope s_is_integer) [.non, .non] [] (He.ga K "is_integer") fd ∧ FnG P w K mg base 42 (He.ga K "is_integer") fd ["value", "low", "high"] (LiftP K (sp_is_integer)) := by
  obtain ⟨fd, F0⟩ := T.sd.def_ 0 (d := d_is_integer) rfl
  have F : FunD K "is_integer" "is_integer" (defArgs s_is_integer) (defBody s_is_integer) (defScope s_is_integer) [.non, .non] [] (He.ga K "is_integer") fd := F0
  refine ⟨fd, F, okP F sc_is_integer (k := 41) (m := m_is_integer) (fun cdv A outer s H E hr hg tk hp => ?_) pl_is_integer pure_is_integer⟩
  have f_isinstance : mg "isinstance" = none := T.fr 43 rfl
  have f_bool : mg "bool" = none := T.fr 55 rfl
  have f_int : mg "int" = none := T.fr 42 rfl
  have hu : (A.deeper (envOfC "is_integer" (defScope s_is_integer) s.heap.objs.size (He.ga K "is_integer") cdv)).units + 64 < cLine := hr.units
  exact (qss_cons (qs_if (QW.qt (qw_or (qt_not (qt_val (qe_is kit_int (by decide +kernel) f_isinstance f_int (qe_var 0)))) (qw_or1 (qt_val (qe_is kit_bool (by decide +kernel) f_isinstance f_bool (qe_var 0))))))
    (qss_one (qs_ret qe_bl))
    qss_nil)
    (qss_one (qs_ret (qe_and (qe_or (qe_isN (qe_var 1) qe_non) (qe_one (qe_ge (qe_var 0) (qe_var 1)))) (qe_one (qe_or (qe_isN (qe_var 2) qe_non) (qe_one (qe_le (qe_var 0) (qe_var 2)))))))))
theorem cal_is_integer_2 {P : Program} {w : World} {K : PySem.W.Frag} {mg : Str → Option Value} {base : Heap} (T : Tx P w K mg base) : CalF P w K mg base 42 "is_integer" [.non] (LiftP K (sp_is_integer)) := by
  obtain ⟨fd, F, G⟩ := fn_is_integer T
  exact calF_of G (T.gl 0 rfl) F.kp (F.binds1 2 1 (by simp) (by decide) fun _ _ _ _ _ _ _ us its h1 h2 => match us, its, h1, h2 with | [_, _], [_, _], _, _ => ⟨_, rfl, rfl⟩)
theorem cal_is_integer_3 {P : Program} {w : World} {K : PySem.W.Frag} {mg : Str → Option Value} {base : Heap} (T : Tx P w K mg base) : CalF P w K mg base 42 "is_integer" [] (LiftP K (sp_is_integer)) := by
  obtain ⟨fd, F, G⟩ := fn_is_integer T
  exact calF_of G (T.gl 0 rfl) F.kp (F.binds1 3 2 (by simp) (by decide) fun _ _ _ _ _ _ _ us its h1 h2 => match us, its, h1, h2 with | [_, _, _], [_, _], _, _ => ⟨_, rfl, rfl⟩)

abbrev N_are_integers : List Str := ["value", "low", "high", "item"]
theorem sc_are_integers : FnScope N_are_integers ["value", "low", "high"] (defScope s_are_integers) := ⟨rfl, rfl, rfl, by decide +kernel, rfl, by decide +kernel, by decide +kernel⟩
theorem fn_are_integers {P : Program} {w : World} {K : PySem.W.Frag} {mg : Str → Option Value} {base : Heap} (T : Tx P w K mg base) : ∃ fd, FunD K "are_integers" "are_integers" (defArgs s_are_integers) (defBody s_are_integers) (defScope s_are_integers) [.non, .non] [] (He.ga K "are_integers") fd ∧ FnG P w K mg base 43 (He.ga K "are_integers") fd ["value", "low", "high"] (LiftP K (sp_are_integers)) := by
  obtain ⟨fd, F0⟩ := T.sd.def_ 1 (d := d_are_integers) rfl
  have F : FunD K "are_integers" "are_integers" (defArgs s_are_integers) (defBody s_are_integers) (defScope s_are_integers) [.non, .non] [] (He.ga K "are_integers") fd := F0
  refine ⟨fd, F, okP F sc_are_integers (k := 42) (m := m_are_integers) (fun cdv A outer s H E hr hg tk hp => ?_) pl_are_integers pure_are_integers⟩
  have f_all : mg "all" = none := T.fr 51 rfl
  have f_isinstance : mg "isinstance" = none := T.fr 43 rfl
  have f_list : mg "list" = none := T.fr 44 rfl
  have c_is_integer_3 := (cal_is_integer_3 T).at_ hr hg (by decide)
  have hu : (A.deeper (envOfC "are_integers" (defScope s_are_integers) s.heap.objs.size (He.ga K "are_integers") cdv)).units + 64 < cLine := hr.units
  exact (qss_one (qs_ret (qe_and (qe_is kit_list (by decide +kernel) f_isinstance f_list (qe_var 0)) (qe_one (qe_all rfl f_all (qa_cons (qe_lc isF rfl sc_are_integers.nd (qi_list (qe_var 0)) (blkOk_by (own := [("item", 3)]) (N := N_are_integers) (sc := defScope s_are_integers) (by decide +kernel)) (tok_name (i := 3) (vs := [3]) (by decide)) (gName_ok 3) (fun _ _ _ _ _ => (qg_name 3 sc_are_integers.nd)) (fun _ _ _ _ _ => qts_nil) (fun _ _ _ _ _ => (qe_callP (dds := []) (fun _ => .nil) c_is_integer_3 takes0 (qa_cons (qe_var 3) (qa_cons (qe_var 1) (qa_cons (qe_var 2) qa_nil)))))) qa_nil))))))
theorem cal_are_integers_2 {P : Program} {w : World} {K : PySem.W.Frag} {mg : Str → Option Value} {base : Heap} (T : Tx P w K mg base) : CalF P w K mg base 43 "are_integers" [.non] (LiftP K (sp_are_integers)) := by
  obtain ⟨fd, F, G⟩ := fn_are_integers T
  exact calF_of G (T.gl 1 rfl) F.kp (F.binds1 2 1 (by simp) (by decide) fun _ _ _ _ _ _ _ us its h1 h2 => match us, its, h1, h2 with | [_, _], [_, _], _, _ => ⟨_, rfl, rfl⟩)
theorem cal_are_integers_3 {P : Program} {w : World} {K : PySem.W.Frag} {mg : Str → Option Value} {base : Heap} (T : Tx P w K mg base) : CalF P w K mg base 43 "are_integers" [] (LiftP K (sp_are_integers)) := by
  obtain ⟨fd, F, G⟩ := fn_are_integers T
  exact calF_of G (T.gl 1 rfl) F.kp (F.binds1 3 2 (by simp) (by decide) fun _ _ _ _ _ _ _ us its h1 h2 => match us, its, h1, h2 with | [_, _, _], [_, _], _, _ => ⟨_, rfl, rfl⟩)

abbrev N_is_table : List Str := ["value"]
theorem sc_is_table : FnScope N_is_table ["value"] (defScope s_is_table) := ⟨rfl, rfl, rfl, by decide +kernel, rfl, by decide +kernel, by decide +kernel⟩
theorem fn_is_table {P : Program} {w : World} {K : PySem.W.Frag} {mg : Str → Option Value} {base : Heap} (T : Tx P w K mg base) : ∃ fd, FunD K "is_table" "is_table" (defArgs s_is_table) (defBody s_is_table) (defScope s_is_table) [] [] (He.ga K "is_table") fd ∧ FnG P w K mg base 44 (He.ga K "is_table") fd ["value"] (LiftP K (sp_is_table)) := by
  obtain ⟨fd, F0⟩ := T.sd.def_ 2 (d := d_is_table) rfl
  have F : FunD K "is_table" "is_table" (defArgs s_is_table) (defBody s_is_table) (defScope s_is_table) [] [] (He.ga K "is_table") fd := F0
  refine ⟨fd, F, okP F sc_is_table (k := 43) (m := m_is_table) (fun cdv A outer s H E hr hg tk hp => ?_) pl_is_table pure_is_table⟩
  have f_len : mg "len" = none := T.fr 40 rfl
  have g_MOST_PLACES : ∃ t, mg "MOST_PLACES" = some (.int 12 t) := T.it 57 rfl
  have f_isinstance : mg "isinstance" = none := T.fr 43 rfl
  have f_list : mg "list" = none := T.fr 44 rfl
  have c_are_integers_3 := (cal_are_integers_3 T).at_ hr hg (by decide)
  have hu : (A.deeper (envOfC "is_table" (defScope s_is_table) s.heap.objs.size (He.ga K "is_table") cdv)).units + 64 < cLine := hr.units
  exact (qss_one (qs_ret (qe_and (qe_is kit_list (by decide +kernel) f_isinstance f_list (qe_var 0)) (qe_and (qe_chain op_le (iI0 fun _ _ _ => .bl _) op_le (iI0 fun _ _ _ => .bl _) qe_int (qe_len f_len (qa_cons (qe_var 0) qa_nil)) (qe_globI g_MOST_PLACES)) (qe_one (qe_callP (dds := []) (fun _ => .nil) c_are_integers_3 tk (qa_cons (qe_var 0) (qa_cons qe_int (qa_cons (qe_subI (qe_len f_len (qa_cons (qe_var 0) qa_nil)) qe_int) qa_nil)))))))))
theorem cal_is_table {P : Program} {w : World} {K : PySem.W.Frag} {mg : Str → Option Value} {base : Heap} (T : Tx P w K mg base) : CalF P w K mg base 44 "is_table" [] (LiftP K (sp_is_table)) := by
  obtain ⟨fd, F, G⟩ := fn_is_table T
  exact calF_of G (T.gl 2 rfl) F.kp ⟨[], .nil, F.bindsN fun _ _ _ _ _ _ us hl => match us, hl with | [_], _ => rfl⟩

abbrev N_need_moves : List Str := ["moves"]
theorem sc_need_moves : FnScope N_need_moves ["moves"] (defScope s_need_moves) := ⟨rfl, rfl, rfl, by decide +kernel, rfl, by decide +kernel, by decide +kernel⟩
theorem fn_need_moves {P : Program} {w : World} {K : PySem.W.Frag} {mg : Str → Option Value} {base : Heap} (T : Tx P w K mg base) : ∃ fd, FunD K "need_moves" "need_moves" (defArgs s_need_moves) (defBody s_need_moves) (defScope s_need_moves) [] [] (He.ga K "need_moves") fd ∧ FnG P w K mg base 45 (He.ga K "need_moves") fd ["moves"] (LiftP K (sp_need_moves (adr K))) := by
  obtain ⟨fd, F0⟩ := T.sd.def_ 3 (d := d_need_moves) rfl
  have F : FunD K "need_moves" "need_moves" (defArgs s_need_moves) (defBody s_need_moves) (defScope s_need_moves) [] [] (He.ga K "need_moves") fd := F0
  refine ⟨fd, F, okP F sc_need_moves (k := 44) (m := m_need_moves (adr K)) (fun cdv A outer s H E hr hg tk hp => ?_) pl_need_moves pure_need_moves⟩
  have x_InvalidMoves := exc_facts (X := cxOf (L2.CX P w) P w K mg base N_need_moves "need_moves" (defScope s_need_moves) (He.ga K "need_moves") cdv A outer s H E) rfl rfl (T.gl 36 (x := "InvalidMoves") rfl) (He.exc_ok (T.sd.fact 37 (f := .exc "InvalidMoves") rfl))
  have c_is_table := (cal_is_table T).at_ hr hg (by decide)
  have hu : (A.deeper (envOfC "need_moves" (defScope s_need_moves) s.heap.objs.size (He.ga K "need_moves") cdv)).units + 64 < cLine := hr.units
  exact (qss_one (qs_if (qt_not (qt_val (qe_callP (dds := []) (fun _ => .nil) c_is_table tk (qa_cons (qe_var 0) qa_nil))))
    (qss_one (qs_raise rfl tk x_InvalidMoves.1 x_InvalidMoves.2.1 x_InvalidMoves.2.2.1 x_InvalidMoves.2.2.2))
    qss_nil))
theorem cal_need_moves {P : Program} {w : World} {K : PySem.W.Frag} {mg : Str → Option Value} {base : Heap} (T : Tx P w K mg base) : CalF P w K mg base 45 "need_moves" [] (LiftP K (sp_need_moves (adr K))) := by
  obtain ⟨fd, F, G⟩ := fn_need_moves T
  exact calF_of G (T.gl 3 rfl) F.kp ⟨[], .nil, F.bindsN fun _ _ _ _ _ _ us hl => match us, hl with | [_], _ => rfl⟩

abbrev N_common_divisor : List Str := ["one", "other"]
theorem sc_common_divisor : FnScope N_common_divisor ["one", "other"] (defScope s_common_divisor) := ⟨rfl, rfl, rfl, by decide +kernel, rfl, by decide +kernel, by decide +kernel⟩
theorem fn_common_divisor {P : Program} {w : World} {K : PySem.W.Frag} {mg : Str → Option Value} {base : Heap} (T : Tx P w K mg base) : ∃ fd, FunD K "common_divisor" "common_divisor" (defArgs s_common_divisor) (defBody s_common_divisor) (defScope s_common_divisor) [] [] (He.ga K "common_divisor") fd ∧ FnG P w K mg base 42 (He.ga K "common_divisor") fd ["one", "other"] (LiftP K (sp_common_divisor)) := by
  obtain ⟨fd, F0⟩ := T.sd.def_ 4 (d := d_common_divisor) rfl
  have F : FunD K "common_divisor" "common_divisor" (defArgs s_common_divisor) (defBody s_common_divisor) (defScope s_common_divisor) [] [] (He.ga K "common_divisor") fd := F0
  refine ⟨fd, F, okP F sc_common_divisor (k := 41) (m := m_common_divisor) (fun cdv A outer s H E hr hg tk hp => ?_) pl_common_divisor pure_common_divisor⟩
  have f_abs : mg "abs" = none := T.fr 41 rfl
  have hu : (A.deeper (envOfC "common_divisor" (defScope s_common_divisor) s.heap.objs.size (He.ga K "common_divisor") cdv)).units + 64 < cLine := hr.units
  exact (qss_cons (qs_par 0 1 rfl sc_common_divisor.nd (qa_cons (qe_abs f_abs (qa_cons (qe_var 0) qa_nil)) (qa_cons (qe_abs f_abs (qa_cons (qe_var 1) qa_nil)) qa_nil)))
    (qss_cons (qs_while hp (qt_ne (qe_var 1) qe_int)
    (qss_one (qs_par 0 1 rfl sc_common_divisor.nd (qa_cons (qe_var 1) (qa_cons (qe_mod (qe_var 0) (qe_var 1)) qa_nil)))))
    (qss_one (qs_ret (qe_var 0)))))
theorem cal_common_divisor {P : Program} {w : World} {K : PySem.W.Frag} {mg : Str → Option Value} {base : Heap} (T : Tx P w K mg base) : CalF P w K mg base 42 "common_divisor" [] (LiftP K (sp_common_divisor)) := by
  obtain ⟨fd, F, G⟩ := fn_common_divisor T
  exact calF_of G (T.gl 4 rfl) F.kp ⟨[], .nil, F.bindsN fun _ _ _ _ _ _ us hl => match us, hl with | [_, _], _ => rfl⟩

abbrev N_ends_of : List Str := ["moves", "stretch", "one", "other"]
theorem sc_ends_of : FnScope N_ends_of ["moves", "stretch"] (defScope s_ends_of) := ⟨rfl, rfl, rfl, by decide +kernel, rfl, by decide +kernel, by decide +kernel⟩
theorem fn_ends_of {P : Program} {w : World} {K : PySem.W.Frag} {mg : Str → Option Value} {base : Heap} (T : Tx P w K mg base) : ∃ fd, FunD K "ends_of" "ends_of" (defArgs s_ends_of) (defBody s_ends_of) (defScope s_ends_of) [] [] (He.ga K "ends_of") fd ∧ FnG P w K mg base 42 (He.ga K "ends_of") fd ["moves", "stretch"] (LiftP K (sp_ends_of)) := by
  obtain ⟨fd, F0⟩ := T.sd.def_ 5 (d := d_ends_of) rfl
  have F : FunD K "ends_of" "ends_of" (defArgs s_ends_of) (defBody s_ends_of) (defScope s_ends_of) [] [] (He.ga K "ends_of") fd := F0
  refine ⟨fd, F, okP F sc_ends_of (k := 41) (m := m_ends_of) (fun cdv A outer s H E hr hg tk hp => ?_) pl_ends_of pure_ends_of⟩
  have f_max : mg "max" = none := T.fr 45 rfl
  have f_min : mg "min" = none := T.fr 46 rfl
  have hu : (A.deeper (envOfC "ends_of" (defScope s_ends_of) s.heap.objs.size (He.ga K "ends_of") cdv)).units + 64 < cLine := hr.units
  exact (qss_cons (qs_par 2 3 rfl sc_ends_of.nd (qa_cons (qe_ix (qe_var 0) (qe_var 1)) (qa_cons (qe_ix (qe_var 0) (qe_add (qe_var 1) qe_int)) qa_nil)))
    (qss_one (qs_ret (qe_tup (qa_cons (qe_min2 rfl f_min (qa_cons (qe_var 2) (qa_cons (qe_var 3) qa_nil))) (qa_cons (qe_max2 rfl f_max (qa_cons (qe_var 2) (qa_cons (qe_var 3) qa_nil))) qa_nil))))))
theorem cal_ends_of {P : Program} {w : World} {K : PySem.W.Frag} {mg : Str → Option Value} {base : Heap} (T : Tx P w K mg base) : CalF P w K mg base 42 "ends_of" [] (LiftP K (sp_ends_of)) := by
  obtain ⟨fd, F, G⟩ := fn_ends_of T
  exact calF_of G (T.gl 5 rfl) F.kp ⟨[], .nil, F.bindsN fun _ _ _ _ _ _ us hl => match us, hl with | [_, _], _ => rfl⟩

abbrev N_covered_by : List Str := ["moves", "stretch", "low", "high"]
theorem sc_covered_by : FnScope N_covered_by ["moves", "stretch"] (defScope s_covered_by) := ⟨rfl, rfl, rfl, by decide +kernel, rfl, by decide +kernel, by decide +kernel⟩
theorem fn_covered_by {P : Program} {w : World} {K : PySem.W.Frag} {mg : Str → Option Value} {base : Heap} (T : Tx P w K mg base) : ∃ fd, FunD K "covered_by" "covered_by" (defArgs s_covered_by) (defBody s_covered_by) (defScope s_covered_by) [] [] (He.ga K "covered_by") fd ∧ FnG P w K mg base 43 (He.ga K "covered_by") fd ["moves", "stretch"] (LiftP K (sp_covered_by)) := by
  obtain ⟨fd, F0⟩ := T.sd.def_ 6 (d := d_covered_by) rfl
  have F : FunD K "covered_by" "covered_by" (defArgs s_covered_by) (defBody s_covered_by) (defScope s_covered_by) [] [] (He.ga K "covered_by") fd := F0
  refine ⟨fd, F, okP F sc_covered_by (k := 42) (m := m_covered_by) (fun cdv A outer s H E hr hg tk hp => ?_) pl_covered_by pure_covered_by⟩
  have f_list : mg "list" = none := T.fr 44 rfl
  have f_range : mg "range" = none := T.fr 47 rfl
  have c_ends_of := (cal_ends_of T).at_ hr hg (by decide)
  have hu : (A.deeper (envOfC "covered_by" (defScope s_covered_by) s.heap.objs.size (He.ga K "covered_by") cdv)).units + 64 < cLine := hr.units
  exact (qss_cons (qs_asg (qe_callP (dds := []) (fun _ => .nil) c_ends_of tk (qa_cons (qe_var 0) (qa_cons (qe_var 1) qa_nil))) (qg_tup (is := [2, 3]) rfl (qgs_cons (qg_name 2 sc_covered_by.nd) (qgs_cons (qg_name 3 sc_covered_by.nd) pgs_names0))))
    (qss_one (qs_ret (qe_listRg2 isF rfl f_list f_range (qe_var 2) (qe_var 3)))))
theorem cal_covered_by {P : Program} {w : World} {K : PySem.W.Frag} {mg : Str → Option Value} {base : Heap} (T : Tx P w K mg base) : CalF P w K mg base 43 "covered_by" [] (LiftP K (sp_covered_by)) := by
  obtain ⟨fd, F, G⟩ := fn_covered_by T
  exact calF_of G (T.gl 6 rfl) F.kp ⟨[], .nil, F.bindsN fun _ _ _ _ _ _ us hl => match us, hl with | [_, _], _ => rfl⟩

abbrev N_one_before : List Str := ["moves", "ways", "found", "stretch", "low", "high"]
theorem sc_one_before : FnScope N_one_before ["moves", "ways"] (defScope s_one_before) := ⟨rfl, rfl, rfl, by decide +kernel, rfl, by decide +kernel, by decide +kernel⟩
theorem fn_one_before {P : Program} {w : World} {K : PySem.W.Frag} {mg : Str → Option Value} {base : Heap} (T : Tx P w K mg base) : ∃ fd, FunD K "one_before" "one_before" (defArgs s_one_before) (defBody s_one_before) (defScope s_one_before) [] [] (He.ga K "one_before") fd ∧ FnG P w K mg base 43 (He.ga K "one_before") fd ["moves", "ways"] (LiftP K (sp_one_before)) := by
  obtain ⟨fd, F0⟩ := T.sd.def_ 7 (d := d_one_before) rfl
  have F : FunD K "one_before" "one_before" (defArgs s_one_before) (defBody s_one_before) (defScope s_one_before) [] [] (He.ga K "one_before") fd := F0
  refine ⟨fd, F, okP F sc_one_before (k := 42) (m := m_one_before) (fun cdv A outer s H E hr hg tk hp => ?_) pl_one_before pure_one_before⟩
  have f_range : mg "range" = none := T.fr 47 rfl
  have f_len : mg "len" = none := T.fr 40 rfl
  have f_sum : mg "sum" = none := T.fr 48 rfl
  have c_ends_of := (cal_ends_of T).at_ hr hg (by decide)
  have hu : (A.deeper (envOfC "one_before" (defScope s_one_before) s.heap.objs.size (He.ga K "one_before") cdv)).units + 64 < cLine := hr.units
  exact (qss_cons (qs_set 2 sc_one_before.nd (qe_lstO qa_nil))
    (qss_cons (qs_for hp rfl (qi_range1 f_range (qa_cons (qe_subI (qe_len f_len (qa_cons (qe_var 0) qa_nil)) qe_int) qa_nil)) (qg_name 3 sc_one_before.nd)
    (qss_cons (qs_asg (qe_callP (dds := []) (fun _ => .nil) c_ends_of tk (qa_cons (qe_var 0) (qa_cons (qe_var 3) qa_nil))) (qg_tup (is := [4, 5]) rfl (qgs_cons (qg_name 4 sc_one_before.nd) (qgs_cons (qg_name 5 sc_one_before.nd) pgs_names0))))
    (qss_cons (qs_expr (qe_append (qe_var 2) (qa_cons (qe_sum rfl f_sum (qa_cons (qe_slice isF (qe_var 1) (qo_some (qe_var 4)) (qo_some (qe_var 5))) qa_nil)) qa_nil)))
    (qss_wipe [3, 4, 5] qss_nil))))
    (qss_frz 2 (qss_one (qs_ret (qe_var 2))))))
theorem cal_one_before {P : Program} {w : World} {K : PySem.W.Frag} {mg : Str → Option Value} {base : Heap} (T : Tx P w K mg base) : CalF P w K mg base 43 "one_before" [] (LiftP K (sp_one_before)) := by
  obtain ⟨fd, F, G⟩ := fn_one_before T
  exact calF_of G (T.gl 7 rfl) F.kp ⟨[], .nil, F.bindsN fun _ _ _ _ _ _ us hl => match us, hl with | [_, _], _ => rfl⟩

abbrev N_need_rate : List Str := ["rate", "item"]
theorem sc_need_rate : FnScope N_need_rate ["rate"] (defScope s_need_rate) := ⟨rfl, rfl, rfl, by decide +kernel, rfl, by decide +kernel, by decide +kernel⟩
theorem fn_need_rate {P : Program} {w : World} {K : PySem.W.Frag} {mg : Str → Option Value} {base : Heap} (T : Tx P w K mg base) : ∃ fd, FunD K "need_rate" "need_rate" (defArgs s_need_rate) (defBody s_need_rate) (defScope s_need_rate) [] [] (He.ga K "need_rate") fd ∧ FnG P w K mg base 43 (He.ga K "need_rate") fd ["rate"] (LiftP K (sp_need_rate (adr K))) := by
  obtain ⟨fd, F0⟩ := T.sd.def_ 8 (d := d_need_rate) rfl
  have F : FunD K "need_rate" "need_rate" (defArgs s_need_rate) (defBody s_need_rate) (defScope s_need_rate) [] [] (He.ga K "need_rate") fd := F0
  refine ⟨fd, F, okP F sc_need_rate (k := 42) (m := m_need_rate (adr K)) (fun cdv A outer s H E hr hg tk hp => ?_) pl_need_rate pure_need_rate⟩
  have f_all : mg "all" = none := T.fr 51 rfl
  have f_len : mg "len" = none := T.fr 40 rfl
  have f_isinstance : mg "isinstance" = none := T.fr 43 rfl
  have f_tuple : mg "tuple" = none := T.fr 54 rfl
  have x_InvalidRate := exc_facts (X := cxOf (L2.CX P w) P w K mg base N_need_rate "need_rate" (defScope s_need_rate) (He.ga K "need_rate") cdv A outer s H E) rfl rfl (T.gl 38 (x := "InvalidRate") rfl) (He.exc_ok (T.sd.fact 39 (f := .exc "InvalidRate") rfl))
  have c_is_integer_2 := (cal_is_integer_2 T).at_ hr hg (by decide)
  have hu : (A.deeper (envOfC "need_rate" (defScope s_need_rate) s.heap.objs.size (He.ga K "need_rate") cdv)).units + 64 < cLine := hr.units
  exact (qss_one (qs_if (QW.qt (qw_or (qt_not (qt_val (qe_is kit_tup (by decide +kernel) f_isinstance f_tuple (qe_var 0)))) (qw_or (qt_ne (qe_len f_len (qa_cons (qe_var 0) qa_nil)) qe_int) (qw_or1 (qt_not (qt_val (qe_all rfl f_all (qa_cons (qe_lc isF rfl sc_need_rate.nd (qi_tup (qe_var 0)) (blkOk_by (own := [("item", 1)]) (N := N_need_rate) (sc := defScope s_need_rate) (by decide +kernel)) (tok_name (i := 1) (vs := [1]) (by decide)) (gName_ok 1) (fun _ _ _ _ _ => (qg_name 1 sc_need_rate.nd)) (fun _ _ _ _ _ => qts_nil) (fun _ _ _ _ _ => (qe_callP (dds := [.none]) (fun _ => (.cons .non .nil)) c_is_integer_2 takes0 (qa_cons (qe_var 1) (qa_cons qe_int qa_nil))))) qa_nil))))))))
    (qss_one (qs_raise rfl tk x_InvalidRate.1 x_InvalidRate.2.1 x_InvalidRate.2.2.1 x_InvalidRate.2.2.2))
    qss_nil))
theorem cal_need_rate {P : Program} {w : World} {K : PySem.W.Frag} {mg : Str → Option Value} {base : Heap} (T : Tx P w K mg base) : CalF P w K mg base 43 "need_rate" [] (LiftP K (sp_need_rate (adr K))) := by
  obtain ⟨fd, F, G⟩ := fn_need_rate T
  exact calF_of G (T.gl 8 rfl) F.kp ⟨[], .nil, F.bindsN fun _ _ _ _ _ _ us hl => match us, hl with | [_], _ => rfl⟩

abbrev N_rows_of : List Str := ["moves", "rate", "top", "bottom", "found", "size", "stretch", "covered", "other"]
theorem sc_rows_of : FnScope N_rows_of ["moves", "rate"] (defScope s_rows_of) := ⟨rfl, rfl, rfl, by decide +kernel, rfl, by decide +kernel, by decide +kernel⟩
theorem fn_rows_of {P : Program} {w : World} {K : PySem.W.Frag} {mg : Str → Option Value} {base : Heap} (T : Tx P w K mg base) : ∃ fd, FunD K "rows_of" "rows_of" (defArgs s_rows_of) (defBody s_rows_of) (defScope s_rows_of) [] [] (He.ga K "rows_of") fd ∧ FnG P w K mg base 44 (He.ga K "rows_of") fd ["moves", "rate"] (LiftP K (sp_rows_of)) := by
  obtain ⟨fd, F0⟩ := T.sd.def_ 9 (d := d_rows_of) rfl
  have F : FunD K "rows_of" "rows_of" (defArgs s_rows_of) (defBody s_rows_of) (defScope s_rows_of) [] [] (He.ga K "rows_of") fd := F0
  refine ⟨fd, F, okP F sc_rows_of (k := 43) (m := m_rows_of) (fun cdv A outer s H E hr hg tk hp => ?_) pl_rows_of pure_rows_of⟩
  have f_len : mg "len" = none := T.fr 40 rfl
  have f_range : mg "range" = none := T.fr 47 rfl
  have f_int : mg "int" = none := T.fr 42 rfl
  have c_covered_by := (cal_covered_by T).at_ hr hg (by decide)
  have hu : (A.deeper (envOfC "rows_of" (defScope s_rows_of) s.heap.objs.size (He.ga K "rows_of") cdv)).units + 64 < cLine := hr.units
  exact (qss_cons (qs_asg (qe_var 1) (qg_tup (is := [2, 3]) rfl (qgs_cons (qg_name 2 sc_rows_of.nd) (qgs_cons (qg_name 3 sc_rows_of.nd) pgs_names0))))
    (qss_cons (qs_par 4 5 rfl sc_rows_of.nd (qa_cons (qe_lstO qa_nil) (qa_cons (qe_subI (qe_len f_len (qa_cons (qe_var 0) qa_nil)) qe_int) qa_nil)))
    (qss_cons (qs_for hp rfl (qi_range1 f_range (qa_cons (qe_var 5) qa_nil)) (qg_name 6 sc_rows_of.nd)
    (qss_cons (qs_set 7 sc_rows_of.nd (qe_callP (dds := []) (fun _ => .nil) c_covered_by tk (qa_cons (qe_var 0) (qa_cons (qe_var 6) qa_nil))))
    (qss_cons (qs_expr (qe_append (qe_var 4) (qa_cons (qe_lc isF rfl sc_rows_of.nd (qi_range1 f_range (qa_cons (qe_var 5) qa_nil)) (blkOk_by (own := [("other", 8)]) (N := N_rows_of) (sc := defScope s_rows_of) (by decide +kernel)) (tok_name (i := 8) (vs := [8]) (by decide)) (gName_ok 8) (fun _ _ _ _ _ => (qg_name 8 sc_rows_of.nd)) (fun _ _ _ _ _ => qts_nil) (fun _ _ _ _ _ => (qe_subI (qe_mul (qe_var 2) (qe_intC f_int (qa_cons (qe_eq (qe_var 8) (qe_var 6)) qa_nil))) (qe_mul (qe_var 3) (qe_intC f_int (qa_cons (qe_inI (qe_var 8) (qe_var 7)) qa_nil)))))) qa_nil)))
    (qss_wipe [6, 7] qss_nil))))
    (qss_frz 4 (qss_one (qs_ret (qe_var 4)))))))
theorem cal_rows_of {P : Program} {w : World} {K : PySem.W.Frag} {mg : Str → Option Value} {base : Heap} (T : Tx P w K mg base) : CalF P w K mg base 44 "rows_of" [] (LiftP K (sp_rows_of)) := by
  obtain ⟨fd, F, G⟩ := fn_rows_of T
  exact calF_of G (T.gl 9 rfl) F.kp ⟨[], .nil, F.bindsN fun _ _ _ _ _ _ us hl => match us, hl with | [_, _], _ => rfl⟩

abbrev N_without : List Str := ["row", "first", "column", "found", "divisor", "item", "one", "other"]
theorem sc_without : FnScope N_without ["row", "first", "column"] (defScope s_without) := ⟨rfl, rfl, rfl, by decide +kernel, rfl, by decide +kernel, by decide +kernel⟩
theorem fn_without {P : Program} {w : World} {K : PySem.W.Frag} {mg : Str → Option Value} {base : Heap} (T : Tx P w K mg base) : ∃ fd, FunD K "without" "without" (defArgs s_without) (defBody s_without) (defScope s_without) [] [] (He.ga K "without") fd ∧ FnG P w K mg base 43 (He.ga K "without") fd ["row", "first", "column"] (LiftP K (sp_without)) := by
  obtain ⟨fd, F0⟩ := T.sd.def_ 11 (d := d_without) rfl
  have F : FunD K "without" "without" (defArgs s_without) (defBody s_without) (defScope s_without) [] [] (He.ga K "without") fd := F0
  refine ⟨fd, F, okP F sc_without (k := 42) (m := m_without) (fun cdv A outer s H E hr hg tk hp => ?_) pl_without pure_without⟩
  have f_zip : mg "zip" = none := T.fr 49 rfl
  have c_common_divisor := (cal_common_divisor T).at_ hr hg (by decide)
  have hu : (A.deeper (envOfC "without" (defScope s_without) s.heap.objs.size (He.ga K "without") cdv)).units + 64 < cLine := hr.units
  have dv := divA_of (mg := mg) (K := K) (N := N_without) (w := w) (H := H) (E := E) (outer := outer) T.seer T.tree sc_without hr (by decide)
  exact (qss_cons (qs_if (qt_eq (qe_ix (qe_var 0) (qe_var 2)) qe_int)
    (qss_one (qs_ret (qe_var 0)))
    qss_nil)
    (qss_cons (qs_setLc 3 isF rfl sc_without.nd (qi_zip f_zip (qa_cons (qe_var 0) (qa_cons (qe_var 1) qa_nil))) (blkOk_by (own := [("one", 6), ("other", 7)]) (N := N_without) (sc := defScope s_without) (by decide +kernel)) (tok_tup (is := [6, 7]) (vs := [6, 7]) (by decide)) (gTup_ok [6, 7] rfl) (fun _ _ _ _ _ => (qg_tup (is := [6, 7]) rfl (qgs_cons (qg_name 6 sc_without.nd) (qgs_cons (qg_name 7 sc_without.nd) pgs_names0)))) (fun _ _ _ _ _ => qts_nil) (fun _ _ _ _ _ => (qe_subI (qe_mul (qe_ix (qe_var 1) (qe_var 2)) (qe_var 6)) (qe_mul (qe_ix (qe_var 0) (qe_var 2)) (qe_var 7)))) (sw_true rfl rfl rfl (by decide +kernel)))
    (qss_cons (qs_set 4 sc_without.nd qe_int)
    (qss_cons (qs_for hp rfl (qi_list (qe_var 3)) (qg_name 5 sc_without.nd)
    (qss_cons (qs_set 4 sc_without.nd (qe_callP (dds := []) (fun _ => .nil) c_common_divisor tk (qa_cons (qe_var 4) (qa_cons (qe_var 5) qa_nil))))
    (qss_wipe [5] qss_nil)))
    (qss_one (qs_ret (qe_ifExp (qt_eq (qe_var 4) qe_int) (qe_var 3) (qe_lc isF rfl sc_without.nd (qi_list (qe_var 3)) (blkOk_by (own := [("item", 5)]) (N := N_without) (sc := defScope s_without) (by decide +kernel)) (tok_name (i := 5) (vs := [5]) (by decide)) (gName_ok 5) (fun _ _ _ _ _ => (qg_name 5 sc_without.nd)) (fun _ _ _ _ _ => qts_nil) (fun _ _ _ _ _ => ((qe_divA dv) (qe_var 5) (qe_var 4)))))))))))
theorem cal_without {P : Program} {w : World} {K : PySem.W.Frag} {mg : Str → Option Value} {base : Heap} (T : Tx P w K mg base) : CalF P w K mg base 43 "without" [] (LiftP K (sp_without)) := by
  obtain ⟨fd, F, G⟩ := fn_without T
  exact calF_of G (T.gl 11 rfl) F.kp ⟨[], .nil, F.bindsN fun _ _ _ _ _ _ us hl => match us, hl with | [_, _, _], _ => rfl⟩

abbrev N_reduced_rows : List Str := ["rows", "width", "left", "done", "column", "some", "first", "row", "at"]
theorem sc_reduced_rows : FnScope N_reduced_rows ["rows", "width"] (defScope s_reduced_rows) := ⟨rfl, rfl, rfl, by decide +kernel, rfl, by decide +kernel, by decide +kernel⟩
theorem fn_reduced_rows {P : Program} {w : World} {K : PySem.W.Frag} {mg : Str → Option Value} {base : Heap} (T : Tx P w K mg base) : ∃ fd, FunD K "reduced_rows" "reduced_rows" (defArgs s_reduced_rows) (defBody s_reduced_rows) (defScope s_reduced_rows) [] [] (He.ga K "reduced_rows") fd ∧ FnG P w K mg base 44 (He.ga K "reduced_rows") fd ["rows", "width"] (LiftP K (sp_reduced_rows)) := by
  obtain ⟨fd, F0⟩ := T.sd.def_ 10 (d := d_reduced_rows) rfl
  have F : FunD K "reduced_rows" "reduced_rows" (defArgs s_reduced_rows) (defBody s_reduced_rows) (defScope s_reduced_rows) [] [] (He.ga K "reduced_rows") fd := F0
  refine ⟨fd, F, okP F sc_reduced_rows (k := 43) (m := m_reduced_rows) (fun cdv A outer s H E hr hg tk hp => ?_) pl_reduced_rows pure_reduced_rows⟩
  have f_list : mg "list" = none := T.fr 44 rfl
  have f_range : mg "range" = none := T.fr 47 rfl
  have f_enumerate : mg "enumerate" = none := T.fr 50 rfl
  have c_without := (cal_without T).at_ hr hg (by decide)
  have hu : (A.deeper (envOfC "reduced_rows" (defScope s_reduced_rows) s.heap.objs.size (He.ga K "reduced_rows") cdv)).units + 64 < cLine := hr.units
  exact (qss_cons (qs_par 2 3 rfl sc_reduced_rows.nd (qa_cons (qe_lc isO rfl sc_reduced_rows.nd (qi_list (qe_var 0)) (blkOk_by (own := [("row", 7)]) (N := N_reduced_rows) (sc := defScope s_reduced_rows) (by decide +kernel)) (tok_name (i := 7) (vs := [7]) (by decide)) (gName_ok 7) (fun _ _ _ _ _ => (qg_name 7 sc_reduced_rows.nd)) (fun _ _ _ _ _ => qts_nil) (fun _ _ _ _ _ => (qe_listC isF f_list (qa_cons (qe_var 7) qa_nil)))) (qa_cons (qe_lst qa_nil) qa_nil)))
    (qss_cons (qs_for hp rfl (qi_range1 f_range (qa_cons (qe_var 1) qa_nil)) (qg_name 4 sc_reduced_rows.nd)
    (qss_cons (qs_setLc 5 isF rfl sc_reduced_rows.nd (qi_enum f_enumerate (qa_cons (qe_var 2) qa_nil)) (blkOk_by (own := [("at", 8), ("row", 7)]) (N := N_reduced_rows) (sc := defScope s_reduced_rows) (by decide +kernel)) (tok_tup (is := [8, 7]) (vs := [8, 7]) (by decide)) (gTup_ok [8, 7] rfl) (fun _ _ _ _ _ => (qg_tup (is := [8, 7]) rfl (qgs_cons (qg_name 8 sc_reduced_rows.nd) (qgs_cons (qg_name 7 sc_reduced_rows.nd) pgs_names0)))) (fun _ _ _ _ _ => (qts_one (qt_ne (qe_ix (qe_var 7) (qe_var 4)) qe_int))) (fun _ _ _ _ _ => (qe_var 8)) (sw_true rfl rfl rfl (by decide +kernel)))
    (qss_cons (qs_if (qt_neD hu (qe_var 5) (qe_lst qa_nil))
    (qss_cons (qs_set 6 sc_reduced_rows.nd (qe_popAt (qe_var 2) (qa_cons (qe_ix (qe_var 5) qe_int) qa_nil)))
    (qss_cons (qs_setLc 2 isO rfl sc_reduced_rows.nd (qi_list (qe_var 2)) (blkOk_by (own := [("row", 7)]) (N := N_reduced_rows) (sc := defScope s_reduced_rows) (by decide +kernel)) (tok_name (i := 7) (vs := [7]) (by decide)) (gName_ok 7) (fun _ _ _ _ _ => (qg_name 7 sc_reduced_rows.nd)) (fun _ _ _ _ _ => qts_nil) (fun _ _ _ _ _ => (qe_callP (dds := []) (fun _ => .nil) c_without takes0 (qa_cons (qe_var 7) (qa_cons (qe_var 6) (qa_cons (qe_var 4) qa_nil))))) (sw_true rfl rfl rfl (by decide +kernel)))
    (qss_one (qs_set 3 sc_reduced_rows.nd (qe_cat isF (qe_lc isF rfl sc_reduced_rows.nd (qi_list (qe_var 3)) (blkOk_by (own := [("row", 7)]) (N := N_reduced_rows) (sc := defScope s_reduced_rows) (by decide +kernel)) (tok_name (i := 7) (vs := [7]) (by decide)) (gName_ok 7) (fun _ _ _ _ _ => (qg_name 7 sc_reduced_rows.nd)) (fun _ _ _ _ _ => qts_nil) (fun _ _ _ _ _ => (qe_callP (dds := []) (fun _ => .nil) c_without takes0 (qa_cons (qe_var 7) (qa_cons (qe_var 6) (qa_cons (qe_var 4) qa_nil)))))) (qe_lst (qa_cons (qe_var 6) qa_nil)))))))
    qss_nil)
    (qss_wipe [4, 5, 6] qss_nil))))
    (qss_one (qs_ret (qe_var 3)))))
theorem cal_reduced_rows {P : Program} {w : World} {K : PySem.W.Frag} {mg : Str → Option Value} {base : Heap} (T : Tx P w K mg base) : CalF P w K mg base 44 "reduced_rows" [] (LiftP K (sp_reduced_rows)) := by
  obtain ⟨fd, F, G⟩ := fn_reduced_rows T
  exact calF_of G (T.gl 10 rfl) F.kp ⟨[], .nil, F.bindsN fun _ _ _ _ _ _ us hl => match us, hl with | [_, _], _ => rfl⟩

abbrev N_times_to_whole : List Str := ["tops", "bottoms", "common", "bottom", "found", "divisor", "item", "top"]
theorem sc_times_to_whole : FnScope N_times_to_whole ["tops", "bottoms"] (defScope s_times_to_whole) := ⟨rfl, rfl, rfl, by decide +kernel, rfl, by decide +kernel, by decide +kernel⟩
theorem fn_times_to_whole {P : Program} {w : World} {K : PySem.W.Frag} {mg : Str → Option Value} {base : Heap} (T : Tx P w K mg base) : ∃ fd, FunD K "times_to_whole" "times_to_whole" (defArgs s_times_to_whole) (defBody s_times_to_whole) (defScope s_times_to_whole) [] [] (He.ga K "times_to_whole") fd ∧ FnG P w K mg base 43 (He.ga K "times_to_whole") fd ["tops", "bottoms"] (LiftP K (sp_times_to_whole)) := by
  obtain ⟨fd, F0⟩ := T.sd.def_ 12 (d := d_times_to_whole) rfl
  have F : FunD K "times_to_whole" "times_to_whole" (defArgs s_times_to_whole) (defBody s_times_to_whole) (defScope s_times_to_whole) [] [] (He.ga K "times_to_whole") fd := F0
  refine ⟨fd, F, okP F sc_times_to_whole (k := 42) (m := m_times_to_whole) (fun cdv A outer s H E hr hg tk hp => ?_) pl_times_to_whole pure_times_to_whole⟩
  have f_abs : mg "abs" = none := T.fr 41 rfl
  have f_zip : mg "zip" = none := T.fr 49 rfl
  have f_max : mg "max" = none := T.fr 45 rfl
  have c_common_divisor := (cal_common_divisor T).at_ hr hg (by decide)
  have hu : (A.deeper (envOfC "times_to_whole" (defScope s_times_to_whole) s.heap.objs.size (He.ga K "times_to_whole") cdv)).units + 64 < cLine := hr.units
  have dv := divA_of (mg := mg) (K := K) (N := N_times_to_whole) (w := w) (H := H) (E := E) (outer := outer) T.seer T.tree sc_times_to_whole hr (by decide)
  exact (qss_cons (qs_set 2 sc_times_to_whole.nd qe_int)
    (qss_cons (qs_for hp rfl (qi_list (qe_var 1)) (qg_name 3 sc_times_to_whole.nd)
    (qss_cons (qs_set 2 sc_times_to_whole.nd ((qe_divA dv) (qe_mul (qe_var 2) (qe_abs f_abs (qa_cons (qe_var 3) qa_nil))) (qe_callP (dds := []) (fun _ => .nil) c_common_divisor tk (qa_cons (qe_var 2) (qa_cons (qe_var 3) qa_nil)))))
    (qss_wipe [3] qss_nil)))
    (qss_cons (qs_asg (qe_tup (qa_cons (qe_lc isF rfl sc_times_to_whole.nd (qi_zip f_zip (qa_cons (qe_var 0) (qa_cons (qe_var 1) qa_nil))) (blkOk_by (own := [("top", 7), ("bottom", 3)]) (N := N_times_to_whole) (sc := defScope s_times_to_whole) (by decide +kernel)) (tok_tup (is := [7, 3]) (vs := [7, 3]) (by decide)) (gTup_ok [7, 3] rfl) (fun _ _ _ _ _ => (qg_tup (is := [7, 3]) rfl (qgs_cons (qg_name 7 sc_times_to_whole.nd) (qgs_cons (qg_name 3 sc_times_to_whole.nd) pgs_names0)))) (fun _ _ _ _ _ => qts_nil) (fun _ _ _ _ _ => (qe_mul (qe_var 7) ((qe_divA dv) (qe_var 2) (qe_var 3))))) (qa_cons qe_int qa_nil))) (qg_tup (is := [4, 5]) rfl (qgs_cons (qg_name 4 sc_times_to_whole.nd) (qgs_cons (qg_name 5 sc_times_to_whole.nd) pgs_names0))))
    (qss_cons (qs_for hp rfl (qi_list (qe_var 4)) (qg_name 6 sc_times_to_whole.nd)
    (qss_cons (qs_set 5 sc_times_to_whole.nd (qe_callP (dds := []) (fun _ => .nil) c_common_divisor tk (qa_cons (qe_var 5) (qa_cons (qe_var 6) qa_nil))))
    (qss_wipe [6] qss_nil)))
    (qss_one (qs_ret (qe_lc isF rfl sc_times_to_whole.nd (qi_list (qe_var 4)) (blkOk_by (own := [("item", 6)]) (N := N_times_to_whole) (sc := defScope s_times_to_whole) (by decide +kernel)) (tok_name (i := 6) (vs := [6]) (by decide)) (gName_ok 6) (fun _ _ _ _ _ => (qg_name 6 sc_times_to_whole.nd)) (fun _ _ _ _ _ => qts_nil) (fun _ _ _ _ _ => ((qe_divA dv) (qe_var 6) (qe_max2 rfl f_max (qa_cons (qe_var 5) (qa_cons qe_int qa_nil))))))))))))
theorem cal_times_to_whole {P : Program} {w : World} {K : PySem.W.Frag} {mg : Str → Option Value} {base : Heap} (T : Tx P w K mg base) : CalF P w K mg base 43 "times_to_whole" [] (LiftP K (sp_times_to_whole)) := by
  obtain ⟨fd, F, G⟩ := fn_times_to_whole T
  exact calF_of G (T.gl 12 rfl) F.kp ⟨[], .nil, F.bindsN fun _ _ _ _ _ _ us hl => match us, hl with | [_, _], _ => rfl⟩

abbrev N_slow_for : List Str := ["moves", "rate", "size", "rows", "done", "found", "row", "at", "item"]
theorem sc_slow_for : FnScope N_slow_for ["moves", "rate"] (defScope s_slow_for) := ⟨rfl, rfl, rfl, by decide +kernel, rfl, by decide +kernel, by decide +kernel⟩
theorem fn_slow_for {P : Program} {w : World} {K : PySem.W.Frag} {mg : Str → Option Value} {base : Heap} (T : Tx P w K mg base) : ∃ fd, FunD K "slow_for" "slow_for" (defArgs s_slow_for) (defBody s_slow_for) (defScope s_slow_for) [] [] (He.ga K "slow_for") fd ∧ FnG P w K mg base 45 (He.ga K "slow_for") fd ["moves", "rate"] (LiftP K (sp_slow_for)) := by
  obtain ⟨fd, F0⟩ := T.sd.def_ 13 (d := d_slow_for) rfl
  have F : FunD K "slow_for" "slow_for" (defArgs s_slow_for) (defBody s_slow_for) (defScope s_slow_for) [] [] (He.ga K "slow_for") fd := F0
  refine ⟨fd, F, okP F sc_slow_for (k := 44) (m := m_slow_for) (fun cdv A outer s H E hr hg tk hp => ?_) pl_slow_for pure_slow_for⟩
  have f_len : mg "len" = none := T.fr 40 rfl
  have f_enumerate : mg "enumerate" = none := T.fr 50 rfl
  have f_all : mg "all" = none := T.fr 51 rfl
  have c_rows_of := (cal_rows_of T).at_ hr hg (by decide)
  have c_reduced_rows := (cal_reduced_rows T).at_ hr hg (by decide)
  have c_times_to_whole := (cal_times_to_whole T).at_ hr hg (by decide)
  have hu : (A.deeper (envOfC "slow_for" (defScope s_slow_for) s.heap.objs.size (He.ga K "slow_for") cdv)).units + 64 < cLine := hr.units
  exact (qss_cons (qs_set 2 sc_slow_for.nd (qe_subI (qe_len f_len (qa_cons (qe_var 0) qa_nil)) qe_int))
    (qss_cons (qs_setLc 3 isF rfl sc_slow_for.nd (qi_list (qe_callP (dds := []) (fun _ => .nil) c_rows_of tk (qa_cons (qe_var 0) (qa_cons (qe_var 1) qa_nil)))) (blkOk_by (own := [("row", 6)]) (N := N_slow_for) (sc := defScope s_slow_for) (by decide +kernel)) (tok_name (i := 6) (vs := [6]) (by decide)) (gName_ok 6) (fun _ _ _ _ _ => (qg_name 6 sc_slow_for.nd)) (fun _ _ _ _ _ => qts_nil) (fun _ _ _ _ _ => (qe_lst (qa_star (qe_var 6) (qa_cons qe_int qa_nil)))) (sw_true rfl rfl rfl (by decide +kernel)))
    (qss_cons (qs_set 4 sc_slow_for.nd (qe_callP (dds := []) (fun _ => .nil) c_reduced_rows tk (qa_cons (qe_var 3) (qa_cons (qe_var 2) qa_nil))))
    (qss_cons (qs_if (qt_lt (qe_len f_len (qa_cons (qe_var 4) qa_nil)) (qe_var 2))
    (qss_one (qs_ret qe_non))
    qss_nil)
    (qss_cons (qs_set 5 sc_slow_for.nd (qe_callP (dds := []) (fun _ => .nil) c_times_to_whole tk (qa_cons (qe_lc isF rfl sc_slow_for.nd (qi_list (qe_var 4)) (blkOk_by (own := [("row", 6)]) (N := N_slow_for) (sc := defScope s_slow_for) (by decide +kernel)) (tok_name (i := 6) (vs := [6]) (by decide)) (gName_ok 6) (fun _ _ _ _ _ => (qg_name 6 sc_slow_for.nd)) (fun _ _ _ _ _ => qts_nil) (fun _ _ _ _ _ => (qe_ix (qe_var 6) (qe_var 2)))) (qa_cons (qe_lc isF rfl sc_slow_for.nd (qi_enum f_enumerate (qa_cons (qe_var 4) qa_nil)) (blkOk_by (own := [("at", 7), ("row", 6)]) (N := N_slow_for) (sc := defScope s_slow_for) (by decide +kernel)) (tok_tup (is := [7, 6]) (vs := [7, 6]) (by decide)) (gTup_ok [7, 6] rfl) (fun _ _ _ _ _ => (qg_tup (is := [7, 6]) rfl (qgs_cons (qg_name 7 sc_slow_for.nd) (qgs_cons (qg_name 6 sc_slow_for.nd) pgs_names0)))) (fun _ _ _ _ _ => qts_nil) (fun _ _ _ _ _ => (qe_ix (qe_var 6) (qe_var 7)))) qa_nil))))
    (qss_one (qs_ret (qe_ifExp (qt_val (qe_all rfl f_all (qa_cons (qe_lc isF rfl sc_slow_for.nd (qi_list (qe_var 5)) (blkOk_by (own := [("item", 8)]) (N := N_slow_for) (sc := defScope s_slow_for) (by decide +kernel)) (tok_name (i := 8) (vs := [8]) (by decide)) (gName_ok 8) (fun _ _ _ _ _ => (qg_name 8 sc_slow_for.nd)) (fun _ _ _ _ _ => qts_nil) (fun _ _ _ _ _ => (qe_gt (qe_var 8) qe_int))) qa_nil))) (qe_var 5) qe_non))))))))
theorem cal_slow_for {P : Program} {w : World} {K : PySem.W.Frag} {mg : Str → Option Value} {base : Heap} (T : Tx P w K mg base) : CalF P w K mg base 45 "slow_for" [] (LiftP K (sp_slow_for)) := by
  obtain ⟨fd, F, G⟩ := fn_slow_for T
  exact calF_of G (T.gl 13 rfl) F.kp ⟨[], .nil, F.bindsN fun _ _ _ _ _ _ us hl => match us, hl with | [_, _], _ => rfl⟩

abbrev N_holds_fast : List Str := ["moves", "rate", "numbers", "sums", "number", "total"]
theorem sc_holds_fast : FnScope N_holds_fast ["moves", "rate", "numbers"] (defScope s_holds_fast) := ⟨rfl, rfl, rfl, by decide +kernel, rfl, by decide +kernel, by decide +kernel⟩
theorem fn_holds_fast {P : Program} {w : World} {K : PySem.W.Frag} {mg : Str → Option Value} {base : Heap} (T : Tx P w K mg base) : ∃ fd, FunD K "holds_fast" "holds_fast" (defArgs s_holds_fast) (defBody s_holds_fast) (defScope s_holds_fast) [] [] (He.ga K "holds_fast") fd ∧ FnG P w K mg base 44 (He.ga K "holds_fast") fd ["moves", "rate", "numbers"] (LiftP K (sp_holds_fast)) := by
  obtain ⟨fd, F0⟩ := T.sd.def_ 14 (d := d_holds_fast) rfl
  have F : FunD K "holds_fast" "holds_fast" (defArgs s_holds_fast) (defBody s_holds_fast) (defScope s_holds_fast) [] [] (He.ga K "holds_fast") fd := F0
  refine ⟨fd, F, okP F sc_holds_fast (k := 43) (m := m_holds_fast) (fun cdv A outer s H E hr hg tk hp => ?_) pl_holds_fast pure_holds_fast⟩
  have f_all : mg "all" = none := T.fr 51 rfl
  have f_zip : mg "zip" = none := T.fr 49 rfl
  have c_one_before := (cal_one_before T).at_ hr hg (by decide)
  have hu : (A.deeper (envOfC "holds_fast" (defScope s_holds_fast) s.heap.objs.size (He.ga K "holds_fast") cdv)).units + 64 < cLine := hr.units
  exact (qss_cons (qs_set 3 sc_holds_fast.nd (qe_callP (dds := []) (fun _ => .nil) c_one_before tk (qa_cons (qe_var 0) (qa_cons (qe_var 2) qa_nil))))
    (qss_one (qs_ret (qe_all rfl f_all (qa_cons (qe_lc isF rfl sc_holds_fast.nd (qi_zip f_zip (qa_cons (qe_var 2) (qa_cons (qe_var 3) qa_nil))) (blkOk_by (own := [("number", 4), ("total", 5)]) (N := N_holds_fast) (sc := defScope s_holds_fast) (by decide +kernel)) (tok_tup (is := [4, 5]) (vs := [4, 5]) (by decide)) (gTup_ok [4, 5] rfl) (fun _ _ _ _ _ => (qg_tup (is := [4, 5]) rfl (qgs_cons (qg_name 4 sc_holds_fast.nd) (qgs_cons (qg_name 5 sc_holds_fast.nd) pgs_names0)))) (fun _ _ _ _ _ => qts_nil) (fun _ _ _ _ _ => (qe_ge (qe_mul (qe_ix (qe_var 1) qe_int) (qe_var 5)) (qe_mul (qe_ix (qe_var 1) qe_int) (qe_var 4))))) qa_nil)))))
theorem cal_holds_fast {P : Program} {w : World} {K : PySem.W.Frag} {mg : Str → Option Value} {base : Heap} (T : Tx P w K mg base) : CalF P w K mg base 44 "holds_fast" [] (LiftP K (sp_holds_fast)) := by
  obtain ⟨fd, F, G⟩ := fn_holds_fast T
  exact calF_of G (T.gl 14 rfl) F.kp ⟨[], .nil, F.bindsN fun _ _ _ _ _ _ us hl => match us, hl with | [_, _, _], _ => rfl⟩

abbrev N_fast_for : List Str := ["moves", "rate", "rows", "last", "here", "done", "tops", "bottoms", "numbers", "row", "at", "item", "number"]
theorem sc_fast_for : FnScope N_fast_for ["moves", "rate"] (defScope s_fast_for) := ⟨rfl, rfl, rfl, by decide +kernel, rfl, by decide +kernel, by decide +kernel⟩
theorem fn_fast_for {P : Program} {w : World} {K : PySem.W.Frag} {mg : Str → Option Value} {base : Heap} (T : Tx P w K mg base) : ∃ fd, FunD K "fast_for" "fast_for" (defArgs s_fast_for) (defBody s_fast_for) (defScope s_fast_for) [] [] (He.ga K "fast_for") fd ∧ FnG P w K mg base 45 (He.ga K "fast_for") fd ["moves", "rate"] (LiftP K (sp_fast_for)) := by
  obtain ⟨fd, F0⟩ := T.sd.def_ 15 (d := d_fast_for) rfl
  have F : FunD K "fast_for" "fast_for" (defArgs s_fast_for) (defBody s_fast_for) (defScope s_fast_for) [] [] (He.ga K "fast_for") fd := F0
  refine ⟨fd, F, okP F sc_fast_for (k := 44) (m := m_fast_for) (fun cdv A outer s H E hr hg tk hp => ?_) pl_fast_for pure_fast_for⟩
  have f_enumerate : mg "enumerate" = none := T.fr 50 rfl
  have f_sum : mg "sum" = none := T.fr 48 rfl
  have f_zip : mg "zip" = none := T.fr 49 rfl
  have f_len : mg "len" = none := T.fr 40 rfl
  have c_rows_of := (cal_rows_of T).at_ hr hg (by decide)
  have c_reduced_rows := (cal_reduced_rows T).at_ hr hg (by decide)
  have c_times_to_whole := (cal_times_to_whole T).at_ hr hg (by decide)
  have hu : (A.deeper (envOfC "fast_for" (defScope s_fast_for) s.heap.objs.size (He.ga K "fast_for") cdv)).units + 64 < cLine := hr.units
  exact (qss_cons (qs_set 2 sc_fast_for.nd (qe_callP (dds := []) (fun _ => .nil) c_rows_of tk (qa_cons (qe_var 0) (qa_cons (qe_var 1) qa_nil))))
    (qss_cons (qs_for hp rfl (qi_enum f_enumerate (qa_cons (qe_var 2) qa_nil)) (qg_tup (is := [3, 4]) rfl (qgs_cons (qg_name 3 sc_fast_for.nd) (qgs_cons (qg_name 4 sc_fast_for.nd) pgs_names0)))
    (qss_cons (qs_set 5 sc_fast_for.nd (qe_callP (dds := []) (fun _ => .nil) c_reduced_rows tk (qa_cons (qe_lc isF rfl sc_fast_for.nd (qi_list (qe_slice isF (qe_var 2) qo_none (qo_some (qe_var 3)))) (blkOk_by (own := [("row", 9)]) (N := N_fast_for) (sc := defScope s_fast_for) (by decide +kernel)) (tok_name (i := 9) (vs := [9]) (by decide)) (gName_ok 9) (fun _ _ _ _ _ => (qg_name 9 sc_fast_for.nd)) (fun _ _ _ _ _ => qts_nil) (fun _ _ _ _ _ => (qe_lst (qa_star (qe_slice isF (qe_var 9) qo_none (qo_some (qe_var 3))) (qa_cons (qe_subI qe_int (qe_ix (qe_var 9) (qe_var 3))) qa_nil))))) (qa_cons (qe_var 3) qa_nil))))
    (qss_cons (qs_par 6 7 rfl sc_fast_for.nd (qa_cons (qe_lc isF rfl sc_fast_for.nd (qi_list (qe_var 5)) (blkOk_by (own := [("row", 9)]) (N := N_fast_for) (sc := defScope s_fast_for) (by decide +kernel)) (tok_name (i := 9) (vs := [9]) (by decide)) (gName_ok 9) (fun _ _ _ _ _ => (qg_name 9 sc_fast_for.nd)) (fun _ _ _ _ _ => qts_nil) (fun _ _ _ _ _ => (qe_ix (qe_var 9) (qe_var 3)))) (qa_cons (qe_lc isF rfl sc_fast_for.nd (qi_enum f_enumerate (qa_cons (qe_var 5) qa_nil)) (blkOk_by (own := [("at", 10), ("row", 9)]) (N := N_fast_for) (sc := defScope s_fast_for) (by decide +kernel)) (tok_tup (is := [10, 9]) (vs := [10, 9]) (by decide)) (gTup_ok [10, 9] rfl) (fun _ _ _ _ _ => (qg_tup (is := [10, 9]) rfl (qgs_cons (qg_name 10 sc_fast_for.nd) (qgs_cons (qg_name 9 sc_fast_for.nd) pgs_names0)))) (fun _ _ _ _ _ => qts_nil) (fun _ _ _ _ _ => (qe_ix (qe_var 9) (qe_var 10)))) qa_nil)))
    (qss_cons (qs_set 8 sc_fast_for.nd (qe_callP (dds := []) (fun _ => .nil) c_times_to_whole tk (qa_cons (qe_lst (qa_star (qe_var 6) (qa_cons qe_int qa_nil))) (qa_cons (qe_lst (qa_star (qe_var 7) (qa_cons qe_int qa_nil))) qa_nil))))
    (qss_cons (qs_if (qt_le (qe_sum rfl f_sum (qa_cons (qe_lc isF rfl sc_fast_for.nd (qi_zip f_zip (qa_cons (qe_var 4) (qa_cons (qe_var 8) qa_nil))) (blkOk_by (own := [("item", 11), ("number", 12)]) (N := N_fast_for) (sc := defScope s_fast_for) (by decide +kernel)) (tok_tup (is := [11, 12]) (vs := [11, 12]) (by decide)) (gTup_ok [11, 12] rfl) (fun _ _ _ _ _ => (qg_tup (is := [11, 12]) rfl (qgs_cons (qg_name 11 sc_fast_for.nd) (qgs_cons (qg_name 12 sc_fast_for.nd) pgs_names0)))) (fun _ _ _ _ _ => qts_nil) (fun _ _ _ _ _ => (qe_mul (qe_var 11) (qe_var 12)))) qa_nil)) qe_int)
    (qss_one (qs_ret (qe_lst (qa_star (qe_var 8) (qa_star (qe_rep isF (qe_lst (qa_cons qe_int qa_nil)) (qe_subI (qe_subI (qe_len f_len (qa_cons (qe_var 2) qa_nil)) (qe_var 3)) qe_int)) qa_nil)))))
    qss_nil)
    (qss_wipe [3, 4, 5, 6, 7, 8] qss_nil))))))
    (qss_one (qs_ret qe_non))))
theorem cal_fast_for {P : Program} {w : World} {K : PySem.W.Frag} {mg : Str → Option Value} {base : Heap} (T : Tx P w K mg base) : CalF P w K mg base 45 "fast_for" [] (LiftP K (sp_fast_for)) := by
  obtain ⟨fd, F, G⟩ := fn_fast_for T
  exact calF_of G (T.gl 15 rfl) F.kp ⟨[], .nil, F.bindsN fun _ _ _ _ _ _ us hl => match us, hl with | [_, _], _ => rfl⟩

abbrev N_fast_paper : List Str := ["moves", "rate"]
theorem sc_fast_paper : FnScope N_fast_paper ["moves", "rate"] (defScope s_fast_paper) := ⟨rfl, rfl, rfl, by decide +kernel, rfl, by decide +kernel, by decide +kernel⟩
theorem fn_fast_paper {P : Program} {w : World} {K : PySem.W.Frag} {mg : Str → Option Value} {base : Heap} (T : Tx P w K mg base) : ∃ fd, FunD K "fast_paper" "fast_paper" (defArgs s_fast_paper) (defBody s_fast_paper) (defScope s_fast_paper) [] [] (He.ga K "fast_paper") fd ∧ FnG P w K mg base 46 (He.ga K "fast_paper") fd ["moves", "rate"] (LiftP K (sp_fast_paper (adr K))) := by
  obtain ⟨fd, F0⟩ := T.sd.def_ 16 (d := d_fast_paper) rfl
  have F : FunD K "fast_paper" "fast_paper" (defArgs s_fast_paper) (defBody s_fast_paper) (defScope s_fast_paper) [] [] (He.ga K "fast_paper") fd := F0
  refine ⟨fd, F, okP F sc_fast_paper (k := 45) (m := m_fast_paper (adr K)) (fun cdv A outer s H E hr hg tk hp => ?_) pl_fast_paper pure_fast_paper⟩
  have c_need_moves := (cal_need_moves T).at_ hr hg (by decide)
  have c_need_rate := (cal_need_rate T).at_ hr hg (by decide)
  have c_fast_for := (cal_fast_for T).at_ hr hg (by decide)
  have hu : (A.deeper (envOfC "fast_paper" (defScope s_fast_paper) s.heap.objs.size (He.ga K "fast_paper") cdv)).units + 64 < cLine := hr.units
  exact (qss_cons (qs_expr (qe_callP (dds := []) (fun _ => .nil) c_need_moves tk (qa_cons (qe_var 0) qa_nil)))
    (qss_cons (qs_expr (qe_callP (dds := []) (fun _ => .nil) c_need_rate tk (qa_cons (qe_var 1) qa_nil)))
    (qss_one (qs_ret (qe_callP (dds := []) (fun _ => .nil) c_fast_for tk (qa_cons (qe_var 0) (qa_cons (qe_var 1) qa_nil)))))))
theorem cal_fast_paper {P : Program} {w : World} {K : PySem.W.Frag} {mg : Str → Option Value} {base : Heap} (T : Tx P w K mg base) : CalF P w K mg base 46 "fast_paper" [] (LiftP K (sp_fast_paper (adr K))) := by
  obtain ⟨fd, F, G⟩ := fn_fast_paper T
  exact calF_of G (T.gl 16 rfl) F.kp ⟨[], .nil, F.bindsN fun _ _ _ _ _ _ us hl => match us, hl with | [_, _], _ => rfl⟩

abbrev N_slow_paper : List Str := ["moves", "rate"]
theorem sc_slow_paper : FnScope N_slow_paper ["moves", "rate"] (defScope s_slow_paper) := ⟨rfl, rfl, rfl, by decide +kernel, rfl, by decide +kernel, by decide +kernel⟩
theorem fn_slow_paper {P : Program} {w : World} {K : PySem.W.Frag} {mg : Str → Option Value} {base : Heap} (T : Tx P w K mg base) : ∃ fd, FunD K "slow_paper" "slow_paper" (defArgs s_slow_paper) (defBody s_slow_paper) (defScope s_slow_paper) [] [] (He.ga K "slow_paper") fd ∧ FnG P w K mg base 46 (He.ga K "slow_paper") fd ["moves", "rate"] (LiftP K (sp_slow_paper (adr K))) := by
  obtain ⟨fd, F0⟩ := T.sd.def_ 17 (d := d_slow_paper) rfl
  have F : FunD K "slow_paper" "slow_paper" (defArgs s_slow_paper) (defBody s_slow_paper) (defScope s_slow_paper) [] [] (He.ga K "slow_paper") fd := F0
  refine ⟨fd, F, okP F sc_slow_paper (k := 45) (m := m_slow_paper (adr K)) (fun cdv A outer s H E hr hg tk hp => ?_) pl_slow_paper pure_slow_paper⟩
  have c_need_moves := (cal_need_moves T).at_ hr hg (by decide)
  have c_need_rate := (cal_need_rate T).at_ hr hg (by decide)
  have c_slow_for := (cal_slow_for T).at_ hr hg (by decide)
  have hu : (A.deeper (envOfC "slow_paper" (defScope s_slow_paper) s.heap.objs.size (He.ga K "slow_paper") cdv)).units + 64 < cLine := hr.units
  exact (qss_cons (qs_expr (qe_callP (dds := []) (fun _ => .nil) c_need_moves tk (qa_cons (qe_var 0) qa_nil)))
    (qss_cons (qs_expr (qe_callP (dds := []) (fun _ => .nil) c_need_rate tk (qa_cons (qe_var 1) qa_nil)))
    (qss_one (qs_ret (qe_callP (dds := []) (fun _ => .nil) c_slow_for tk (qa_cons (qe_var 0) (qa_cons (qe_var 1) qa_nil)))))))
theorem cal_slow_paper {P : Program} {w : World} {K : PySem.W.Frag} {mg : Str → Option Value} {base : Heap} (T : Tx P w K mg base) : CalF P w K mg base 46 "slow_paper" [] (LiftP K (sp_slow_paper (adr K))) := by
  obtain ⟨fd, F, G⟩ := fn_slow_paper T
  exact calF_of G (T.gl 17 rfl) F.kp ⟨[], .nil, F.bindsN fun _ _ _ _ _ _ us hl => match us, hl with | [_, _], _ => rfl⟩

abbrev N_is_fast_paper : List Str := ["moves", "rate", "value", "item"]
theorem sc_is_fast_paper : FnScope N_is_fast_paper ["moves", "rate", "value"] (defScope s_is_fast_paper) := ⟨rfl, rfl, rfl, by decide +kernel, rfl, by decide +kernel, by decide +kernel⟩
theorem fn_is_fast_paper {P : Program} {w : World} {K : PySem.W.Frag} {mg : Str → Option Value} {base : Heap} (T : Tx P w K mg base) : ∃ fd, FunD K "is_fast_paper" "is_fast_paper" (defArgs s_is_fast_paper) (defBody s_is_fast_paper) (defScope s_is_fast_paper) [] [] (He.ga K "is_fast_paper") fd ∧ FnG P w K mg base 46 (He.ga K "is_fast_paper") fd ["moves", "rate", "value"] (LiftP K (sp_is_fast_paper (adr K))) := by
  obtain ⟨fd, F0⟩ := T.sd.def_ 18 (d := d_is_fast_paper) rfl
  have F : FunD K "is_fast_paper" "is_fast_paper" (defArgs s_is_fast_paper) (defBody s_is_fast_paper) (defScope s_is_fast_paper) [] [] (He.ga K "is_fast_paper") fd := F0
  refine ⟨fd, F, okP F sc_is_fast_paper (k := 45) (m := m_is_fast_paper (adr K)) (fun cdv A outer s H E hr hg tk hp => ?_) pl_is_fast_paper pure_is_fast_paper⟩
  have f_len : mg "len" = none := T.fr 40 rfl
  have f_any : mg "any" = none := T.fr 52 rfl
  have c_need_moves := (cal_need_moves T).at_ hr hg (by decide)
  have c_need_rate := (cal_need_rate T).at_ hr hg (by decide)
  have c_are_integers_2 := (cal_are_integers_2 T).at_ hr hg (by decide)
  have c_holds_fast := (cal_holds_fast T).at_ hr hg (by decide)
  have hu : (A.deeper (envOfC "is_fast_paper" (defScope s_is_fast_paper) s.heap.objs.size (He.ga K "is_fast_paper") cdv)).units + 64 < cLine := hr.units
  exact (qss_cons (qs_expr (qe_callP (dds := []) (fun _ => .nil) c_need_moves tk (qa_cons (qe_var 0) qa_nil)))
    (qss_cons (qs_expr (qe_callP (dds := []) (fun _ => .nil) c_need_rate tk (qa_cons (qe_var 1) qa_nil)))
    (qss_cons (qs_if (QW.qt (qw_or (qt_not (qt_val (qe_callP (dds := [.none]) (fun _ => (.cons .non .nil)) c_are_integers_2 tk (qa_cons (qe_var 2) (qa_cons qe_int qa_nil))))) (qw_or1 (qt_ne (qe_len f_len (qa_cons (qe_var 2) qa_nil)) (qe_subI (qe_len f_len (qa_cons (qe_var 0) qa_nil)) qe_int)))))
    (qss_one (qs_ret qe_bl))
    qss_nil)
    (qss_one (qs_ret (qe_and (qe_any rfl f_any (qa_cons (qe_lc isF rfl sc_is_fast_paper.nd (qi_list (qe_var 2)) (blkOk_by (own := [("item", 3)]) (N := N_is_fast_paper) (sc := defScope s_is_fast_paper) (by decide +kernel)) (tok_name (i := 3) (vs := [3]) (by decide)) (gName_ok 3) (fun _ _ _ _ _ => (qg_name 3 sc_is_fast_paper.nd)) (fun _ _ _ _ _ => qts_nil) (fun _ _ _ _ _ => (qe_gt (qe_var 3) qe_int))) qa_nil)) (qe_one (qe_callP (dds := []) (fun _ => .nil) c_holds_fast tk (qa_cons (qe_var 0) (qa_cons (qe_var 1) (qa_cons (qe_var 2) qa_nil)))))))))))
theorem cal_is_fast_paper {P : Program} {w : World} {K : PySem.W.Frag} {mg : Str → Option Value} {base : Heap} (T : Tx P w K mg base) : CalF P w K mg base 46 "is_fast_paper" [] (LiftP K (sp_is_fast_paper (adr K))) := by
  obtain ⟨fd, F, G⟩ := fn_is_fast_paper T
  exact calF_of G (T.gl 18 rfl) F.kp ⟨[], .nil, F.bindsN fun _ _ _ _ _ _ us hl => match us, hl with | [_, _, _], _ => rfl⟩

abbrev N_is_slow_paper : List Str := ["moves", "rate", "value", "sums", "number", "total"]
theorem sc_is_slow_paper : FnScope N_is_slow_paper ["moves", "rate", "value"] (defScope s_is_slow_paper) := ⟨rfl, rfl, rfl, by decide +kernel, rfl, by decide +kernel, by decide +kernel⟩
theorem fn_is_slow_paper {P : Program} {w : World} {K : PySem.W.Frag} {mg : Str → Option Value} {base : Heap} (T : Tx P w K mg base) : ∃ fd, FunD K "is_slow_paper" "is_slow_paper" (defArgs s_is_slow_paper) (defBody s_is_slow_paper) (defScope s_is_slow_paper) [] [] (He.ga K "is_slow_paper") fd ∧ FnG P w K mg base 46 (He.ga K "is_slow_paper") fd ["moves", "rate", "value"] (LiftP K (sp_is_slow_paper (adr K))) := by
  obtain ⟨fd, F0⟩ := T.sd.def_ 19 (d := d_is_slow_paper) rfl
  have F : FunD K "is_slow_paper" "is_slow_paper" (defArgs s_is_slow_paper) (defBody s_is_slow_paper) (defScope s_is_slow_paper) [] [] (He.ga K "is_slow_paper") fd := F0
  refine ⟨fd, F, okP F sc_is_slow_paper (k := 45) (m := m_is_slow_paper (adr K)) (fun cdv A outer s H E hr hg tk hp => ?_) pl_is_slow_paper pure_is_slow_paper⟩
  have f_len : mg "len" = none := T.fr 40 rfl
  have f_all : mg "all" = none := T.fr 51 rfl
  have f_zip : mg "zip" = none := T.fr 49 rfl
  have c_need_moves := (cal_need_moves T).at_ hr hg (by decide)
  have c_need_rate := (cal_need_rate T).at_ hr hg (by decide)
  have c_are_integers_2 := (cal_are_integers_2 T).at_ hr hg (by decide)
  have c_one_before := (cal_one_before T).at_ hr hg (by decide)
  have hu : (A.deeper (envOfC "is_slow_paper" (defScope s_is_slow_paper) s.heap.objs.size (He.ga K "is_slow_paper") cdv)).units + 64 < cLine := hr.units
  exact (qss_cons (qs_expr (qe_callP (dds := []) (fun _ => .nil) c_need_moves tk (qa_cons (qe_var 0) qa_nil)))
    (qss_cons (qs_expr (qe_callP (dds := []) (fun _ => .nil) c_need_rate tk (qa_cons (qe_var 1) qa_nil)))
    (qss_cons (qs_if (QW.qt (qw_or (qt_not (qt_val (qe_callP (dds := [.none]) (fun _ => (.cons .non .nil)) c_are_integers_2 tk (qa_cons (qe_var 2) (qa_cons qe_int qa_nil))))) (qw_or1 (qt_ne (qe_len f_len (qa_cons (qe_var 2) qa_nil)) (qe_subI (qe_len f_len (qa_cons (qe_var 0) qa_nil)) qe_int)))))
    (qss_one (qs_ret qe_bl))
    qss_nil)
    (qss_cons (qs_set 3 sc_is_slow_paper.nd (qe_callP (dds := []) (fun _ => .nil) c_one_before tk (qa_cons (qe_var 0) (qa_cons (qe_var 2) qa_nil))))
    (qss_one (qs_ret (qe_all rfl f_all (qa_cons (qe_lc isF rfl sc_is_slow_paper.nd (qi_zip f_zip (qa_cons (qe_var 2) (qa_cons (qe_var 3) qa_nil))) (blkOk_by (own := [("number", 4), ("total", 5)]) (N := N_is_slow_paper) (sc := defScope s_is_slow_paper) (by decide +kernel)) (tok_tup (is := [4, 5]) (vs := [4, 5]) (by decide)) (gTup_ok [4, 5] rfl) (fun _ _ _ _ _ => (qg_tup (is := [4, 5]) rfl (qgs_cons (qg_name 4 sc_is_slow_paper.nd) (qgs_cons (qg_name 5 sc_is_slow_paper.nd) pgs_names0)))) (fun _ _ _ _ _ => qts_nil) (fun _ _ _ _ _ => (qe_lt (qe_mul (qe_ix (qe_var 1) qe_int) (qe_var 5)) (qe_mul (qe_ix (qe_var 1) qe_int) (qe_var 4))))) qa_nil))))))))
theorem cal_is_slow_paper {P : Program} {w : World} {K : PySem.W.Frag} {mg : Str → Option Value} {base : Heap} (T : Tx P w K mg base) : CalF P w K mg base 46 "is_slow_paper" [] (LiftP K (sp_is_slow_paper (adr K))) := by
  obtain ⟨fd, F, G⟩ := fn_is_slow_paper T
  exact calF_of G (T.gl 19 rfl) F.kp ⟨[], .nil, F.bindsN fun _ _ _ _ _ _ us hl => match us, hl with | [_, _, _], _ => rfl⟩

abbrev N__law_well : List Str := ["_law_script", "_law_k", "_law_cell"]
theorem sc__law_well : FnScope N__law_well ["_law_script", "_law_k"] (defScope s__law_well) := ⟨rfl, rfl, rfl, by decide +kernel, rfl, by decide +kernel, by decide +kernel⟩
theorem fn__law_well {P : Program} {w : World} {K : PySem.W.Frag} {mg : Str → Option Value} {base : Heap} (T : Tx P w K mg base) : ∃ fd, FunD K "_law_well" "_law_well" (defArgs s__law_well) (defBody s__law_well) (defScope s__law_well) [] [] (He.ga K "_law_well") fd ∧ FnG P w K mg base 42 (He.ga K "_law_well") fd ["_law_script", "_law_k"] (LiftSL K (sp__law_well)) := by
  obtain ⟨fd, F0⟩ := T.sd.def_ 20 (d := d__law_well) rfl
  have F : FunD K "_law_well" "_law_well" (defArgs s__law_well) (defBody s__law_well) (defScope s__law_well) [] [] (He.ga K "_law_well") fd := F0
  refine ⟨fd, F, okSL F sc__law_well (k := 41) (m := m__law_well) (fun cdv A outer s H E hr hg tk hp => ?_) pl__law_well pure__law_well⟩
  have f_len : mg "len" = none := T.fr 40 rfl
  have f_int : mg "int" = none := T.fr 42 rfl
  have f_abs : mg "abs" = none := T.fr 41 rfl
  have f_max : mg "max" = none := T.fr 45 rfl
  have hu : (A.deeper (envOfC "_law_well" (defScope s__law_well) s.heap.objs.size (He.ga K "_law_well") cdv)).units + 64 < cLine := hr.units
  exact (qss_cons (qs_set 2 sc__law_well.nd (qe_ifExp (qt_lt (qe_var 1) (qe_len f_len (qa_cons (qe_var 0) qa_nil))) (qe_ix (qe_var 0) (qe_var 1)) qe_int))
    (qss_one (qs_ret (qe_lstO (qa_cons (qe_max2 rfl f_max (qa_cons qe_int (qa_cons (qe_subI (qe_var 2) (qe_pow qe_int qe_int)) qa_nil))) (qa_cons (qe_add (qe_add (qe_mod (qe_intC f_int (qa_cons (qe_abs f_abs (qa_cons (qe_var 2) qa_nil)) qa_nil)) (qe_add (qe_pow qe_int qe_int) qe_int)) (qe_mul qe_int (qe_var 1))) qe_int) (qa_cons qe_int qa_nil)))))))
theorem cal__law_well {P : Program} {w : World} {K : PySem.W.Frag} {mg : Str → Option Value} {base : Heap} (T : Tx P w K mg base) : CalF P w K mg base 42 "_law_well" [] (LiftSL K (sp__law_well)) := by
  obtain ⟨fd, F, G⟩ := fn__law_well T
  exact calF_of G (T.gl 20 rfl) F.kp ⟨[], .nil, F.bindsN fun _ _ _ _ _ _ us hl => match us, hl with | [_, _], _ => rfl⟩

abbrev N__law_pick : List Str := ["_law_well_here", "_law_bound", "_law_found", "_law_stirred"]
theorem sc__law_pick : FnScope N__law_pick ["_law_well_here", "_law_bound"] (defScope s__law_pick) := ⟨rfl, rfl, rfl, by decide +kernel, rfl, by decide +kernel, by decide +kernel⟩
theorem fn__law_pick {P : Program} {w : World} {K : PySem.W.Frag} {mg : Str → Option Value} {base : Heap} (T : Tx P w K mg base) : ∃ fd, FunD K "_law_pick" "_law_pick" (defArgs s__law_pick) (defBody s__law_pick) (defScope s__law_pick) [] [] (He.ga K "_law_pick") fd ∧ FnG P w K mg base 42 (He.ga K "_law_pick") fd ["_law_well_here", "_law_bound"] (LiftC K (sp__law_pick)) := by
  obtain ⟨fd, F0⟩ := T.sd.def_ 21 (d := d__law_pick) rfl
  have F : FunD K "_law_pick" "_law_pick" (defArgs s__law_pick) (defBody s__law_pick) (defScope s__law_pick) [] [] (He.ga K "_law_pick") fd := F0
  refine ⟨fd, F, okC F sc__law_pick (k := 41) (m := m__law_pick) (fun cdv A outer s H E hr hg tk hp => ?_) pl__law_pick pure__law_pick⟩
  have f_int : mg "int" = none := T.fr 42 rfl
  have hu : (A.deeper (envOfC "_law_pick" (defScope s__law_pick) s.heap.objs.size (He.ga K "_law_pick") cdv)).units + 64 < cLine := hr.units
  exact (qss_cons (qs_if (qt_gt (qe_ix (qe_var 0) qe_int) qe_int)
    (qss_cons (qs_set 2 sc__law_pick.nd (qe_mod (qe_intC f_int (qa_cons (qe_ix (qe_var 0) qe_int) qa_nil)) (qe_var 1)))
    (qss_cons (qs_setIx (qe_div (qe_ix (qe_var 0) qe_int) (qe_var 1)) (qe_var 0) qe_int)
    (qss_one (qs_ret (qe_var 2)))))
    qss_nil)
    (qss_cons (qs_setIx (qe_add (qe_ix (qe_var 0) qe_int) qe_int) (qe_var 0) qe_int)
    (qss_cons (qs_set 3 sc__law_pick.nd (qe_mod (qe_intC f_int (qa_cons (qe_pow (qe_add (qe_ix (qe_var 0) qe_int) (qe_mul qe_int (qe_ix (qe_var 0) qe_int))) qe_int) qa_nil)) (qe_add (qe_pow qe_int qe_int) qe_int)))
    (qss_cons (qs_set 3 sc__law_pick.nd (qe_mod (qe_intC f_int (qa_cons (qe_pow (qe_add (qe_var 3) (qe_mul qe_int (qe_ix (qe_var 0) qe_int))) qe_int) qa_nil)) (qe_add (qe_pow qe_int qe_int) qe_int)))
    (qss_one (qs_ret (qe_mod (qe_intC f_int (qa_cons (qe_div (qe_var 3) qe_int) qa_nil)) (qe_var 1))))))))
theorem cal__law_pick {P : Program} {w : World} {K : PySem.W.Frag} {mg : Str → Option Value} {base : Heap} (T : Tx P w K mg base) : CalF P w K mg base 42 "_law_pick" [] (LiftC K (sp__law_pick)) := by
  obtain ⟨fd, F, G⟩ := fn__law_pick T
  exact calF_of G (T.gl 21 rfl) F.kp ⟨[], .nil, F.bindsN fun _ _ _ _ _ _ us hl => match us, hl with | [_, _], _ => rfl⟩

abbrev N__law_mixed : List Str := ["_law_well_here", "_law_size", "_law_left", "_law_found"]
theorem sc__law_mixed : FnScope N__law_mixed ["_law_well_here", "_law_size"] (defScope s__law_mixed) := ⟨rfl, rfl, rfl, by decide +kernel, rfl, by decide +kernel, by decide +kernel⟩
theorem fn__law_mixed {P : Program} {w : World} {K : PySem.W.Frag} {mg : Str → Option Value} {base : Heap} (T : Tx P w K mg base) : ∃ fd, FunD K "_law_mixed" "_law_mixed" (defArgs s__law_mixed) (defBody s__law_mixed) (defScope s__law_mixed) [] [] (He.ga K "_law_mixed") fd ∧ FnG P w K mg base 43 (He.ga K "_law_mixed") fd ["_law_well_here", "_law_size"] (LiftC K (sp__law_mixed)) := by
  obtain ⟨fd, F0⟩ := T.sd.def_ 22 (d := d__law_mixed) rfl
  have F : FunD K "_law_mixed" "_law_mixed" (defArgs s__law_mixed) (defBody s__law_mixed) (defScope s__law_mixed) [] [] (He.ga K "_law_mixed") fd := F0
  refine ⟨fd, F, okC F sc__law_mixed (k := 42) (m := m__law_mixed) (fun cdv A outer s H E hr hg tk hp => ?_) pl__law_mixed pure__law_mixed⟩
  have f_list : mg "list" = none := T.fr 44 rfl
  have f_range : mg "range" = none := T.fr 47 rfl
  have f_len : mg "len" = none := T.fr 40 rfl
  have c__law_pick := (cal__law_pick T).at_ hr hg (by decide)
  have hu : (A.deeper (envOfC "_law_mixed" (defScope s__law_mixed) s.heap.objs.size (He.ga K "_law_mixed") cdv)).units + 64 < cLine := hr.units
  exact (qss_cons (qs_par 2 3 rfl sc__law_mixed.nd (qa_cons (qe_listRg1 isO rfl f_list f_range (qe_var 1)) (qa_cons (qe_lstO qa_nil) qa_nil)))
    (qss_cons (qs_while hp (qt_neD hu (qe_var 2) (qe_lst qa_nil))
    (qss_one (qs_expr (qe_append (qe_var 3) (qa_cons (qe_popAt (qe_var 2) (qa_cons (qe_callC c__law_pick tk (qa_cons (qe_var 0) (qa_cons (qe_len f_len (qa_cons (qe_var 2) qa_nil)) qa_nil))) qa_nil)) qa_nil)))))
    (qss_frz 3 (qss_one (qs_ret (qe_var 3))))))
theorem cal__law_mixed {P : Program} {w : World} {K : PySem.W.Frag} {mg : Str → Option Value} {base : Heap} (T : Tx P w K mg base) : CalF P w K mg base 43 "_law_mixed" [] (LiftC K (sp__law_mixed)) := by
  obtain ⟨fd, F, G⟩ := fn__law_mixed T
  exact calF_of G (T.gl 22 rfl) F.kp ⟨[], .nil, F.bindsN fun _ _ _ _ _ _ us hl => match us, hl with | [_, _], _ => rfl⟩

abbrev N__law_moves : List Str := ["_law_well_here", "_law_size", "_law_way", "_law_some", "_law_found", "_law_at", "_law_one", "_law_near", "_law_turn"]
theorem sc__law_moves : FnScope N__law_moves ["_law_well_here", "_law_size"] (defScope s__law_moves) := ⟨rfl, rfl, rfl, by decide +kernel, rfl, by decide +kernel, by decide +kernel⟩
theorem fn__law_moves {P : Program} {w : World} {K : PySem.W.Frag} {mg : Str → Option Value} {base : Heap} (T : Tx P w K mg base) : ∃ fd, FunD K "_law_moves" "_law_moves" (defArgs s__law_moves) (defBody s__law_moves) (defScope s__law_moves) [] [] (He.ga K "_law_moves") fd ∧ FnG P w K mg base 44 (He.ga K "_law_moves") fd ["_law_well_here", "_law_size"] (LiftC K (sp__law_moves)) := by
  obtain ⟨fd, F0⟩ := T.sd.def_ 23 (d := d__law_moves) rfl
  have F : FunD K "_law_moves" "_law_moves" (defArgs s__law_moves) (defBody s__law_moves) (defScope s__law_moves) [] [] (He.ga K "_law_moves") fd := F0
  refine ⟨fd, F, okC F sc__law_moves (k := 43) (m := m__law_moves) (fun cdv A outer s H E hr hg tk hp => ?_) pl__law_moves pure__law_moves⟩
  have f_range : mg "range" = none := T.fr 47 rfl
  have f_enumerate : mg "enumerate" = none := T.fr 50 rfl
  have f_int : mg "int" = none := T.fr 42 rfl
  have f_min : mg "min" = none := T.fr 46 rfl
  have f_max : mg "max" = none := T.fr 45 rfl
  have c__law_pick := (cal__law_pick T).at_ hr hg (by decide)
  have c__law_mixed := (cal__law_mixed T).at_ hr hg (by decide)
  have hu : (A.deeper (envOfC "_law_moves" (defScope s__law_moves) s.heap.objs.size (He.ga K "_law_moves") cdv)).units + 64 < cLine := hr.units
  exact (qss_cons (qs_set 2 sc__law_moves.nd (qe_callC c__law_pick tk (qa_cons (qe_var 0) (qa_cons qe_int qa_nil))))
    (qss_cons (qs_if (qt_eq (qe_var 2) qe_int)
    (qss_one (qs_ret (qe_lc isF rfl sc__law_moves.nd (qi_range1 f_range (qa_cons (qe_var 1) qa_nil)) (blkOk_by (own := [("_law_turn", 8)]) (N := N__law_moves) (sc := defScope s__law_moves) (by decide +kernel)) (tok_name (i := 8) (vs := [8]) (by decide)) (gName_ok 8) (fun _ _ _ _ _ => (qg_name 8 sc__law_moves.nd)) (fun _ _ _ _ _ => qts_nil) (fun _ _ _ _ _ => (qe_callC c__law_pick takes0 (qa_cons (qe_var 0) (qa_cons (qe_var 1) qa_nil)))))))
    qss_nil)
    (qss_cons (qs_set 3 sc__law_moves.nd (qe_callC c__law_mixed tk (qa_cons (qe_var 0) (qa_cons (qe_var 1) qa_nil))))
    (qss_cons (qs_if (qt_eq (qe_var 2) qe_int)
    (qss_cons (qs_set 4 sc__law_moves.nd (qe_rep isO (qe_lst (qa_cons qe_int qa_nil)) (qe_var 1)))
    (qss_cons (qs_for hp rfl (qi_enum f_enumerate (qa_cons (qe_var 3) qa_nil)) (qg_tup (is := [5, 6]) rfl (qgs_cons (qg_name 5 sc__law_moves.nd) (qgs_cons (qg_name 6 sc__law_moves.nd) pgs_names0)))
    (qss_cons (qs_setIx (qe_ix (qe_var 3) (qe_mod (qe_intC f_int (qa_cons (qe_add (qe_var 5) qe_int) qa_nil)) (qe_var 1))) (qe_var 4) (qe_var 6))
    (qss_wipe [5, 6] qss_nil)))
    (qss_frz 4 (qss_one (qs_ret (qe_var 4))))))
    qss_nil)
    (qss_cons (qs_if (qt_eq (qe_var 2) qe_int)
    (qss_one (qs_ret (qe_var 3)))
    qss_nil)
    (qss_cons (qs_if (qt_eq (qe_var 2) qe_int)
    (qss_cons (qs_setLc 7 isF rfl sc__law_moves.nd (qi_range1 f_range (qa_cons (qe_var 1) qa_nil)) (blkOk_by (own := [("_law_turn", 8)]) (N := N__law_moves) (sc := defScope s__law_moves) (by decide +kernel)) (tok_name (i := 8) (vs := [8]) (by decide)) (gName_ok 8) (fun _ _ _ _ _ => (qg_name 8 sc__law_moves.nd)) (fun _ _ _ _ _ => qts_nil) (fun _ _ _ _ _ => (qe_callC c__law_pick takes0 (qa_cons (qe_var 0) (qa_cons (qe_add qe_int (qe_div (qe_var 1) qe_int)) qa_nil)))) (sw_true rfl rfl rfl (by decide +kernel)))
    (qss_one (qs_ret (qe_lc isF rfl sc__law_moves.nd (qi_enum f_enumerate (qa_cons (qe_var 7) qa_nil)) (blkOk_by (own := [("_law_at", 5), ("_law_one", 6)]) (N := N__law_moves) (sc := defScope s__law_moves) (by decide +kernel)) (tok_tup (is := [5, 6]) (vs := [5, 6]) (by decide)) (gTup_ok [5, 6] rfl) (fun _ _ _ _ _ => (qg_tup (is := [5, 6]) rfl (qgs_cons (qg_name 5 sc__law_moves.nd) (qgs_cons (qg_name 6 sc__law_moves.nd) pgs_names0)))) (fun _ _ _ _ _ => qts_nil) (fun _ _ _ _ _ => (qe_ifExp (qt_eq (qe_mul (qe_div (qe_var 5) qe_int) qe_int) (qe_var 5)) (qe_var 6) (qe_subI (qe_subI (qe_var 1) qe_int) (qe_var 6))))))))
    qss_nil)
    (qss_cons (qs_if (qt_eq (qe_var 2) qe_int)
    (qss_one (qs_ret (qe_lc isF rfl sc__law_moves.nd (qi_range1 f_range (qa_cons (qe_var 1) qa_nil)) (blkOk_by (own := [("_law_turn", 8)]) (N := N__law_moves) (sc := defScope s__law_moves) (by decide +kernel)) (tok_name (i := 8) (vs := [8]) (by decide)) (gName_ok 8) (fun _ _ _ _ _ => (qg_name 8 sc__law_moves.nd)) (fun _ _ _ _ _ => qts_nil) (fun _ _ _ _ _ => (qe_ix (qe_var 3) (qe_callC c__law_pick takes0 (qa_cons (qe_var 0) (qa_cons (qe_min2 rfl f_min (qa_cons (qe_var 1) (qa_cons qe_int qa_nil))) qa_nil))))))))
    qss_nil)
    (qss_one (qs_ret (qe_lc isF rfl sc__law_moves.nd (qi_range1 f_range (qa_cons (qe_var 1) qa_nil)) (blkOk_by (own := [("_law_at", 5)]) (N := N__law_moves) (sc := defScope s__law_moves) (by decide +kernel)) (tok_name (i := 5) (vs := [5]) (by decide)) (gName_ok 5) (fun _ _ _ _ _ => (qg_name 5 sc__law_moves.nd)) (fun _ _ _ _ _ => qts_nil) (fun _ _ _ _ _ => (qe_min2 rfl f_min (qa_cons (qe_subI (qe_var 1) qe_int) (qa_cons (qe_max2 rfl f_max (qa_cons qe_int (qa_cons (qe_subI (qe_add (qe_var 5) (qe_callC c__law_pick takes0 (qa_cons (qe_var 0) (qa_cons qe_int qa_nil)))) qe_int) qa_nil))) qa_nil))))))))))))))
theorem cal__law_moves {P : Program} {w : World} {K : PySem.W.Frag} {mg : Str → Option Value} {base : Heap} (T : Tx P w K mg base) : CalF P w K mg base 44 "_law_moves" [] (LiftC K (sp__law_moves)) := by
  obtain ⟨fd, F, G⟩ := fn__law_moves T
  exact calF_of G (T.gl 23 rfl) F.kp ⟨[], .nil, F.bindsN fun _ _ _ _ _ _ us hl => match us, hl with | [_, _], _ => rfl⟩

abbrev N__law_sums : List Str := ["_law_moves_here", "_law_numbers", "_law_found", "_law_one", "_law_other"]
theorem sc__law_sums : FnScope N__law_sums ["_law_moves_here", "_law_numbers"] (defScope s__law_sums) := ⟨rfl, rfl, rfl, by decide +kernel, rfl, by decide +kernel, by decide +kernel⟩
theorem fn__law_sums {P : Program} {w : World} {K : PySem.W.Frag} {mg : Str → Option Value} {base : Heap} (T : Tx P w K mg base) : ∃ fd, FunD K "_law_sums" "_law_sums" (defArgs s__law_sums) (defBody s__law_sums) (defScope s__law_sums) [] [] (He.ga K "_law_sums") fd ∧ FnG P w K mg base 42 (He.ga K "_law_sums") fd ["_law_moves_here", "_law_numbers"] (LiftP K (sp__law_sums)) := by
  obtain ⟨fd, F0⟩ := T.sd.def_ 24 (d := d__law_sums) rfl
  have F : FunD K "_law_sums" "_law_sums" (defArgs s__law_sums) (defBody s__law_sums) (defScope s__law_sums) [] [] (He.ga K "_law_sums") fd := F0
  refine ⟨fd, F, okP F sc__law_sums (k := 41) (m := m__law_sums) (fun cdv A outer s H E hr hg tk hp => ?_) pl__law_sums pure__law_sums⟩
  have f_zip : mg "zip" = none := T.fr 49 rfl
  have f_sum : mg "sum" = none := T.fr 48 rfl
  have f_min : mg "min" = none := T.fr 46 rfl
  have f_max : mg "max" = none := T.fr 45 rfl
  have hu : (A.deeper (envOfC "_law_sums" (defScope s__law_sums) s.heap.objs.size (He.ga K "_law_sums") cdv)).units + 64 < cLine := hr.units
  exact (qss_cons (qs_set 2 sc__law_sums.nd (qe_lstO qa_nil))
    (qss_cons (qs_for hp rfl (qi_zip f_zip (qa_cons (qe_var 0) (qa_cons (qe_slice isF (qe_var 0) (qo_some qe_int) qo_none) qa_nil))) (qg_tup (is := [3, 4]) rfl (qgs_cons (qg_name 3 sc__law_sums.nd) (qgs_cons (qg_name 4 sc__law_sums.nd) pgs_names0)))
    (qss_cons (qs_expr (qe_append (qe_var 2) (qa_cons (qe_sum rfl f_sum (qa_cons (qe_slice isF (qe_var 1) (qo_some (qe_min2 rfl f_min (qa_cons (qe_var 3) (qa_cons (qe_var 4) qa_nil)))) (qo_some (qe_max2 rfl f_max (qa_cons (qe_var 3) (qa_cons (qe_var 4) qa_nil))))) qa_nil)) qa_nil)))
    (qss_wipe [3, 4] qss_nil)))
    (qss_frz 2 (qss_one (qs_ret (qe_var 2))))))
theorem cal__law_sums {P : Program} {w : World} {K : PySem.W.Frag} {mg : Str → Option Value} {base : Heap} (T : Tx P w K mg base) : CalF P w K mg base 42 "_law_sums" [] (LiftP K (sp__law_sums)) := by
  obtain ⟨fd, F, G⟩ := fn__law_sums T
  exact calF_of G (T.gl 24 rfl) F.kp ⟨[], .nil, F.bindsN fun _ _ _ _ _ _ us hl => match us, hl with | [_, _], _ => rfl⟩

abbrev N__law_are_whole : List Str := ["_law_value", "_law_least", "_law_one"]
theorem sc__law_are_whole : FnScope N__law_are_whole ["_law_value", "_law_least"] (defScope s__law_are_whole) := ⟨rfl, rfl, rfl, by decide +kernel, rfl, by decide +kernel, by decide +kernel⟩
theorem fn__law_are_whole {P : Program} {w : World} {K : PySem.W.Frag} {mg : Str → Option Value} {base : Heap} (T : Tx P w K mg base) : ∃ fd, FunD K "_law_are_whole" "_law_are_whole" (defArgs s__law_are_whole) (defBody s__law_are_whole) (defScope s__law_are_whole) [] [] (He.ga K "_law_are_whole") fd ∧ FnG P w K mg base 42 (He.ga K "_law_are_whole") fd ["_law_value", "_law_least"] (LiftP K (sp__law_are_whole)) := by
  obtain ⟨fd, F0⟩ := T.sd.def_ 25 (d := d__law_are_whole) rfl
  have F : FunD K "_law_are_whole" "_law_are_whole" (defArgs s__law_are_whole) (defBody s__law_are_whole) (defScope s__law_are_whole) [] [] (He.ga K "_law_are_whole") fd := F0
  refine ⟨fd, F, okP F sc__law_are_whole (k := 41) (m := m__law_are_whole) (fun cdv A outer s H E hr hg tk hp => ?_) pl__law_are_whole pure__law_are_whole⟩
  have f_isinstance : mg "isinstance" = none := T.fr 43 rfl
  have f_list : mg "list" = none := T.fr 44 rfl
  have f_bool : mg "bool" = none := T.fr 55 rfl
  have f_int : mg "int" = none := T.fr 42 rfl
  have hu : (A.deeper (envOfC "_law_are_whole" (defScope s__law_are_whole) s.heap.objs.size (He.ga K "_law_are_whole") cdv)).units + 64 < cLine := hr.units
  exact (qss_cons (qs_if (qt_not (qt_val (qe_is kit_list (by decide +kernel) f_isinstance f_list (qe_var 0))))
    (qss_one (qs_ret qe_bl))
    qss_nil)
    (qss_one (qs_ret (qe_eqD hu (qe_lc isF rfl sc__law_are_whole.nd (qi_list (qe_var 0)) (blkOk_by (own := [("_law_one", 2)]) (N := N__law_are_whole) (sc := defScope s__law_are_whole) (by decide +kernel)) (tok_name (i := 2) (vs := [2]) (by decide)) (gName_ok 2) (fun _ _ _ _ _ => (qg_name 2 sc__law_are_whole.nd)) (fun _ _ _ _ _ => (qts_one (QW.qt (qw_or (qt_not (qt_val (qe_is kit_int (by decide +kernel) f_isinstance f_int (qe_var 2)))) (qw_or (qt_val (qe_is kit_bool (by decide +kernel) f_isinstance f_bool (qe_var 2))) (qw_or1 (qt_lt (qe_var 2) (qe_var 1)))))))) (fun _ _ _ _ _ => qe_int)) (qe_lst qa_nil)))))
theorem cal__law_are_whole {P : Program} {w : World} {K : PySem.W.Frag} {mg : Str → Option Value} {base : Heap} (T : Tx P w K mg base) : CalF P w K mg base 42 "_law_are_whole" [] (LiftP K (sp__law_are_whole)) := by
  obtain ⟨fd, F, G⟩ := fn__law_are_whole T
  exact calF_of G (T.gl 25 rfl) F.kp ⟨[], .nil, F.bindsN fun _ _ _ _ _ _ us hl => match us, hl with | [_, _], _ => rfl⟩

abbrev N__law_is_fast : List Str := ["_law_moves_here", "_law_rate", "_law_value", "_law_one", "_law_total"]
theorem sc__law_is_fast : FnScope N__law_is_fast ["_law_moves_here", "_law_rate", "_law_value"] (defScope s__law_is_fast) := ⟨rfl, rfl, rfl, by decide +kernel, rfl, by decide +kernel, by decide +kernel⟩
theorem fn__law_is_fast {P : Program} {w : World} {K : PySem.W.Frag} {mg : Str → Option Value} {base : Heap} (T : Tx P w K mg base) : ∃ fd, FunD K "_law_is_fast" "_law_is_fast" (defArgs s__law_is_fast) (defBody s__law_is_fast) (defScope s__law_is_fast) [] [] (He.ga K "_law_is_fast") fd ∧ FnG P w K mg base 43 (He.ga K "_law_is_fast") fd ["_law_moves_here", "_law_rate", "_law_value"] (LiftP K (sp__law_is_fast)) := by
  obtain ⟨fd, F0⟩ := T.sd.def_ 26 (d := d__law_is_fast) rfl
  have F : FunD K "_law_is_fast" "_law_is_fast" (defArgs s__law_is_fast) (defBody s__law_is_fast) (defScope s__law_is_fast) [] [] (He.ga K "_law_is_fast") fd := F0
  refine ⟨fd, F, okP F sc__law_is_fast (k := 42) (m := m__law_is_fast) (fun cdv A outer s H E hr hg tk hp => ?_) pl__law_is_fast pure__law_is_fast⟩
  have f_max : mg "max" = none := T.fr 45 rfl
  have f_len : mg "len" = none := T.fr 40 rfl
  have f_zip : mg "zip" = none := T.fr 49 rfl
  have c__law_are_whole := (cal__law_are_whole T).at_ hr hg (by decide)
  have c__law_sums := (cal__law_sums T).at_ hr hg (by decide)
  have hu : (A.deeper (envOfC "_law_is_fast" (defScope s__law_is_fast) s.heap.objs.size (He.ga K "_law_is_fast") cdv)).units + 64 < cLine := hr.units
  exact (qss_cons (qs_if (QW.qt (qw_or (qt_not (qt_val (qe_callP (dds := []) (fun _ => .nil) c__law_are_whole tk (qa_cons (qe_var 2) (qa_cons qe_int qa_nil))))) (qw_or (qt_ne (qe_len f_len (qa_cons (qe_var 2) qa_nil)) (qe_subI (qe_len f_len (qa_cons (qe_var 0) qa_nil)) qe_int)) (qw_or1 (qt_eq (qe_maxL rfl f_max (qa_cons (qe_cat isF (qe_var 2) (qe_lst (qa_cons qe_int qa_nil))) qa_nil)) qe_int)))))
    (qss_one (qs_ret qe_bl))
    qss_nil)
    (qss_one (qs_ret (qe_eqD hu (qe_lc isF rfl sc__law_is_fast.nd (qi_zip f_zip (qa_cons (qe_var 2) (qa_cons (qe_callP (dds := []) (fun _ => .nil) c__law_sums tk (qa_cons (qe_var 0) (qa_cons (qe_var 2) qa_nil))) qa_nil))) (blkOk_by (own := [("_law_one", 3), ("_law_total", 4)]) (N := N__law_is_fast) (sc := defScope s__law_is_fast) (by decide +kernel)) (tok_tup (is := [3, 4]) (vs := [3, 4]) (by decide)) (gTup_ok [3, 4] rfl) (fun _ _ _ _ _ => (qg_tup (is := [3, 4]) rfl (qgs_cons (qg_name 3 sc__law_is_fast.nd) (qgs_cons (qg_name 4 sc__law_is_fast.nd) pgs_names0)))) (fun _ _ _ _ _ => (qts_one (qt_lt (qe_mul (qe_ix (qe_var 1) qe_int) (qe_var 4)) (qe_mul (qe_ix (qe_var 1) qe_int) (qe_var 3))))) (fun _ _ _ _ _ => qe_int)) (qe_lst qa_nil)))))
theorem cal__law_is_fast {P : Program} {w : World} {K : PySem.W.Frag} {mg : Str → Option Value} {base : Heap} (T : Tx P w K mg base) : CalF P w K mg base 43 "_law_is_fast" [] (LiftP K (sp__law_is_fast)) := by
  obtain ⟨fd, F, G⟩ := fn__law_is_fast T
  exact calF_of G (T.gl 26 rfl) F.kp ⟨[], .nil, F.bindsN fun _ _ _ _ _ _ us hl => match us, hl with | [_, _, _], _ => rfl⟩

abbrev N__law_is_slow : List Str := ["_law_moves_here", "_law_rate", "_law_value", "_law_one", "_law_total"]
theorem sc__law_is_slow : FnScope N__law_is_slow ["_law_moves_here", "_law_rate", "_law_value"] (defScope s__law_is_slow) := ⟨rfl, rfl, rfl, by decide +kernel, rfl, by decide +kernel, by decide +kernel⟩
theorem fn__law_is_slow {P : Program} {w : World} {K : PySem.W.Frag} {mg : Str → Option Value} {base : Heap} (T : Tx P w K mg base) : ∃ fd, FunD K "_law_is_slow" "_law_is_slow" (defArgs s__law_is_slow) (defBody s__law_is_slow) (defScope s__law_is_slow) [] [] (He.ga K "_law_is_slow") fd ∧ FnG P w K mg base 43 (He.ga K "_law_is_slow") fd ["_law_moves_here", "_law_rate", "_law_value"] (LiftP K (sp__law_is_slow)) := by
  obtain ⟨fd, F0⟩ := T.sd.def_ 27 (d := d__law_is_slow) rfl
  have F : FunD K "_law_is_slow" "_law_is_slow" (defArgs s__law_is_slow) (defBody s__law_is_slow) (defScope s__law_is_slow) [] [] (He.ga K "_law_is_slow") fd := F0
  refine ⟨fd, F, okP F sc__law_is_slow (k := 42) (m := m__law_is_slow) (fun cdv A outer s H E hr hg tk hp => ?_) pl__law_is_slow pure__law_is_slow⟩
  have f_len : mg "len" = none := T.fr 40 rfl
  have f_zip : mg "zip" = none := T.fr 49 rfl
  have c__law_are_whole := (cal__law_are_whole T).at_ hr hg (by decide)
  have c__law_sums := (cal__law_sums T).at_ hr hg (by decide)
  have hu : (A.deeper (envOfC "_law_is_slow" (defScope s__law_is_slow) s.heap.objs.size (He.ga K "_law_is_slow") cdv)).units + 64 < cLine := hr.units
  exact (qss_cons (qs_if (QW.qt (qw_or (qt_not (qt_val (qe_callP (dds := []) (fun _ => .nil) c__law_are_whole tk (qa_cons (qe_var 2) (qa_cons qe_int qa_nil))))) (qw_or1 (qt_ne (qe_len f_len (qa_cons (qe_var 2) qa_nil)) (qe_subI (qe_len f_len (qa_cons (qe_var 0) qa_nil)) qe_int)))))
    (qss_one (qs_ret qe_bl))
    qss_nil)
    (qss_one (qs_ret (qe_eqD hu (qe_lc isF rfl sc__law_is_slow.nd (qi_zip f_zip (qa_cons (qe_var 2) (qa_cons (qe_callP (dds := []) (fun _ => .nil) c__law_sums tk (qa_cons (qe_var 0) (qa_cons (qe_var 2) qa_nil))) qa_nil))) (blkOk_by (own := [("_law_one", 3), ("_law_total", 4)]) (N := N__law_is_slow) (sc := defScope s__law_is_slow) (by decide +kernel)) (tok_tup (is := [3, 4]) (vs := [3, 4]) (by decide)) (gTup_ok [3, 4] rfl) (fun _ _ _ _ _ => (qg_tup (is := [3, 4]) rfl (qgs_cons (qg_name 3 sc__law_is_slow.nd) (qgs_cons (qg_name 4 sc__law_is_slow.nd) pgs_names0)))) (fun _ _ _ _ _ => (qts_one (qt_ge (qe_mul (qe_ix (qe_var 1) qe_int) (qe_var 4)) (qe_mul (qe_ix (qe_var 1) qe_int) (qe_var 3))))) (fun _ _ _ _ _ => qe_int)) (qe_lst qa_nil)))))
theorem cal__law_is_slow {P : Program} {w : World} {K : PySem.W.Frag} {mg : Str → Option Value} {base : Heap} (T : Tx P w K mg base) : CalF P w K mg base 43 "_law_is_slow" [] (LiftP K (sp__law_is_slow)) := by
  obtain ⟨fd, F, G⟩ := fn__law_is_slow T
  exact calF_of G (T.gl 27 rfl) F.kp ⟨[], .nil, F.bindsN fun _ _ _ _ _ _ us hl => match us, hl with | [_, _, _], _ => rfl⟩

abbrev N__law_copy : List Str := ["_law_value", "_law_part"]
theorem sc__law_copy : FnScope N__law_copy ["_law_value"] (defScope s__law_copy) := ⟨rfl, rfl, rfl, by decide +kernel, rfl, by decide +kernel, by decide +kernel⟩
theorem fn__law_copy {P : Program} {w : World} {K : PySem.W.Frag} {mg : Str → Option Value} {base : Heap} (T : Tx P w K mg base) : ∃ fd, FunD K "_law_copy" "_law_copy" (defArgs s__law_copy) (defBody s__law_copy) (defScope s__law_copy) [] [] (He.ga K "_law_copy") fd ∧ FnG P w K mg base 42 (He.ga K "_law_copy") fd ["_law_value"] (LiftP K (sp__law_copy)) := by
  obtain ⟨fd, F0⟩ := T.sd.def_ 28 (d := d__law_copy) rfl
  have F : FunD K "_law_copy" "_law_copy" (defArgs s__law_copy) (defBody s__law_copy) (defScope s__law_copy) [] [] (He.ga K "_law_copy") fd := F0
  refine ⟨fd, F, okP F sc__law_copy (k := 41) (m := m__law_copy) (fun cdv A outer s H E hr hg tk hp => ?_) pl__law_copy pure__law_copy⟩
  have f_isinstance : mg "isinstance" = none := T.fr 43 rfl
  have f_list : mg "list" = none := T.fr 44 rfl
  have hu : (A.deeper (envOfC "_law_copy" (defScope s__law_copy) s.heap.objs.size (He.ga K "_law_copy") cdv)).units + 64 < cLine := hr.units
  exact (qss_cons (qs_if (qt_not (qt_val (qe_is kit_list (by decide +kernel) f_isinstance f_list (qe_var 0))))
    (qss_one (qs_ret (qe_var 0)))
    qss_nil)
    (qss_one (qs_ret (qe_lc isF rfl sc__law_copy.nd (qi_list (qe_var 0)) (blkOk_by (own := [("_law_part", 1)]) (N := N__law_copy) (sc := defScope s__law_copy) (by decide +kernel)) (tok_name (i := 1) (vs := [1]) (by decide)) (gName_ok 1) (fun _ _ _ _ _ => (qg_name 1 sc__law_copy.nd)) (fun _ _ _ _ _ => qts_nil) (fun _ _ _ _ _ => (qe_ifExp (qt_val (qe_is kit_list (by decide +kernel) f_isinstance f_list (qe_var 1))) (qe_listC isF f_list (qa_cons (qe_var 1) qa_nil)) (qe_var 1)))))))
theorem cal__law_copy {P : Program} {w : World} {K : PySem.W.Frag} {mg : Str → Option Value} {base : Heap} (T : Tx P w K mg base) : CalF P w K mg base 42 "_law_copy" [] (LiftP K (sp__law_copy)) := by
  obtain ⟨fd, F, G⟩ := fn__law_copy T
  exact calF_of G (T.gl 28 rfl) F.kp ⟨[], .nil, F.bindsN fun _ _ _ _ _ _ us hl => match us, hl with | [_], _ => rfl⟩

abbrev N__law_same : List Str := ["_law_moves_here", "_law_rate", "_law_values", "_law_kept", "_law_value", "_law_told"]
theorem sc__law_same : FnScope N__law_same ["_law_moves_here", "_law_rate", "_law_values"] (defScope s__law_same) := ⟨rfl, rfl, rfl, by decide +kernel, rfl, by decide +kernel, by decide +kernel⟩
theorem fn__law_same {P : Program} {w : World} {K : PySem.W.Frag} {mg : Str → Option Value} {base : Heap} (T : Tx P w K mg base) : ∃ fd, FunD K "_law_same" "_law_same" (defArgs s__law_same) (defBody s__law_same) (defScope s__law_same) [] [] (He.ga K "_law_same") fd ∧ FnG P w K mg base 47 (He.ga K "_law_same") fd ["_law_moves_here", "_law_rate", "_law_values"] (LiftP K (sp__law_same (adr K))) := by
  obtain ⟨fd, F0⟩ := T.sd.def_ 29 (d := d__law_same) rfl
  have F : FunD K "_law_same" "_law_same" (defArgs s__law_same) (defBody s__law_same) (defScope s__law_same) [] [] (He.ga K "_law_same") fd := F0
  refine ⟨fd, F, okP F sc__law_same (k := 46) (m := m__law_same (adr K)) (fun cdv A outer s H E hr hg tk hp => ?_) pl__law_same pure__law_same⟩
  have f_repr : mg "repr" = none := T.fr 53 rfl
  have c__law_copy := (cal__law_copy T).at_ hr hg (by decide)
  have c_is_slow_paper := (cal_is_slow_paper T).at_ hr hg (by decide)
  have c_is_fast_paper := (cal_is_fast_paper T).at_ hr hg (by decide)
  have c__law_is_slow := (cal__law_is_slow T).at_ hr hg (by decide)
  have c__law_is_fast := (cal__law_is_fast T).at_ hr hg (by decide)
  have hu : (A.deeper (envOfC "_law_same" (defScope s__law_same) s.heap.objs.size (He.ga K "_law_same") cdv)).units + 64 < cLine := hr.units
  exact (qss_cons (qs_set 3 sc__law_same.nd (qe_lst (qa_cons (qe_callP (dds := []) (fun _ => .nil) c__law_copy tk (qa_cons (qe_var 0) qa_nil)) (qa_cons (qe_var 1) (qa_cons (qe_lc isF rfl sc__law_same.nd (qi_list (qe_var 2)) (blkOk_by (own := [("_law_value", 4)]) (N := N__law_same) (sc := defScope s__law_same) (by decide +kernel)) (tok_name (i := 4) (vs := [4]) (by decide)) (gName_ok 4) (fun _ _ _ _ _ => (qg_name 4 sc__law_same.nd)) (fun _ _ _ _ _ => qts_nil) (fun _ _ _ _ _ => (qe_callP (dds := []) (fun _ => .nil) c__law_copy takes0 (qa_cons (qe_var 4) qa_nil)))) qa_nil)))))
    (qss_cons (qs_for hp rfl (qi_list (qe_var 2)) (qg_name 4 sc__law_same.nd)
    (qss_cons (qs_set 5 sc__law_same.nd (qe_lst (qa_cons (qe_callP (dds := []) (fun _ => .nil) c_is_fast_paper tk (qa_cons (qe_var 0) (qa_cons (qe_var 1) (qa_cons (qe_var 4) qa_nil)))) (qa_cons (qe_callP (dds := []) (fun _ => .nil) c_is_slow_paper tk (qa_cons (qe_var 0) (qa_cons (qe_var 1) (qa_cons (qe_var 4) qa_nil)))) qa_nil))))
    (qss_cons (qs_if (qt_neS (qe_repr hu hg f_repr (qa_cons (qe_var 5) qa_nil)) (qe_repr hu hg f_repr (qa_cons (qe_lst (qa_cons (qe_callP (dds := []) (fun _ => .nil) c__law_is_fast tk (qa_cons (qe_var 0) (qa_cons (qe_var 1) (qa_cons (qe_var 4) qa_nil)))) (qa_cons (qe_callP (dds := []) (fun _ => .nil) c__law_is_slow tk (qa_cons (qe_var 0) (qa_cons (qe_var 1) (qa_cons (qe_var 4) qa_nil)))) qa_nil))) qa_nil)))
    (qss_one (qs_ret qe_bl))
    qss_nil)
    (qss_wipe [4, 5] qss_nil))))
    (qss_one (qs_ret (qe_eqT hu (qe_lst (qa_cons (qe_var 0) (qa_cons (qe_var 1) (qa_cons (qe_var 2) qa_nil)))) (qe_var 3))))))
theorem cal__law_same {P : Program} {w : World} {K : PySem.W.Frag} {mg : Str → Option Value} {base : Heap} (T : Tx P w K mg base) : CalF P w K mg base 47 "_law_same" [] (LiftP K (sp__law_same (adr K))) := by
  obtain ⟨fd, F, G⟩ := fn__law_same T
  exact calF_of G (T.gl 29 rfl) F.kp ⟨[], .nil, F.bindsN fun _ _ _ _ _ _ us hl => match us, hl with | [_, _, _], _ => rfl⟩

abbrev N__law_odd : List Str := ["_law_well_here", "_law_size", "_law_some", "_law_found", "_law_turn", "_law_one"]
theorem sc__law_odd : FnScope N__law_odd ["_law_well_here", "_law_size"] (defScope s__law_odd) := ⟨rfl, rfl, rfl, by decide +kernel, rfl, by decide +kernel, by decide +kernel⟩
theorem fn__law_odd {P : Program} {w : World} {K : PySem.W.Frag} {mg : Str → Option Value} {base : Heap} (T : Tx P w K mg base) : ∃ fd, FunD K "_law_odd" "_law_odd" (defArgs s__law_odd) (defBody s__law_odd) (defScope s__law_odd) [] [] (He.ga K "_law_odd") fd ∧ FnG P w K mg base 43 (He.ga K "_law_odd") fd ["_law_well_here", "_law_size"] (LiftCL K (sp__law_odd)) := by
  obtain ⟨fd, F0⟩ := T.sd.def_ 30 (d := d__law_odd) rfl
  have F : FunD K "_law_odd" "_law_odd" (defArgs s__law_odd) (defBody s__law_odd) (defScope s__law_odd) [] [] (He.ga K "_law_odd") fd := F0
  refine ⟨fd, F, okCL F sc__law_odd (k := 42) (m := m__law_odd) (fun cdv A outer s H E hr hg tk hp => ?_) pl__law_odd pure__law_odd⟩
  have f_range : mg "range" = none := T.fr 47 rfl
  have f_tuple : mg "tuple" = none := T.fr 54 rfl
  have c__law_pick := (cal__law_pick T).at_ hr hg (by decide)
  have hu : (A.deeper (envOfC "_law_odd" (defScope s__law_odd) s.heap.objs.size (He.ga K "_law_odd") cdv)).units + 64 < cLine := hr.units
  exact (qss_cons (qs_setLc 2 isF rfl sc__law_odd.nd (qi_range1 f_range (qa_cons (qe_var 1) qa_nil)) (blkOk_by (own := [("_law_turn", 4)]) (N := N__law_odd) (sc := defScope s__law_odd) (by decide +kernel)) (tok_name (i := 4) (vs := [4]) (by decide)) (gName_ok 4) (fun _ _ _ _ _ => (qg_name 4 sc__law_odd.nd)) (fun _ _ _ _ _ => qts_nil) (fun _ _ _ _ _ => (qe_add qe_int (qe_callC c__law_pick takes0 (qa_cons (qe_var 0) (qa_cons qe_int qa_nil))))) (sw_true rfl rfl rfl (by decide +kernel)))
    (qss_cons (qs_set 3 sc__law_odd.nd (qe_lst (qa_cons qe_non (qa_cons qe_bl (qa_cons qe_int (qa_cons qe_str (qa_cons qe_str (qa_cons (qe_tup qa_nil) (qa_cons (qe_tupC f_tuple (qa_cons (qe_var 2) qa_nil)) (qa_cons qe_dict0 (qa_cons (qe_cat isF (qe_var 2) (qe_lst (qa_cons qe_int qa_nil))) (qa_cons (qe_slice isF (qe_var 2) qo_none (qo_some (qe_neg qe_int))) (qa_cons (qe_rep isF (qe_lst (qa_cons qe_bl qa_nil)) (qe_var 1)) (qa_cons (qe_rep isF (qe_lst (qa_cons qe_non qa_nil)) (qe_var 1)) qa_nil))))))))))))))
    (qss_one (qs_ret (qe_cat isO (qe_var 3) (qe_lst (qa_cons (qe_rep isF (qe_lst (qa_cons qe_str qa_nil)) (qe_var 1)) (qa_cons (qe_rep isF (qe_lst (qa_cons (qe_var 2) qa_nil)) (qe_var 1)) (qa_cons (qe_rep isF (qe_lst (qa_cons qe_int qa_nil)) (qe_var 1)) (qa_cons (qe_rep isF (qe_lst (qa_cons (qe_neg qe_int) qa_nil)) (qe_var 1)) (qa_cons (qe_lc isF rfl sc__law_odd.nd (qi_list (qe_var 2)) (blkOk_by (own := [("_law_one", 5)]) (N := N__law_odd) (sc := defScope s__law_odd) (by decide +kernel)) (tok_name (i := 5) (vs := [5]) (by decide)) (gName_ok 5) (fun _ _ _ _ _ => (qg_name 5 sc__law_odd.nd)) (fun _ _ _ _ _ => qts_nil) (fun _ _ _ _ _ => (qe_subI qe_int (qe_var 5)))) qa_nil)))))))))))
theorem cal__law_odd {P : Program} {w : World} {K : PySem.W.Frag} {mg : Str → Option Value} {base : Heap} (T : Tx P w K mg base) : CalF P w K mg base 43 "_law_odd" [] (LiftCL K (sp__law_odd)) := by
  obtain ⟨fd, F, G⟩ := fn__law_odd T
  exact calF_of G (T.gl 30 rfl) F.kp ⟨[], .nil, F.bindsN fun _ _ _ _ _ _ us hl => match us, hl with | [_, _], _ => rfl⟩

abbrev N__law_changed : List Str := ["_law_well_here", "_law_value", "_law_found", "_law_turn", "_law_at", "_law_more"]
theorem sc__law_changed : FnScope N__law_changed ["_law_well_here", "_law_value"] (defScope s__law_changed) := ⟨rfl, rfl, rfl, by decide +kernel, rfl, by decide +kernel, by decide +kernel⟩
theorem fn__law_changed {P : Program} {w : World} {K : PySem.W.Frag} {mg : Str → Option Value} {base : Heap} (T : Tx P w K mg base) : ∃ fd, FunD K "_law_changed" "_law_changed" (defArgs s__law_changed) (defBody s__law_changed) (defScope s__law_changed) [] [] (He.ga K "_law_changed") fd ∧ FnG P w K mg base 43 (He.ga K "_law_changed") fd ["_law_well_here", "_law_value"] (LiftC K (sp__law_changed)) := by
  obtain ⟨fd, F0⟩ := T.sd.def_ 31 (d := d__law_changed) rfl
  have F : FunD K "_law_changed" "_law_changed" (defArgs s__law_changed) (defBody s__law_changed) (defScope s__law_changed) [] [] (He.ga K "_law_changed") fd := F0
  refine ⟨fd, F, okC F sc__law_changed (k := 42) (m := m__law_changed) (fun cdv A outer s H E hr hg tk hp => ?_) pl__law_changed pure__law_changed⟩
  have f_list : mg "list" = none := T.fr 44 rfl
  have f_range : mg "range" = none := T.fr 47 rfl
  have f_len : mg "len" = none := T.fr 40 rfl
  have c__law_pick := (cal__law_pick T).at_ hr hg (by decide)
  have hu : (A.deeper (envOfC "_law_changed" (defScope s__law_changed) s.heap.objs.size (He.ga K "_law_changed") cdv)).units + 64 < cLine := hr.units
  exact (qss_cons (qs_set 2 sc__law_changed.nd (qe_lstO (qa_cons (qe_listC isF f_list (qa_cons (qe_var 1) qa_nil)) qa_nil)))
    (qss_cons (qs_for hp rfl (qi_range1 f_range (qa_cons qe_int qa_nil)) (qg_name 3 sc__law_changed.nd)
    (qss_cons (qs_if (qt_neD hu (qe_var 1) (qe_lst qa_nil))
    (qss_cons (qs_set 4 sc__law_changed.nd (qe_callC c__law_pick tk (qa_cons (qe_var 0) (qa_cons (qe_len f_len (qa_cons (qe_var 1) qa_nil)) qa_nil))))
    (qss_cons (qs_set 5 sc__law_changed.nd (qe_ix (qe_lst (qa_cons qe_int (qa_cons (qe_neg qe_int) (qa_cons (qe_subI qe_int (qe_ix (qe_var 1) (qe_var 4))) (qa_cons (qe_callC c__law_pick tk (qa_cons (qe_var 0) (qa_cons qe_int qa_nil))) (qa_cons (qe_pow qe_int qe_int) qa_nil)))))) (qe_callC c__law_pick tk (qa_cons (qe_var 0) (qa_cons qe_int qa_nil)))))
    (qss_one (qs_expr (qe_append (qe_var 2) (qa_cons (qe_cat isF (qe_cat isF (qe_slice isF (qe_var 1) qo_none (qo_some (qe_var 4))) (qe_lst (qa_cons (qe_add (qe_ix (qe_var 1) (qe_var 4)) (qe_var 5)) qa_nil))) (qe_slice isF (qe_var 1) (qo_some (qe_add (qe_var 4) qe_int)) qo_none)) qa_nil))))))
    qss_nil)
    (qss_wipe [3, 4, 5] qss_nil)))
    (qss_frz 2 (qss_one (qs_ret (qe_var 2))))))
theorem cal__law_changed {P : Program} {w : World} {K : PySem.W.Frag} {mg : Str → Option Value} {base : Heap} (T : Tx P w K mg base) : CalF P w K mg base 43 "_law_changed" [] (LiftC K (sp__law_changed)) := by
  obtain ⟨fd, F, G⟩ := fn__law_changed T
  exact calF_of G (T.gl 31 rfl) F.kp ⟨[], .nil, F.bindsN fun _ _ _ _ _ _ us hl => match us, hl with | [_, _], _ => rfl⟩

abbrev N__law_right : List Str := ["_law_well_here", "_law_size", "_law_moves_here", "_law_rate", "_law_values", "_law_turn", "_law_told", "_law_stretch"]
theorem sc__law_right : FnScope N__law_right ["_law_well_here", "_law_size"] (defScope s__law_right) := ⟨rfl, rfl, rfl, by decide +kernel, rfl, by decide +kernel, by decide +kernel⟩
theorem fn__law_right {P : Program} {w : World} {K : PySem.W.Frag} {mg : Str → Option Value} {base : Heap} (T : Tx P w K mg base) : ∃ fd, FunD K "_law_right" "_law_right" (defArgs s__law_right) (defBody s__law_right) (defScope s__law_right) [] [] (He.ga K "_law_right") fd ∧ FnG P w K mg base 48 (He.ga K "_law_right") fd ["_law_well_here", "_law_size"] (LiftC K (sp__law_right (adr K))) := by
  obtain ⟨fd, F0⟩ := T.sd.def_ 32 (d := d__law_right) rfl
  have F : FunD K "_law_right" "_law_right" (defArgs s__law_right) (defBody s__law_right) (defScope s__law_right) [] [] (He.ga K "_law_right") fd := F0
  refine ⟨fd, F, okC F sc__law_right (k := 47) (m := m__law_right (adr K)) (fun cdv A outer s H E hr hg tk hp => ?_) pl__law_right pure__law_right⟩
  have f_range : mg "range" = none := T.fr 47 rfl
  have c__law_moves := (cal__law_moves T).at_ hr hg (by decide)
  have c__law_pick := (cal__law_pick T).at_ hr hg (by decide)
  have c__law_odd := (cal__law_odd T).at_ hr hg (by decide)
  have c__law_same := (cal__law_same T).at_ hr hg (by decide)
  have c_slow_paper := (cal_slow_paper T).at_ hr hg (by decide)
  have c_fast_paper := (cal_fast_paper T).at_ hr hg (by decide)
  have c__law_changed := (cal__law_changed T).at_ hr hg (by decide)
  have hu : (A.deeper (envOfC "_law_right" (defScope s__law_right) s.heap.objs.size (He.ga K "_law_right") cdv)).units + 64 < cLine := hr.units
  exact (qss_cons (qs_set 2 sc__law_right.nd (qe_callC c__law_moves tk (qa_cons (qe_var 0) (qa_cons (qe_var 1) qa_nil))))
    (qss_cons (qs_set 3 sc__law_right.nd (qe_tup (qa_cons (qe_add qe_int (qe_callC c__law_pick tk (qa_cons (qe_var 0) (qa_cons (qe_mul qe_int (qe_var 1)) qa_nil)))) (qa_cons (qe_add qe_int (qe_callC c__law_pick tk (qa_cons (qe_var 0) (qa_cons qe_int qa_nil)))) qa_nil))))
    (qss_cons (qs_set 4 sc__law_right.nd (qe_callCL isO c__law_odd tk (qa_cons (qe_var 0) (qa_cons (qe_subI (qe_var 1) qe_int) qa_nil))))
    (qss_cons (qs_for hp rfl (qi_range1 f_range (qa_cons qe_int qa_nil)) (qg_name 5 sc__law_right.nd)
    (qss_cons (qs_expr (qe_append (qe_var 4) (qa_cons (qe_lc isF rfl sc__law_right.nd (qi_range1 f_range (qa_cons (qe_subI (qe_var 1) qe_int) qa_nil)) (blkOk_by (own := [("_law_stretch", 7)]) (N := N__law_right) (sc := defScope s__law_right) (by decide +kernel)) (tok_name (i := 7) (vs := [7]) (by decide)) (gName_ok 7) (fun _ _ _ _ _ => (qg_name 7 sc__law_right.nd)) (fun _ _ _ _ _ => qts_nil) (fun _ _ _ _ _ => (qe_callC c__law_pick takes0 (qa_cons (qe_var 0) (qa_cons qe_int qa_nil))))) qa_nil)))
    (qss_wipe [5] qss_nil)))
    (qss_frz 4 (qss_cons (qs_if (qt_not (qt_val (qe_callP (dds := []) (fun _ => .nil) c__law_same tk (qa_cons (qe_var 2) (qa_cons (qe_var 3) (qa_cons (qe_var 4) qa_nil))))))
    (qss_one (qs_ret qe_bl))
    qss_nil)
    (qss_cons (qs_for hp rfl (qi_list (qe_lst (qa_cons (qe_callP (dds := []) (fun _ => .nil) c_fast_paper tk (qa_cons (qe_var 2) (qa_cons (qe_var 3) qa_nil))) (qa_cons (qe_callP (dds := []) (fun _ => .nil) c_slow_paper tk (qa_cons (qe_var 2) (qa_cons (qe_var 3) qa_nil))) qa_nil)))) (qg_name 6 sc__law_right.nd)
    (qss_cons (qs_if (QW.qt (qw_and (qt_notN (qe_var 6) qe_non) (qw_and1 (qt_not (qt_val (qe_callP (dds := []) (fun _ => .nil) c__law_same tk (qa_cons (qe_var 2) (qa_cons (qe_var 3) (qa_cons (qe_callC c__law_changed tk (qa_cons (qe_var 0) (qa_cons (qe_var 6) qa_nil))) qa_nil)))))))))
    (qss_one (qs_ret qe_bl))
    qss_nil)
    (qss_wipe [6] qss_nil)))
    (qss_one (qs_ret qe_bl)))))))))
theorem cal__law_right {P : Program} {w : World} {K : PySem.W.Frag} {mg : Str → Option Value} {base : Heap} (T : Tx P w K mg base) : CalF P w K mg base 48 "_law_right" [] (LiftC K (sp__law_right (adr K))) := by
  obtain ⟨fd, F, G⟩ := fn__law_right T
  exact calF_of G (T.gl 32 rfl) F.kp ⟨[], .nil, F.bindsN fun _ _ _ _ _ _ us hl => match us, hl with | [_, _], _ => rfl⟩

abbrev N_law : List Str := ["_law_script", "_law_k", "_law_well_here", "_law_size", "_law_three", "_law_told"]
theorem sc_law : FnScope N_law ["_law_script"] (defScope s_law) := ⟨rfl, rfl, rfl, by decide +kernel, rfl, by decide +kernel, by decide +kernel⟩
theorem okf_law {P : Program} {w : World} {K : PySem.W.Frag} {mg : Str → Option Value} {base : Heap} (T : Tx P w K mg base) {fd : FuncData} (F : FunD K "law" "law" (defArgs s_law) (defBody s_law) (defScope s_law) [] [] (He.ga K "law") fd) : FnG P w K mg base 49 (He.ga K "law") fd ["_law_script"] (LiftE K 63) := by
  refine okE F sc_law (k := 48) (m := m_law (adr K)) rfl (fun cdv A outer s H E hr hg tk hp => ?_) pure_law
  have f_range : mg "range" = none := T.fr 47 rfl
  have f_max : mg "max" = none := T.fr 45 rfl
  have f_min : mg "min" = none := T.fr 46 rfl
  have f_len : mg "len" = none := T.fr 40 rfl
  have c__law_well := (cal__law_well T).at_ hr hg (by decide)
  have c__law_pick := (cal__law_pick T).at_ hr hg (by decide)
  have c__law_right := (cal__law_right T).at_ hr hg (by decide)
  have c_is_slow_paper := (cal_is_slow_paper T).at_ hr hg (by decide)
  have c_is_fast_paper := (cal_is_fast_paper T).at_ hr hg (by decide)
  have hu : (A.deeper (envOfC "law" (defScope s_law) s.heap.objs.size (He.ga K "law") cdv)).units + 64 < cLine := hr.units
  exact (qss_cons (qs_for hp rfl (qi_range1 f_range (qa_cons (qe_max2 rfl f_max (qa_cons qe_int (qa_cons (qe_min2 rfl f_min (qa_cons qe_int (qa_cons (qe_len f_len (qa_cons (qe_var 0) qa_nil)) qa_nil))) qa_nil))) qa_nil)) (qg_name 1 sc_law.nd)
    (qss_cons (qs_set 2 sc_law.nd (qe_callSL isO c__law_well tk (qa_cons (qe_var 0) (qa_cons (qe_var 1) qa_nil))))
    (qss_cons (qs_for hp rfl (qi_list (qe_lst (qa_cons qe_int (qa_cons qe_int (qa_cons qe_int (qa_cons qe_int (qa_cons qe_int (qa_cons (qe_add qe_int (qe_callC c__law_pick tk (qa_cons (qe_var 2) (qa_cons qe_int qa_nil)))) (qa_cons qe_int qa_nil))))))))) (qg_name 3 sc_law.nd)
    (qss_cons (qs_if (QW.qt (qw_or (qt_not (qt_val (qe_callC c__law_right tk (qa_cons (qe_var 2) (qa_cons (qe_var 3) qa_nil))))) (qw_or1 (qt_not (qt_val (qe_callC c__law_right tk (qa_cons (qe_var 2) (qa_cons (qe_var 3) qa_nil))))))))
    (qss_one (qs_ret qe_bl))
    qss_nil)
    (qss_wipe [3] qss_nil)))
    (qss_wipe [1, 2, 3] qss_nil))))
    (qss_cons (qs_set 4 sc_law.nd (qe_lst (qa_cons qe_int (qa_cons qe_int (qa_cons qe_int qa_nil)))))
    (qss_cons (qs_set 5 sc_law.nd (qe_lst (qa_cons (qe_callP (dds := []) (fun _ => .nil) c_is_fast_paper tk (qa_cons (qe_var 4) (qa_cons (qe_tup (qa_cons qe_int (qa_cons qe_int qa_nil))) (qa_cons (qe_lst (qa_cons qe_int (qa_cons qe_int qa_nil))) qa_nil)))) (qa_cons (qe_callP (dds := []) (fun _ => .nil) c_is_slow_paper tk (qa_cons (qe_var 4) (qa_cons (qe_tup (qa_cons qe_int (qa_cons qe_int qa_nil))) (qa_cons (qe_lst (qa_cons qe_int (qa_cons qe_int qa_nil))) qa_nil)))) qa_nil))))
    (qss_cons (qs_set 5 sc_law.nd (qe_cat isF (qe_var 5) (qe_lst (qa_cons (qe_callP (dds := []) (fun _ => .nil) c_is_fast_paper tk (qa_cons (qe_var 4) (qa_cons (qe_tup (qa_cons qe_int (qa_cons qe_int qa_nil))) (qa_cons (qe_lst (qa_cons qe_int (qa_cons qe_int qa_nil))) qa_nil)))) (qa_cons (qe_callP (dds := []) (fun _ => .nil) c_is_slow_paper tk (qa_cons (qe_lst (qa_cons qe_int qa_nil)) (qa_cons (qe_tup (qa_cons qe_int (qa_cons qe_int qa_nil))) (qa_cons (qe_lst qa_nil) qa_nil)))) (qa_cons (qe_callP (dds := []) (fun _ => .nil) c_is_fast_paper tk (qa_cons (qe_lst (qa_cons qe_int qa_nil)) (qa_cons (qe_tup (qa_cons qe_int (qa_cons qe_int qa_nil))) (qa_cons (qe_lst qa_nil) qa_nil)))) qa_nil))))))
    (qss_one (qs_ret (qe_eqD hu (qe_var 5) (qe_lst (qa_cons qe_bl (qa_cons qe_bl (qa_cons qe_bl (qa_cons qe_bl (qa_cons qe_bl qa_nil)))))))))))))


end Lw
open PySem PySem.W PySem.Calls PyProof.Rows
theorem PySem.Challenge.cw_sureturns_k41_papers_of_rates_judged_holds : PySem.Challenge.rw_sureturns_k41_papers_of_rates_judged.Holds := by
  w_on; o_law
  refine HandSHeadRun.head_any (r := OpenLaw.row PySem.Challenge.rw_sureturns_k41_papers_of_rates_judged) (q := view (OpenLaw.row PySem.Challenge.rw_sureturns_k41_papers_of_rates_judged).prog [42]) (H := Lw.hk) (ob := Lw.ob) (M := 6000) (loose := Lw.looseL) (d := HandSHeadRun.topDef (OpenLaw.row PySem.Challenge.rw_sureturns_k41_papers_of_rates_judged).prog 42) (kwd := []) Lw.ob_eq
    (by kernel_rfl) (fun s => by kernel_rfl) Lw.run (by kernel_rfl) (by kernel_rfl) (by kernel_rfl) (by rfl) (by first | assumption | decide +kernel) (by decide +kernel) ⟨rfl, rfl, rfl, rfl, rfl, by decide +kernel⟩ ?hw ?hc
  case hw => w_witness2
  case hc =>
    refine Fd.walk_ofG (l := PySem.Challenge.rw_sureturns_k41_papers_of_rates_judged) (n := 63) (k := 49) (x := "_law_script") rfl (by decide) (by kernel_rfl) ⟨rfl, by decide, by decide⟩ (by decide +kernel) ?F
    intro w mg fa h Y G hmg0
    obtain ⟨K, inK, c⟩ := Y
    have hmg : mg ("law" : PySem.Str) = some (.ref fa) := by
      have e : (HandSHeadRun.topDef (OpenLaw.row PySem.Challenge.rw_sureturns_k41_papers_of_rates_judged).prog 42).name = ("law" : PySem.Str) := by kernel_rfl
      rw [← e]
      exact hmg0
    obtain ⟨fd, F⟩ := c.def_ 33 (d := Lw.d_law) rfl
    have e := hmg.symm.trans (He.glo_ok inK G (c.fact 33 (f := .glo "law") rfl))
    cases e
    have b := L2.FunD.bindsA (ps := ["_law_script"]) F fun _ _ _ _ _ _ us hl => match us, hl with | [_], _ => rfl
    exact ⟨K, fd, inK, fun s v => b s [v] rfl, fun base kin ns seer => Lw.okf_law ⟨c, kin, ns, seer, rfl⟩ F⟩
