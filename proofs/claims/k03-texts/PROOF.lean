import PyProof.Rows.All
import Wide.All
import OpenK.AllK
import Wide.FinOn
import HandS.ForMost
import HandS.Wide
import HandS.TupAny
import HandS.TupMul
import HandS.Deep
import HandS.Walk
import HandS.Zip
import HandS.Lambda
import KE.GoesNew
import HandS.EndTab
import KE.KNest
import HandS.Style
import HandS.IsInst
import HandS.Iter
import HandS.Conv
import KE.KTupSum
import HandS.More
import HandS.SortInts
import HandS.SetFor
import HandS.Strs
import HandS.Exc
import HandS.ExcField
import HandS.TryMany
import KE.KExcSuper
import PyProof.AutoSeq1
import KE.GoesZip
import KE.GoesMore
import HandS.SortRule
import HandS.NamedTupSort
import KE.KDictPairs
import KE.DatumOrd
import KE.SortKeyHeap
import HandS.TryOnly
import HandS.ExcIs
import HandS.Text
import HandS.FStr
import PySem.Challenge.RW_daywatches_k03_texts
set_option Elab.async false
set_option linter.all false
set_option maxRecDepth 100000
set_option maxHeartbeats 4000000
namespace DL
open PySem PySem.Spec PyProof.Rows L2
class TabT where
  T : List (Addr × Str)
end DL
section
variable [DL.TabT]
namespace DL
open PySem PySem.Spec PyProof.Rows L2
abbrev St := L2.St
inductive D where
  | non | bl (b : Bool) | int (i : Int) | str (x : Str)
  | tup (xs : List D) | lst (xs : List D) | dct (t : Bool) (kvs : List (D × D)) | dk
abbrev Dk := Option (Addr × Addr × Addr)
def isDk (k : Dk) (a : Addr) : Prop := (∃ a0 a1 a2, k = some (a0, a1, a2) ∧ (a = a0 ∨ a = a1 ∨ a = a2)) ∨ ∃ q, (a, q) ∈ TabT.T
def keyD : Key → D
  | .inl i => .int i
  | .inr x => .str x
mutual
inductive Rp (k : Dk) (F : Hp) : V → D → Prop
  | non : Rp k F .non .non
  | bl (b : Bool) : Rp k F (.bl b) (.bl b)
  | int (i : Int) : Rp k F (.int i) (.int i)
  | str (x : Str) : Rp k F (.str x) (.str x)
  | tup {a : Addr} {xs : List V} {ds : List D} : F a = some (.tup xs) → Rps k F xs ds → Rp k F (.ref a) (.tup ds)
  | lst {a : Addr} {xs : List V} {ds : List D} : F a = some (.lst xs) → Rps k F xs ds → Rp k F (.ref a) (.lst ds)
  | dctK {a : Addr} {xs : List (Key × V)} {ds : List (D × D)} : Rd F a (.dK xs) → RpK k F xs ds → Rp k F (.ref a) (.dct false ds)
  | dctT {a : Addr} {xs : List (List Key × V)} {ds : List (D × D)} : Rd F a (.dT xs) → RpT k F xs ds → Rp k F (.ref a) (.dct true ds)
  | dk {a0 a1 a2 : Addr} : k = some (a0, a1, a2) → Rp k F (.ref a0) .dk
inductive Rps (k : Dk) (F : Hp) : List V → List D → Prop
  | nil : Rps k F [] []
  | cons {v : V} {vs : List V} {d : D} {ds : List D} : Rp k F v d → Rps k F vs ds → Rps k F (v :: vs) (d :: ds)
inductive RpK (k : Dk) (F : Hp) : List (Key × V) → List (D × D) → Prop
  | nil : RpK k F [] []
  | cons {y : Key} {v : V} {vs : List (Key × V)} {d : D} {ds : List (D × D)} : Rp k F v d → RpK k F vs ds → RpK k F ((y, v) :: vs) ((keyD y, d) :: ds)
inductive RpT (k : Dk) (F : Hp) : List (List Key × V) → List (D × D) → Prop
  | nil : RpT k F [] []
  | cons {y : List Key} {v : V} {vs : List (List Key × V)} {d : D} {ds : List (D × D)} : Rp k F v d → RpT k F vs ds → RpT k F ((y, v) :: vs) ((.tup (y.map keyD), d) :: ds)
end
theorem Same.rd {F F' : Hp} (h : Same F F') {a : Addr} {u : HO} (e : Rd F a u) : Rd F' a u := e.elim (fun e => .inl (h _ _ e)) fun ⟨o, e⟩ => .inr ⟨o, h _ _ e⟩
section
variable {k : Dk} {F F' : Hp}
mutual
theorem Rp.mono (h : Same F F') : ∀ {v : V} {d : D}, Rp k F v d → Rp k F' v d
  | _, _, .non => .non
  | _, _, .bl b => .bl b
  | _, _, .int i => .int i
  | _, _, .str x => .str x
  | _, _, .tup e r => .tup (h _ _ e) (Rps.mono h r)
  | _, _, .lst e r => .lst (h _ _ e) (Rps.mono h r)
  | _, _, .dctK e r => .dctK (Same.rd h e) (RpK.mono h r)
  | _, _, .dctT e r => .dctT (Same.rd h e) (RpT.mono h r)
  | _, _, .dk e => .dk e
theorem Rps.mono (h : Same F F') : ∀ {v : List V} {d : List D}, Rps k F v d → Rps k F' v d
  | _, _, .nil => .nil
  | _, _, .cons r t => .cons (Rp.mono h r) (Rps.mono h t)
theorem RpK.mono (h : Same F F') : ∀ {v : List (Key × V)} {d : List (D × D)}, RpK k F v d → RpK k F' v d
  | _, _, .nil => .nil
  | _, _, .cons r t => .cons (Rp.mono h r) (RpK.mono h t)
theorem RpT.mono (h : Same F F') : ∀ {v : List (List Key × V)} {d : List (D × D)}, RpT k F v d → RpT k F' v d
  | _, _, .nil => .nil
  | _, _, .cons r t => .cons (Rp.mono h r) (RpT.mono h t)
end
theorem Rps.length : ∀ {v : List V} {d : List D}, Rps k F v d → v.length = d.length
  | _, _, .nil => rfl
  | _, _, .cons _ t => congrArg (· + 1) (Rps.length t)
theorem Rps.append : ∀ {v w : List V} {d e : List D}, Rps k F v d → Rps k F w e → Rps k F (v ++ w) (d ++ e)
  | _, _, _, _, .nil, s => s
  | _, _, _, _, .cons r t, s => .cons r (Rps.append t s)
theorem Rps.get : ∀ {v : List V} {d : List D} {i : Nat} {x : D}, Rps k F v d → d[i]? = some x → ∃ y, v[i]? = some y ∧ Rp k F y x
  | _, _, _, _, .nil, e => by simp at e
  | _, _, 0, _, .cons r _, e => by simp at e; subst e; exact ⟨_, rfl, r⟩
  | _, _, i + 1, x, .cons _ t, e => by
    obtain ⟨y, h1, h2⟩ := Rps.get (i := i) (x := x) t (by simpa using e)
    exact ⟨y, by simpa using h1, h2⟩
theorem Rps.take : ∀ {v : List V} {d : List D} (n : Nat), Rps k F v d → Rps k F (v.take n) (d.take n)
  | _, _, 0, _ => .nil
  | _, _, _ + 1, .nil => .nil
  | _, _, n + 1, .cons r t => .cons r (Rps.take n t)
theorem Rps.drop : ∀ {v : List V} {d : List D} (n : Nat), Rps k F v d → Rps k F (v.drop n) (d.drop n)
  | _, _, 0, r => r
  | _, _, _ + 1, .nil => .nil
  | _, _, n + 1, .cons _ t => Rps.drop n t
theorem Rps.set {x : V} {y : D} (r : Rp k F x y) : ∀ {v : List V} {d : List D} (i : Nat), Rps k F v d → Rps k F (v.set i x) (d.set i y)
  | _, _, _, .nil => .nil
  | _, _, 0, .cons _ t => .cons r t
  | _, _, i + 1, .cons q t => .cons q (Rps.set r i t)
theorem Rps.eraseIdx : ∀ {v : List V} {d : List D} (i : Nat), Rps k F v d → Rps k F (v.eraseIdx i) (d.eraseIdx i)
  | _, _, _, .nil => .nil
  | _, _, 0, .cons _ t => t
  | _, _, i + 1, .cons q t => .cons q (Rps.eraseIdx i t)
theorem Rps.rep {v : List V} {d : List D} (h : Rps k F v d) : ∀ n : Nat, Rps k F (List.replicate n v).flatten (List.replicate n d).flatten
  | 0 => .nil
  | n + 1 => by
    rw [List.replicate_succ, List.replicate_succ, List.flatten_cons, List.flatten_cons]
    exact h.append (Rps.rep h n)
end
structure DkOk (k : Dk) (H : Hp) : Prop where
  deck : ∀ a0 a1 a2, k = some (a0, a1, a2) → ∃ (bigs cells : List Int) (c : Int),
    H a0 = some (.lst [.ref a1, .ref a2, .int c]) ∧ H a1 = some (.lst (bigs.map V.int)) ∧ H a2 = some (.lst (cells.map V.int)) ∧ a1 ≠ a0 ∧ a2 ≠ a0 ∧ a1 ≠ a2 ∧
    (∀ b ∈ bigs, 0 < b) ∧ cells ≠ [] ∧ cells.length ≤ 100 ∧ bigs.length ≤ 100
  tabs : LamX.Tabs TabT.T H
theorem DkOk.there {k : Dk} {H : Hp} (h : DkOk k H) {a : Addr} (d : isDk k a) : H a ≠ none := by
  rcases d with ⟨a0, a1, a2, e, d⟩ | ⟨q, hq⟩
  · obtain ⟨bigs, cells, c, h0, h1, h2, _⟩ := h.deck a0 a1 a2 e
    rcases d with rfl | rfl | rfl
    · rw [h0]; simp
    · rw [h1]; simp
    · rw [h2]; simp
  · obtain ⟨ps, e, _⟩ := h.tabs _ hq
    simp only at e
    rw [e]; simp
theorem DkOk.mono {k : Dk} {H H' : Hp} (h : DkOk k H) (s : ∀ a o, isDk k a ∨ (∃ q, o = LamX.CodeO a q) → H a = some o → H' a = some o) : DkOk k H' := by
  refine ⟨fun a0 a1 a2 e => ?_, fun p hp => ?_⟩
  · obtain ⟨bigs, cells, c, h0, h1, h2, r⟩ := h.deck a0 a1 a2 e
    exact ⟨bigs, cells, c, s _ _ (.inl (.inl ⟨a0, a1, a2, e, .inl rfl⟩)) h0, s _ _ (.inl (.inl ⟨a0, a1, a2, e, .inr (.inl rfl)⟩)) h1, s _ _ (.inl (.inl ⟨a0, a1, a2, e, .inr (.inr rfl)⟩)) h2, r⟩
  · obtain ⟨ps, h1, h2, h3⟩ := h.tabs p hp
    refine ⟨ps, s _ _ (.inl (.inr ⟨p.2, hp⟩)) h1, h2, fun pos cv hc => ?_⟩
    obtain ⟨c, e1, e2⟩ := h3 pos cv hc
    exact ⟨c, e1, s _ _ (.inr ⟨_, rfl⟩) e2⟩
structure Ext (k : Dk) (F0 B F H : Hp) : Prop where
  old : Same F0 F
  sub : Same F H
  base : ∀ a o, B a = some o → ¬ isDk k a → H a = some o
  new : ∀ a o, F a = some o → F0 a = some o ∨ B a = none ∨ ∃ xs, o = .tup xs
  fdk : ∀ a, isDk k a → F a = none
  bdk : ∀ a, isDk k a → B a ≠ none
  dko : DkOk k H
section
variable {k : Dk} {F0 B F H F' H' : Hp}
theorem Ext.self (h : Ext k F0 B F H) : Ext k F H F H := ⟨Same.refl _, h.sub, fun _ _ e _ => e, fun _ _ e => .inl e, h.fdk, fun _ d => h.dko.there d, h.dko⟩
theorem Ext.start (s : Same F H) (f : ∀ a, isDk k a → F a = none) (d : DkOk k H) : Ext k F H F H := ⟨Same.refl _, s, fun _ _ e _ => e, fun _ _ e => .inl e, f, fun _ q => d.there q, d⟩
theorem Ext.trans (h : Ext k F0 B F H) (h' : Ext k F H F' H') : Ext k F0 B F' H' := by
  refine ⟨h.old.trans h'.old, h'.sub, fun a o e n => h'.base a o (h.base a o e n) n, fun a o e => ?_, h'.fdk, h.bdk, h'.dko⟩
  rcases h'.new a o e with q | q | q
  · exact h.new a o q
  · by_cases d : isDk k a
    · rw [h'.fdk a d] at e; cases e
    · refine .inr (.inl ?_)
      cases hb : B a with
      | none => rfl
      | some u => rw [h.base a u hb d] at q; cases q
  · exact .inr (.inr q)
theorem Ext.notDk (h : Ext k F0 B F H) {p : Addr} (hp : H p = none) : ¬ isDk k p := fun d => h.dko.there d hp
theorem Ext.lay {p : Addr} {o : HO} (h : Ext k F0 B F H) (hp : H p = none) : Ext k F0 B F (upd H p o) := by
  refine ⟨h.old, fun a u e => ?_, fun a u e n => ?_, h.new, h.fdk, h.bdk, h.dko.mono fun a u _ e => ?_⟩
  · have q := h.sub a u e
    rw [upd_ne (ne_of_none q hp)]; exact q
  · have q := h.base a u e n
    rw [upd_ne (ne_of_none q hp)]; exact q
  · rw [upd_ne (ne_of_none e hp)]; exact e
theorem Ext.frz {p : Addr} {o : HO} (h : Ext k F0 B F H) (hp : H p = some o) (hb : B p = none) (hf : F p = none) : Ext k F0 B (upd F p o) H := by
  have nd : ¬ isDk k p := fun d => h.bdk p d hb
  have ne : ∀ a u, F a = some u → a ≠ p := fun a u e => ne_of_none e hf
  refine ⟨fun a u e => ?_, fun a u e => ?_, h.base, fun a u e => ?_, fun a d => ?_, h.bdk, h.dko⟩
  · have q := h.old a u e
    rw [upd_ne (ne a u q)]; exact q
  · by_cases e' : a = p
    · subst e'; rw [upd_same] at e; cases e; exact hp
    · rw [upd_ne e'] at e; exact h.sub a u e
  · by_cases e' : a = p
    · subst e'; exact .inr (.inl hb)
    · rw [upd_ne e'] at e; exact h.new a u e
  · rw [upd_ne (fun e => nd (by rw [← e]; exact d))]; exact h.fdk a d
theorem Ext.put {p : Addr} {o : HO} (h : Ext k F0 B F H) (hb : B p = none) (hf : F p = none) (hc : ∀ q, H p ≠ some (LamX.CodeO p q)) : Ext k F0 B F (upd H p o) := by
  have nd : ¬ isDk k p := fun d => h.bdk p d hb
  refine ⟨h.old, fun a u e => ?_, fun a u e n => ?_, h.new, h.fdk, h.bdk, h.dko.mono fun a u d e => ?_⟩
  · rw [upd_ne (ne_of_none e hf)]; exact h.sub a u e
  · rw [upd_ne (ne_of_none e hb)]; exact h.base a u e n
  · rw [upd_ne (fun z => ?_)]; · exact e
    subst z
    rcases d with d | ⟨q, rfl⟩
    · exact nd d
    · exact hc q e
theorem same_upd {p : Addr} {o : HO} (h : F p = none) : Same F (upd F p o) := fun a u e => by
  rw [upd_ne (ne_of_none e h)]; exact e
theorem Ext.mkF {p : Addr} {o : HO} (h : Ext k F0 B F H) (hp : H p = none) : Ext k F H (upd F p o) (upd H p o) := by
  have hf : F p = none := by
    cases e : F p with
    | none => rfl
    | some u => rw [h.sub p u e] at hp; cases hp
  exact (h.self.lay hp).frz upd_same hp hf
theorem Ext.fnone (h : Ext k F0 B F H) {p : Addr} (hp : H p = none) : F p = none := by
  cases e : F p with
  | none => rfl
  | some u => rw [h.sub p u e] at hp; cases hp
theorem Ext.bnone (h : Ext k F0 B F H) {p : Addr} (hp : H p = none) : B p = none := by
  cases e : B p with
  | none => rfl
  | some u => rw [h.base p u e (h.notDk hp)] at hp; cases hp
end
structure Gh where
  dk : Dk
  F0 : Hp
  B : Hp
inductive Ct where
  | l (ds : List D)
  | d (t : Bool) (kvs : List (D × D))
def Ct.frz : Ct → D
  | .l ds => .lst ds
  | .d t kvs => .dct t kvs
inductive Sl where
  | val (d : D)
  | own (c : Ct)
def Sl.top : Sl → D
  | .val d => d
  | .own c => c.frz
abbrev DS := List (Option Sl)
def CtOk (k : Dk) (F : Hp) (o : HO) : Ct → Prop
  | .l ds => ∃ xs, o = .lst xs ∧ Rps k F xs ds
  | .d t kvs => (t = false ∧ ∃ ks, o = .dK ks ∧ RpK k F ks kvs) ∨ (t = true ∧ ∃ ks, o = .dT ks ∧ RpT k F ks kvs)
theorem CtOk.mono {k : Dk} {F F' : Hp} {o : HO} {c : Ct} (s : Same F F') (h : CtOk k F o c) : CtOk k F' o c := by
  cases c with
  | l ds => obtain ⟨xs, e, r⟩ := h; exact ⟨xs, e, r.mono s⟩
  | d t kvs =>
    rcases h with ⟨e0, ks, e, r⟩ | ⟨e0, ks, e, r⟩
    · exact .inl ⟨e0, ks, e, r.mono s⟩
    · exact .inr ⟨e0, ks, e, r.mono s⟩
theorem CtOk.noTup {k : Dk} {F : Hp} {o : HO} {c : Ct} (h : CtOk k F o c) (ys : List V) : o ≠ .tup ys := fun e => by
  cases c with
  | l ds => obtain ⟨xs, rfl, _⟩ := h; cases e
  | d t kvs => rcases h with ⟨_, ks, rfl, _⟩ | ⟨_, ks, rfl, _⟩ <;> cases e
theorem CtOk.noCode {k : Dk} {F : Hp} {o : HO} {c : Ct} (h : CtOk k F o c) (p : Addr) (q : Str) : o ≠ LamX.CodeO p q := fun e => by
  unfold LamX.CodeO at e
  cases c with
  | l ds => obtain ⟨xs, rfl, _⟩ := h; cases e
  | d t kvs => rcases h with ⟨_, ks, rfl, _⟩ | ⟨_, ks, rfl, _⟩ <;> cases e
theorem lst_noCode {H : Hp} {p : Addr} {xs : List V} (h : H p = some (.lst xs)) (q : Str) : H p ≠ some (LamX.CodeO p q) := fun e => by
  rw [h] at e
  unfold LamX.CodeO at e
  cases e
theorem CtOk.rp {k : Dk} {F : Hp} {o : HO} {c : Ct} {p : Addr} (h : CtOk k F o c) (e : F p = some o) : Rp k F (.ref p) c.frz := by
  cases c with
  | l ds => obtain ⟨xs, rfl, r⟩ := h; exact .lst e r
  | d t kvs =>
    rcases h with ⟨rfl, ks, rfl, r⟩ | ⟨rfl, ks, rfl, r⟩
    · exact .dctK (.inl e) r
    · exact .dctT (.inl e) r
structure Rl (g : Gh) (δ : DS) (σ : St) (H F : Hp) : Prop where
  ext : Ext g.dk g.F0 g.B F H
  len : δ.length = σ.length
  val : ∀ (i : Nat) (d : D), δ[i]? = some (some (.val d)) → ∃ v, σ[i]? = some (some v) ∧ Rp g.dk F v d
  own : ∀ (i : Nat) (c : Ct), δ[i]? = some (some (.own c)) → ∃ p o, σ[i]? = some (some (.ref p)) ∧ H p = some o ∧ CtOk g.dk F o c ∧ F p = none ∧ g.B p = none
  dif : ∀ (i j : Nat) (c c' : Ct) (p : Addr), δ[i]? = some (some (.own c)) → δ[j]? = some (some (.own c')) → σ[i]? = some (some (.ref p)) → σ[j]? = some (some (.ref p)) → i = j
section
variable {g : Gh} {δ : DS} {σ : St} {H F H' F' : Hp}
theorem Rl.notDk (R : Rl g δ σ H F) {p : Addr} (hb : g.B p = none) : ¬ isDk g.dk p := fun d => R.ext.bdk p d hb
theorem Rl.grow (R : Rl g δ σ H F) (x : Ext g.dk F H F' H') : Rl g δ σ H' F' := by
  refine ⟨R.ext.trans x, R.len, fun i d e => ?_, fun i c e => ?_, R.dif⟩
  · obtain ⟨v, e1, r⟩ := R.val i d e
    exact ⟨v, e1, r.mono x.old⟩
  · obtain ⟨p, o, e1, hp, r, hf, hb⟩ := R.own i c e
    refine ⟨p, o, e1, x.base p o hp (R.notDk hb), r.mono x.old, ?_, hb⟩
    cases q : F' p with
    | none => rfl
    | some u =>
      rcases x.new p u q with z | z | ⟨ys, rfl⟩
      · rw [hf] at z; cases z
      · rw [hp] at z; cases z
      · have z := x.sub p _ q
        rw [x.base p o hp (R.notDk hb)] at z
        exact absurd (Option.some.inj z) (r.noTup ys)
theorem Rl.self (R : Rl g δ σ H F) : Ext g.dk F H F H := R.ext.self
theorem Rl.setVal (R : Rl g δ σ H F) {i : Nat} {v : V} {d : D} (r : Rp g.dk F v d) : Rl g (δ.set i (some (.val d))) (σ.set i (some v)) H F := by
  refine ⟨R.ext, by rw [List.length_set, List.length_set, R.len], fun j e h => ?_, fun j c h => ?_, fun j l c c' p h1 h2 h3 h4 => ?_⟩
  · by_cases hj : i = j
    · subst hj
      rw [List.getElem?_set] at h
      rw [if_pos rfl] at h
      split at h
      · rename_i hl
        cases h
        exact ⟨v, by rw [List.getElem?_set_self (by rw [← R.len]; exact hl)], r⟩
      · cases h
    · rw [List.getElem?_set_ne hj] at h ⊢
      exact R.val j e h
  · by_cases hj : i = j
    · subst hj
      rw [List.getElem?_set, if_pos rfl] at h
      split at h <;> cases h
    · rw [List.getElem?_set_ne hj] at h ⊢
      exact R.own j c h
  · by_cases hj : i = j
    · subst hj
      rw [List.getElem?_set, if_pos rfl] at h1
      split at h1 <;> cases h1
    · by_cases hl : i = l
      · subst hl
        rw [List.getElem?_set, if_pos rfl] at h2
        split at h2 <;> cases h2
      · rw [List.getElem?_set_ne hj] at h1 h3
        rw [List.getElem?_set_ne hl] at h2 h4
        exact R.dif j l c c' p h1 h2 h3 h4
theorem Rl.drop (R : Rl g δ σ H F) (i : Nat) : Rl g (δ.set i none) σ H F := by
  have key : ∀ (j : Nat) (s : Sl), (δ.set i none)[j]? = some (some s) → δ[j]? = some (some s) := fun j s h => by
    by_cases hj : i = j
    · subst hj
      rw [List.getElem?_set, if_pos rfl] at h
      split at h <;> cases h
    · rw [List.getElem?_set_ne hj] at h; exact h
  exact ⟨R.ext, by rw [List.length_set, R.len], fun j d h => R.val j d (key j _ h), fun j c h => R.own j c (key j _ h), fun a b c c' p h1 h2 => R.dif a b c c' p (key a _ h1) (key b _ h2)⟩
theorem Rl.wipe1 (R : Rl g δ σ H F) (i : Nat) : Rl g (δ.set i none) (σ.set i none) H F := by
  have key : ∀ (j : Nat) (s : Sl), (δ.set i none)[j]? = some (some s) → δ[j]? = some (some s) ∧ (σ.set i none)[j]? = σ[j]? := fun j s h => by
    by_cases hj : i = j
    · subst hj
      rw [List.getElem?_set, if_pos rfl] at h
      split at h <;> cases h
    · rw [List.getElem?_set_ne hj] at h; exact ⟨h, by rw [List.getElem?_set_ne hj]⟩
  refine ⟨R.ext, by rw [List.length_set, List.length_set, R.len], fun j d h => ?_, fun j c h => ?_, fun a b c c' p h1 h2 h3 h4 => ?_⟩
  · rw [(key j _ h).2]; exact R.val j d (key j _ h).1
  · rw [(key j _ h).2]; exact R.own j c (key j _ h).1
  · rw [(key a _ h1).2] at h3
    rw [(key b _ h2).2] at h4
    exact R.dif a b c c' p (key a _ h1).1 (key b _ h2).1 h3 h4
def Apart (δ : DS) (σ : St) (p : Addr) : Prop := ∀ (i : Nat) (c : Ct), δ[i]? = some (some (.own c)) → σ[i]? ≠ some (some (.ref p))
theorem Rl.setOwn (R : Rl g δ σ H F) {i : Nat} {p : Addr} {o : HO} {c : Ct} (hp : H p = some o) (r : CtOk g.dk F o c) (hf : F p = none) (hb : g.B p = none) (ap : Apart δ σ p) :
    Rl g (δ.set i (some (.own c))) (σ.set i (some (.ref p))) H F := by
  have nd : ∀ (j : Nat) (c' : Ct), i ≠ j → (δ.set i (some (.own c)))[j]? = some (some (.own c')) → (σ.set i (some (.ref p)))[j]? ≠ some (some (.ref p)) := fun j c' hj h => by
    rw [List.getElem?_set_ne hj] at h ⊢
    exact ap j c' h
  refine ⟨R.ext, by rw [List.length_set, List.length_set, R.len], fun j e h => ?_, fun j c' h => ?_, fun j l c1 c2 q h1 h2 h3 h4 => ?_⟩
  · by_cases hj : i = j
    · subst hj
      rw [List.getElem?_set, if_pos rfl] at h
      split at h <;> cases h
    · rw [List.getElem?_set_ne hj] at h ⊢
      exact R.val j e h
  · by_cases hj : i = j
    · subst hj
      rw [List.getElem?_set, if_pos rfl] at h
      split at h
      · rename_i hl
        cases h
        exact ⟨p, o, by rw [List.getElem?_set_self (by rw [← R.len]; exact hl)], hp, r, hf, hb⟩
      · cases h
    · rw [List.getElem?_set_ne hj] at h ⊢
      exact R.own j c' h
  · by_cases hj : i = j
    · by_cases hl : i = l
      · exact hj.symm.trans hl
      · exfalso
        subst hj
        have hl' : i < σ.length := by
          rw [List.getElem?_set, if_pos rfl] at h3
          split at h3
          · assumption
          · cases h3
        rw [List.getElem?_set_self hl'] at h3
        cases h3
        exact nd l c2 hl h2 h4
    · by_cases hl : i = l
      · exfalso
        subst hl
        have hl' : i < σ.length := by
          rw [List.getElem?_set, if_pos rfl] at h4
          split at h4
          · assumption
          · cases h4
        rw [List.getElem?_set_self hl'] at h4
        cases h4
        exact nd j c1 hj h1 h3
      · rw [List.getElem?_set_ne hj] at h1 h3
        rw [List.getElem?_set_ne hl] at h2 h4
        exact R.dif j l c1 c2 q h1 h2 h3 h4
theorem Rl.write (R : Rl g δ σ H F) {i : Nat} {p : Addr} {o : HO} {c c' : Ct} (hi : δ[i]? = some (some (.own c))) (hs : σ[i]? = some (some (.ref p))) (r : CtOk g.dk F o c') :
    Rl g (δ.set i (some (.own c'))) σ (upd H p o) F := by
  obtain ⟨p', o', e1, hp, hct, hf, hb⟩ := R.own i c hi
  rw [hs] at e1; cases e1
  have hl : i < δ.length := (List.getElem?_eq_some_iff.mp hi).1
  refine ⟨R.ext.put hb hf (fun q e => hct.noCode p q (Option.some.inj (hp.symm.trans e))), by rw [List.length_set, R.len], fun j e h => ?_, fun j c1 h => ?_, fun j l c1 c2 q h1 h2 h3 h4 => ?_⟩
  · by_cases hj : i = j
    · subst hj
      rw [List.getElem?_set_self hl] at h; cases h
    · rw [List.getElem?_set_ne hj] at h
      exact R.val j e h
  · by_cases hj : i = j
    · subst hj
      rw [List.getElem?_set_self hl] at h; cases h
      exact ⟨p, o, hs, upd_same, r, hf, hb⟩
    · rw [List.getElem?_set_ne hj] at h
      obtain ⟨q, u, e2, hq, r2, f2, b2⟩ := R.own j c1 h
      have hne : q ≠ p := fun e => by subst e; exact hj (R.dif i j c c1 q hi h hs e2)
      exact ⟨q, u, e2, by rw [upd_ne hne]; exact hq, r2, f2, b2⟩
  · have old : ∀ (j : Nat) (c1 : Ct), (δ.set i (some (.own c')))[j]? = some (some (.own c1)) → ∃ c0, δ[j]? = some (some (.own c0)) := fun j c1 h => by
      by_cases hj : i = j
      · subst hj; exact ⟨c, hi⟩
      · rw [List.getElem?_set_ne hj] at h; exact ⟨c1, h⟩
    obtain ⟨d1, h1'⟩ := old j c1 h1
    obtain ⟨d2, h2'⟩ := old l c2 h2
    exact R.dif j l d1 d2 q h1' h2' h3 h4
theorem Rl.frzAt (R : Rl g δ σ H F) {i : Nat} {c : Ct} (hi : δ[i]? = some (some (.own c))) :
    ∃ p o, σ[i]? = some (some (.ref p)) ∧ H p = some o ∧ F p = none ∧ CtOk g.dk F o c ∧ Rl g (δ.set i (some (.val c.frz))) σ H (upd F p o) ∧ Rp g.dk (upd F p o) (.ref p) c.frz := by
  obtain ⟨p, o, e1, hp, r, hf, hb⟩ := R.own i c hi
  have s := same_upd (o := o) hf
  have rp : Rp g.dk (upd F p o) (.ref p) c.frz := (r.mono s).rp upd_same
  have hl : i < δ.length := (List.getElem?_eq_some_iff.mp hi).1
  have old : ∀ (j : Nat) (c1 : Ct), (δ.set i (some (.val c.frz)))[j]? = some (some (.own c1)) → i ≠ j ∧ δ[j]? = some (some (.own c1)) := fun j c1 h => by
    by_cases hj : i = j
    · subst hj; rw [List.getElem?_set_self hl] at h; cases h
    · rw [List.getElem?_set_ne hj] at h; exact ⟨hj, h⟩
  refine ⟨p, o, e1, hp, hf, r, ⟨R.ext.frz hp hb hf, by rw [List.length_set, R.len], fun j e h => ?_, fun j c1 h => ?_, fun j l c1 c2 q h1 h2 h3 h4 => R.dif j l c1 c2 q (old j c1 h1).2 (old l c2 h2).2 h3 h4⟩, rp⟩
  · by_cases hj : i = j
    · subst hj; rw [List.getElem?_set_self hl] at h; cases h
      exact ⟨_, e1, rp⟩
    · rw [List.getElem?_set_ne hj] at h
      obtain ⟨v, e2, r2⟩ := R.val j e h
      exact ⟨v, e2, r2.mono s⟩
  · obtain ⟨hj, h0⟩ := old j c1 h
    obtain ⟨q, u, e2, hq, r2, f2, b2⟩ := R.own j c1 h0
    have hne : q ≠ p := fun e => by subst e; exact hj (R.dif i j c c1 q hi h0 e1 e2)
    exact ⟨q, u, e2, hq, r2.mono s, by rw [upd_ne hne]; exact f2, b2⟩
theorem Rl.mkF (R : Rl g δ σ H F) {p : Addr} (o : HO) (hp : H p = none) : Rl g δ σ (upd H p o) (upd F p o) ∧ Same F (upd F p o) :=
  ⟨R.grow (R.ext.mkF hp), same_upd (R.ext.fnone hp)⟩
theorem Rl.lay (R : Rl g δ σ H F) {p : Addr} (o : HO) (hp : H p = none) : Rl g δ σ (upd H p o) F := R.grow (R.self.lay hp)
theorem Rl.apart (R : Rl g δ σ H F) {p : Addr} (hp : H p = none) : Apart δ σ p := fun i c e h => by
  obtain ⟨q, o, e1, hq, _⟩ := R.own i c e
  rw [e1] at h; cases h
  rw [hp] at hq; cases hq
theorem Rl.there (R : Rl g δ σ H F) {i : Nat} {s : Sl} (hi : δ[i]? = some (some s)) : ∃ v, σ[i]? = some (some v) := by
  cases s with
  | val d => obtain ⟨v, e, _⟩ := R.val i d hi; exact ⟨v, e⟩
  | own c => obtain ⟨p, o, e, _⟩ := R.own i c hi; exact ⟨_, e⟩
end
def RpTop (k : Dk) (F H : Hp) (v : V) (d : D) : Prop := Rp k F v d ∨ ∃ p o c, v = .ref p ∧ H p = some o ∧ CtOk k F o c ∧ d = c.frz
theorem Rl.top {g : Gh} {δ : DS} {σ : St} {H F : Hp} (R : Rl g δ σ H F) {i : Nat} {s : Sl} (hi : δ[i]? = some (some s)) {v : V} (hv : σ[i]? = some (some v)) : RpTop g.dk F H v s.top := by
  cases s with
  | val d =>
    obtain ⟨w, e, r⟩ := R.val i d hi
    rw [hv] at e; cases e
    exact .inl r
  | own c =>
    obtain ⟨p, o, e, hp, r, _⟩ := R.own i c hi
    rw [hv] at e; cases e
    exact .inr ⟨p, o, c, rfl, hp, r, rfl⟩
abbrev DE := DS → (D → DS → Prop) → Prop
abbrev DT := DS → (Bool → DS → Prop) → Prop
abbrev DL' := DS → (Ct → DS → Prop) → Prop
abbrev DA := DS → (List D → DS → Prop) → Prop
structure DEnds where
  nx : DS → Prop
  rt : D → Prop
  bk : DS → Prop := fun _ => False
  ct : DS → Prop := fun _ => False
abbrev DSm := DEnds → DS → Prop
def RQ (g : Gh) (σ : St) (F : Hp) (Q : VK) (d : D) (δ' : DS) : Prop := ∀ v H' F', Same F F' → Rl g δ' σ H' F' → Rp g.dk F' v d → Q v H'
def RQT (g : Gh) (σ : St) (F : Hp) (Q : Bool → Hp → Prop) (b : Bool) (δ' : DS) : Prop := ∀ H' F', Same F F' → Rl g δ' σ H' F' → Q b H'
def RQL (g : Gh) (σ : St) (F : Hp) (Q : VK) (c : Ct) (δ' : DS) : Prop := ∀ p o H' F', Same F F' → Rl g δ' σ H' F' → H' p = some o → CtOk g.dk F' o c → F' p = none → g.B p = none → Apart δ' σ p → Q (.ref p) H'
def RQA (g : Gh) (σ : St) (F : Hp) (Q : List V → Hp → Prop) (ds : List D) (δ' : DS) : Prop := ∀ vs H' F', Same F F' → Rl g δ' σ H' F' → Rps g.dk F' vs ds → Q vs H'
def LE (g : Gh) (t : DE) : TE := fun σ H Q => ∃ δ F, Rl g δ σ H F ∧ t δ (RQ g σ F Q)
def LT (g : Gh) (t : DT) : TT := fun σ H Q => ∃ δ F, Rl g δ σ H F ∧ t δ (RQT g σ F Q)
def LL (g : Gh) (t : DL') : TE := fun σ H Q => ∃ δ F, Rl g δ σ H F ∧ t δ (RQL g σ F Q)
def LA (g : Gh) (t : DA) : TA := fun σ H Q => ∃ δ F, Rl g δ σ H F ∧ t δ (RQA g σ F Q)
structure Lk (g : Gh) (F : Hp) (E : DEnds) (D' : Ends) : Prop where
  nx : ∀ δ' σ' H' F', Same F F' → Rl g δ' σ' H' F' → E.nx δ' → D'.nx σ' H'
  bk : ∀ δ' σ' H' F', Same F F' → Rl g δ' σ' H' F' → E.bk δ' → D'.bk σ' H'
  ct : ∀ δ' σ' H' F', Same F F' → Rl g δ' σ' H' F' → E.ct δ' → D'.ct σ' H'
  rt : ∀ d v δ' σ' H' F', Same F F' → Rl g δ' σ' H' F' → Rp g.dk F' v d → E.rt d → D'.rt v H'
theorem Lk.mono {g : Gh} {F F' : Hp} {E : DEnds} {D' : Ends} (h : Lk g F E D') (s : Same F F') : Lk g F' E D' :=
  ⟨fun a b c d e => h.nx a b c d (s.trans e), fun a b c d e => h.bk a b c d (s.trans e), fun a b c d e => h.ct a b c d (s.trans e), fun a b c d e f q => h.rt a b c d e f (s.trans q)⟩
def LS (g : Gh) (t : DSm) : TS := fun D' σ H => ∃ δ F E, Rl g δ σ H F ∧ Lk g F E D' ∧ t E δ
def MonoE {α : Type} (t : DS → (α → DS → Prop) → Prop) : Prop := ∀ δ (Q Q' : α → DS → Prop), (∀ d δ', Q d δ' → Q' d δ') → t δ Q → t δ Q'
structure PV (X : Cx) (e : Expr) (t : DE) : Prop where
  mono : MonoE t
  run : ∀ g, PE X e (LE g t)
structure PL (X : Cx) (e : Expr) (t : DL') : Prop where
  mono : MonoE t
  run : ∀ g, PE X e (LL g t)
structure PTd (X : Cx) (e : Expr) (t : DT) : Prop where
  mono : MonoE t
  run : ∀ g, PT X e (LT g t)
structure PWd (X : Cx) (e : Expr) (t : DT) : Prop where
  mono : MonoE t
  run : ∀ g, PW X e (LT g t)
structure PAd (X : Cx) (es : List Expr) (t : DA) : Prop where
  mono : MonoE t
  run : ∀ g, PA X es (LA g t)
structure PSd (X : Cx) (st : Stmt) (t : DSm) : Prop where
  run : ∀ g, PS X st (LS g t)
structure PSds (X : Cx) (st : List Stmt) (t : DSm) : Prop where
  run : ∀ g, PSs X st (LS g t)
theorem PE.mono {X : Cx} {e : Expr} {t t' : TE} (h : PE X e t) (i : ∀ σ H Q, t' σ H Q → t σ H Q) : PE X e t' := ⟨fun pins s σ H Q I q => h.run pins s σ H Q I (i σ H Q q)⟩
theorem PT.mono {X : Cx} {e : Expr} {t t' : TT} (h : PT X e t) (i : ∀ σ H Q, t' σ H Q → t σ H Q) : PT X e t' := ⟨fun pins s σ H Q I q => h.run pins s σ H Q I (i σ H Q q)⟩
theorem PW.mono {X : Cx} {e : Expr} {t t' : TT} (h : PW X e t) (i : ∀ σ H Q, t' σ H Q → t σ H Q) : PW X e t' := ⟨fun w pins s σ H Q I q => h.run w pins s σ H Q I (i σ H Q q)⟩
theorem PA.mono {X : Cx} {e : List Expr} {t t' : TA} (h : PA X e t) (i : ∀ σ H Q, t' σ H Q → t σ H Q) : PA X e t' := ⟨fun p pins s σ H Q I q => h.run p pins s σ H Q I (i σ H Q q)⟩
theorem PS.mono {X : Cx} {e : Stmt} {t t' : TS} (h : PS X e t) (i : ∀ D σ H, t' D σ H → t D σ H) : PS X e t' := ⟨fun pins s σ H D I q => h.run pins s σ H D I (i D σ H q)⟩
theorem PSs.mono {X : Cx} {e : List Stmt} {t t' : TS} (h : PSs X e t) (i : ∀ D σ H, t' D σ H → t D σ H) : PSs X e t' := ⟨fun pins s σ H D I q => h.run pins s σ H D I (i D σ H q)⟩
theorem PI.mono {X : Cx} {tg it : Expr} {t t' : TI} (h : PI X tg it t) (i : ∀ σ H R, t' σ H R → t σ H R) : PI X tg it t' := ⟨fun pins s σ H R I q => h.run pins s σ H R I (i σ H R q)⟩
theorem RQ.weak {g : Gh} {σ : St} {F F' : Hp} {Q : VK} {d : D} {δ' : DS} (s : Same F F') (h : RQ g σ F Q d δ') : RQ g σ F' Q d δ' := fun v H' F2 s2 => h v H' F2 (s.trans s2)
theorem RQL.weak {g : Gh} {σ : St} {F F' : Hp} {Q : VK} {d : Ct} {δ' : DS} (s : Same F F') (h : RQL g σ F Q d δ') : RQL g σ F' Q d δ' := fun v o H' F2 s2 => h v o H' F2 (s.trans s2)
theorem RQA.weak {g : Gh} {σ : St} {F F' : Hp} {Q : List V → Hp → Prop} {d : List D} {δ' : DS} (s : Same F F') (h : RQA g σ F Q d δ') : RQA g σ F' Q d δ' := fun v H' F2 s2 => h v H' F2 (s.trans s2)
theorem RQT.weak {g : Gh} {σ : St} {F F' : Hp} {Q : Bool → Hp → Prop} {d : Bool} {δ' : DS} (s : Same F F') (h : RQT g σ F Q d δ') : RQT g σ F' Q d δ' := fun H' F2 s2 => h H' F2 (s.trans s2)
end DL
namespace L2
open PySem PySem.Spec PyProof.Rows
theorem tuple_mul1 (l : Addr) (items : Array Value) (n : Nat) (dd : Option Addr) (sl : Array (Option Value)) (u : Tok) :
    Meets (Builtin.«tuple.__mul__» ⟨[.ref l, .int 1 u], []⟩) (fun _ R s => s.heap.get? l = some { cls := .type "tuple", dict := dd, data := .seq items n, slots := sl } ∧
      R (.ok (.ret (Value.ref l))) s) :=
  .of_wp fun prog w A R s h => by
    obtain ⟨hp, g, d, tk, os⟩ := s
    obtain ⟨hl, h⟩ := h
    have f1 := AutoSeq1.idx_int
    wp_walk using wpAny_loadPart' hl
    repeat (first
      | (refine wpAny_ite_false (decide_eq_false (by decide)) ?_; wp_walk using wpAny_loadPart' hl)
      | (refine wpAny_ite_true (decide_eq_true (by simp)) ?_; wp_walk using wpAny_loadPart' hl))
    exact ⟨_, rfl, h⟩
theorem tuple_mul0 (l : Addr) (items : Array Value) (n : Nat) (dd : Option Addr) (sl : Array (Option Value)) (u : Tok) (c1 : items.isEmpty = false) :
    Meets (Builtin.«tuple.__mul__» ⟨[.ref l, .int 0 u], []⟩) (fun _ R s => s.heap.get? l = some { cls := .type "tuple", dict := dd, data := .seq items n, slots := sl } ∧
      R (.ok (.ret (Value.ref s.heap.objs.size))) { s with heap := s.heap.push { cls := Value.type "tuple", data := Data.seq #[] }, toks := s.toks }) :=
  .of_wp fun prog w A R s h => by
    obtain ⟨hp, g, d, tk, os⟩ := s
    obtain ⟨hl, h⟩ := h
    have f1 := AutoSeq1.idx_int
    have c2 : (items.isEmpty || (0 : Int) == 1) = false := by rw [c1]; rfl
    wp_walk using wpAny_loadPart' hl
    repeat (first
      | (refine wpAny_ite_false (decide_eq_false (by rw [c2]; exact Bool.false_ne_true)) ?_; wp_walk using wpAny_loadPart' hl)
      | (refine wpAny_ite_false (decide_eq_false (by decide)) ?_; wp_walk using wpAny_loadPart' hl)
      | (refine wpAny_ite_true (decide_eq_true (by simp)) ?_; wp_walk using wpAny_loadPart' hl))
    exact ⟨_, rfl, h⟩
def rRepT2 (K : PySem.W.Frag) : R2 := fun x y H Q => ∃ l k xs, x = .ref l ∧ y = .int k ∧ SqT K H l xs ∧ xs ≠ [] ∧ 0 ≤ k ∧ k ≤ 1000 ∧ xs.length ≤ 1000 ∧ (k = 1 → Q (.ref l) H) ∧ (k ≠ 1 → ∀ p, H p = none → Q (.ref p) (upd H p (.tup (List.replicate k.toNat xs).flatten)))
theorem op_repT2 {X : Cx} : OpR X (binaryOp .Mult) (rRepT2 X.K) := by
  intro pins s σ H x y v u Q I rx ry h
  obtain ⟨l, k, xs, rfl, rfl, hT, hne, h1, h2, hz, q1, q2⟩ := h
  by_cases c2 : 2 ≤ k
  · exact op_repT pins s σ H _ _ v u Q I rx ry ⟨l, k, xs, rfl, rfl, hT, hne, c2, h2, hz, q2 (by omega)⟩
  cases rx
  obtain ⟨t, rfl⟩ := ry
  obtain ⟨its, r, ⟨⟨cls, dd, data, sl⟩, ho, hc, n, hd⟩, hs⟩ := I.tuple hT
  simp only at hc hd
  subst hc hd
  have hle : its.length = xs.length := r.length.symm
  have hi : its.toArray.isEmpty = false := by
    cases its with
    | nil => exact absurd (List.eq_nil_of_length_eq_zero hle.symm) hne
    | cons a b => rfl
  have hk : k = 1 ∨ k = 0 := by omega
  rcases hk with rfl | rfl
  · refine wpAny_binaryOp_repeat_ref (T := "tuple") (U := "int") (by decide) ⟨_, ho, rfl⟩ (fun s' => typeIs_int s' 1 t) noFill_tuple_mul F.fills_int_mul F.slot_int_rmul repeat_tuple F.slot_int_index.lookup
      (call_meets F.slot_int_rmul (typeIs_int s 1 t) F.entry_int_rmul (F.args_int_rmul_2 _ _) (int_rmul_tuple 1 t l its.toArray n dd sl)
        ⟨ho, rfl, ⟨_, ho, rfl⟩, call_meets F.slot_tuple_mul ⟨_, ho, rfl⟩ F.entry_tuple_mul (F.args_tuple_mul_2 _ _) (tuple_mul1 l its.toArray n dd sl t) ⟨ho, ?_⟩⟩)
    exact ⟨.ref l, H, I, rfl, q1 rfl⟩
  · refine wpAny_binaryOp_repeat_ref (T := "tuple") (U := "int") (by decide) ⟨_, ho, rfl⟩ (fun s' => typeIs_int s' 0 t) noFill_tuple_mul F.fills_int_mul F.slot_int_rmul repeat_tuple F.slot_int_index.lookup
      (call_meets F.slot_int_rmul (typeIs_int s 0 t) F.entry_int_rmul (F.args_int_rmul_2 _ _) (int_rmul_tuple 0 t l its.toArray n dd sl)
        ⟨ho, rfl, ⟨_, ho, rfl⟩, call_meets F.slot_tuple_mul ⟨_, ho, rfl⟩ F.entry_tuple_mul (F.args_tuple_mul_2 _ _) (tuple_mul0 l its.toArray n dd sl t hi) ⟨ho, ?_⟩⟩)
    refine ⟨.ref s.heap.objs.size, _, I.laid (t' := s.toks) (o := .tup []) (fun b ob q => Heap.get?_push_of_some _ q) (Nat.le_refl _) ?_, rfl, q2 (by decide) _ (I.hok.fresh (Nat.le_refl _))⟩
    exact ⟨Nat.zero_le _, [], .nil, IsTup.new _ _⟩
end L2
namespace DL
open PySem PySem.Spec PyProof.Rows L2
section
variable {X : Cx} {pos : Pos}
def dC (d : D) : DE := fun δ Q => Q d δ
theorem monoC {d : D} : MonoE (dC d) := fun δ Q Q' h q => h _ _ q
theorem pv_of {e : Expr} {v : V} {d : D} (h : PE X e (tC v)) (r : ∀ k F, Rp k F v d) : PV X e (dC d) :=
  ⟨monoC, fun g => PE.mono h fun σ H Q ⟨δ, F, R, q⟩ => q v H F (Same.refl _) R (r _ _)⟩
theorem pv_int {i j p} : PV X (.Constant (.int i) j p) (dC (.int i)) := pv_of pe_int fun _ _ => .int i
theorem pv_bl {b j p} : PV X (.Constant (.bool b) j p) (dC (.bl b)) := pv_of pe_bl fun _ _ => .bl b
theorem pv_non {j p} : PV X (.Constant .none j p) (dC .non) := pv_of pe_non fun _ _ => .non
theorem pv_str {x j p} : PV X (.Constant (.str x) j p) (dC (.str x)) := pv_of pe_str fun _ _ => .str x
theorem pv_globI {x : Str} {i : Int} (hg : Gl X x) (hm : ∃ t, X.mg x = some (.int i t)) (hd : (x == ("__debug__" : Str)) = false := by decide) : PV X (.Name x pos) (dC (.int i)) := by
  obtain ⟨t, hm⟩ := hm
  exact pv_of (v := .int i) (pe_glob hg hm ⟨t, rfl⟩ hd) fun _ _ => .int i
def frzS (δ : DS) (i : Nat) : Sl → DS
  | .val _ => δ
  | .own c => δ.set i (some (.val c.frz))
def dVar (i : Nat) : DE := fun δ Q => ∃ s, δ[i]? = some (some s) ∧ Q s.top (frzS δ i s)
theorem monoVar {i : Nat} : MonoE (dVar i) := fun δ Q Q' h ⟨s, e, q⟩ => ⟨s, e, h _ _ q⟩
theorem le_var {g : Gh} {i : Nat} {σ : St} {H : Hp} {Q : VK} (h : LE g (dVar i) σ H Q) : tVar i σ H Q := by
  obtain ⟨δ, F, R, s, hs, q⟩ := h
  cases s with
  | val d =>
    obtain ⟨v, e, r⟩ := R.val i d hs
    exact ⟨v, e, q v H F (Same.refl _) R r⟩
  | own c =>
    obtain ⟨p, o, e, hp, hf, _, R', r⟩ := R.frzAt hs
    exact ⟨_, e, q _ H _ (same_upd hf) R' r⟩
theorem pv_n (i : Nat) {x : Str} (hN : X.N[i]? = some x := by rfl) (hv : Vis X.env.scope x := by first | exact Or.inl rfl | exact Or.inr (Or.inl rfl) | exact Or.inr (Or.inr rfl)) (hd : (x == ("__debug__" : Str)) = false := by decide)
    (hcd : (x == ("__classdict__" : Str)) = false := by decide) : PV X (.Name x pos) (dVar i) := ⟨monoVar, fun g => PE.mono (pv i hN hv hd hcd) fun σ H Q h => le_var h⟩
inductive Od where
  | v (t : DE)
  | n (i : Nat)
def Od.ev : Od → DE
  | .v t => t
  | .n i => fun δ Q => ∃ s, δ[i]? = some (some s) ∧ Q s.top δ
def Od.fin : Od → D → DS → (D → Prop) → Prop
  | .v _, d, _, K => K d
  | .n i, _, δ, K => ∃ s, δ[i]? = some (some s) ∧ K s.top
def Od.ok (g : Gh) (σ : St) (F' : Hp) (v : V) (d : D) : Od → Prop
  | .v _ => Rp g.dk F' v d
  | .n i => σ[i]? = some (some v)
def LO (g : Gh) (o : Od) : TE := fun σ H Q => ∃ δ F, Rl g δ σ H F ∧ o.ev δ fun d δ' => ∀ v H' F', Same F F' → Rl g δ' σ H' F' → o.ok g σ F' v d → Q v H'
structure POd (X : Cx) (e : Expr) (o : Od) : Prop where
  mono : MonoE o.ev
  run : ∀ g, PE X e (LO g o)
theorem od_v {e : Expr} {t : DE} (h : PV X e t) : POd X e (.v t) := ⟨h.mono, h.run⟩
theorem od_n (i : Nat) {x : Str} (hN : X.N[i]? = some x := by rfl) (hv : Vis X.env.scope x := by first | exact Or.inl rfl | exact Or.inr (Or.inl rfl) | exact Or.inr (Or.inr rfl)) (hd : (x == ("__debug__" : Str)) = false := by decide)
    (hcd : (x == ("__classdict__" : Str)) = false := by decide) : POd X (.Name x pos) (.n i) :=
  ⟨fun δ Q Q' h ⟨s, e, q⟩ => ⟨s, e, h _ _ q⟩, fun g => PE.mono (pv i hN hv hd hcd) fun σ H Q ⟨δ, F, R, s, e, q⟩ => by
    obtain ⟨v, hv⟩ := R.there e
    exact ⟨v, hv, q v H F (Same.refl _) R hv⟩⟩
theorem Od.top {g : Gh} {o : Od} {σ : St} {F F' H' : Hp} {δ' : DS} {v : V} {d : D} {K : D → Prop} (s : Same F F') (R : Rl g δ' σ H' F') (ok : o.ok g σ F v d) (h : o.fin d δ' K) : ∃ d', RpTop g.dk F' H' v d' ∧ K d' := by
  cases o with
  | v t => exact ⟨d, .inl (Rp.mono s ok), h⟩
  | n i =>
    obtain ⟨sl, e, q⟩ := h
    exact ⟨_, R.top e ok, q⟩
abbrev DOp := D → D → (D → Prop) → Prop
def MonoO (op : DOp) : Prop := ∀ a b (K K' : D → Prop), (∀ d, K d → K' d) → op a b K → op a b K'
def rD (op : DOp) : R2 := fun x y H Q => ∃ g δ σ F a b, Rl g δ σ H F ∧ RpTop g.dk F H x a ∧ RpTop g.dk F H y b ∧ op a b fun d => RQ g σ F Q d δ
def dOp (op : DOp) (a b : Od) : DE := fun δ Q => a.ev δ fun x δ1 => b.ev δ1 fun y δ2 => a.fin x δ2 fun x' => b.fin y δ2 fun y' => op x' y' fun d => Q d δ2
theorem Od.finMono {o : Od} {d : D} {δ : DS} {K K' : D → Prop} (h : ∀ d, K d → K' d) (q : o.fin d δ K) : o.fin d δ K' := by
  cases o with
  | v t => exact h _ q
  | n i => obtain ⟨s, e, q⟩ := q; exact ⟨s, e, h _ q⟩
theorem monoOp {op : DOp} {a b : Od} (mo : MonoO op) (ma : MonoE a.ev) (mb : MonoE b.ev) : MonoE (dOp op a b) := fun δ Q Q' h q =>
  ma _ _ _ (fun x δ1 q1 => mb _ _ _ (fun y δ2 q2 => Od.finMono (fun x' q3 => Od.finMono (fun y' q4 => mo _ _ _ _ (fun d q5 => h d _ q5) q4) q3) q2) q1) q
theorem le_op {op : DOp} {g : Gh} {a b : Od} {ea eb : Expr} (mo : MonoO op) (ha : POd X ea a) (hb : POd X eb b) {σ : St} {H : Hp} {Q : VK} (h : LE g (dOp op a b) σ H Q) : tOp (rD op) (LO g a) (LO g b) σ H Q := by
  obtain ⟨δ, F, R, h⟩ := h
  refine ⟨δ, F, R, ha.mono _ _ _ (fun x δ1 q1 v H1 F1 s1 R1 ok1 => ⟨δ1, F1, R1, hb.mono _ _ _ (fun y δ2 q2 w H2 F2 s2 R2 ok2 => ?_) q1⟩) h⟩
  obtain ⟨x', t1, q3⟩ := Od.top s2 R2 ok1 q2
  obtain ⟨y', t2, q4⟩ := Od.top (Same.refl _) R2 ok2 q3
  exact ⟨g, δ2, σ, F2, x', y', R2, t1, t2, mo _ _ _ _ (fun d q => RQ.weak (s1.trans s2) q) q4⟩
theorem pv_bin {op : Operator} {o : DOp} {a b : Od} {ea eb : Expr} (ho : OpR X (binaryOp op) (rD o) ∧ MonoO o) (ha : POd X ea a) (hb : POd X eb b) : PV X (.BinOp ea op eb pos) (dOp o a b) :=
  ⟨monoOp ho.2 ha.mono hb.mono, fun g => PE.mono (pe_op ho.1 (ha.run g) (hb.run g)) fun σ H Q h => le_op ho.2 ha hb h⟩
theorem pv_cmp {op : CmpOp} {o : DOp} {a b : Od} {ea eb : Expr} (ho : OpR X (compareOp op) (rD o) ∧ MonoO o) (ha : POd X ea a) (hb : POd X eb b) (hm : behindInMarks op eb = false) : PV X (.Compare ea [op] [eb] pos) (dOp o a b) :=
  ⟨monoOp ho.2 ha.mono hb.mono, fun g => PE.mono (pe_cmpR ho.1 (ha.run g) (hb.run g) hm) fun σ H Q h => le_op ho.2 ha hb h⟩
def dTst (t : DE) : DT := fun δ Q => t δ fun d δ' => ∃ k, d = .bl k ∧ Q k δ'
theorem monoTst {t : DE} (m : MonoE t) : MonoE (dTst t) := fun δ Q Q' h q => m _ _ _ (fun d δ' ⟨k, e, q⟩ => ⟨k, e, h _ _ q⟩) q
theorem lt_tst {g : Gh} {t : DE} (m : MonoE t) {σ : St} {H : Hp} {Q : Bool → Hp → Prop} (h : LT g (dTst t) σ H Q) : LE g t σ H fun x H' => ∃ k, x = .bl k ∧ Q k H' := by
  obtain ⟨δ, F, R, h⟩ := h
  refine ⟨δ, F, R, m _ _ _ (fun d δ' ⟨k, e, q⟩ v H' F' s R' r => ?_) h⟩
  subst e
  cases r
  exact ⟨k, rfl, q H' F' s R'⟩
theorem pt_v {e : Expr} {t : DE} (h : PV X e t) (he : ∀ whole, isTrue e X.env whole = (do let v ← whole; standAt e.pos; holding [v] (truthy v)) := by intro _; rfl) : PTd X e (dTst t) :=
  ⟨monoTst h.mono, fun g => PT.mono (pt_val (h.run g) he) fun σ H Q q => lt_tst h.mono q⟩
theorem pt_cmp {op : CmpOp} {o : DOp} {a b : Od} {ea eb : Expr} (ho : OpR X (compareOp op) (rD o) ∧ MonoO o) (ha : POd X ea a) (hb : POd X eb b) (hm : behindInMarks op eb = false) : PTd X (.Compare ea [op] [eb] pos) (dTst (dOp o a b)) :=
  ⟨monoTst (monoOp ho.2 ha.mono hb.mono), fun g => PT.mono (pt_cmpR ho.1 (ha.run g) (hb.run g) hm) fun σ H Q h => le_op ho.2 ha hb (lt_tst (monoOp ho.2 ha.mono hb.mono) h)⟩
def dAndT (a b : DT) : DT := fun δ Q => a δ fun c δ1 => if c = true then b δ1 Q else Q false δ1
def dOrT (a b : DT) : DT := fun δ Q => a δ fun c δ1 => if c = true then Q true δ1 else b δ1 Q
def dNotT (a : DT) : DT := fun δ Q => a δ fun c δ1 => Q (!c) δ1
theorem PWd.pt {e : Expr} {t : DT} (h : PWd X e t) : PTd X e t := ⟨h.mono, fun g => (h.run g).pt⟩
theorem mono_ite {c : Prop} [Decidable c] {A B A' B' : Prop} (h1 : A → A') (h2 : B → B') (h : if c then A else B) : if c then A' else B' := by
  split
  · rename_i hc; rw [if_pos hc] at h; exact h1 h
  · rename_i hc; rw [if_neg hc] at h; exact h2 h
theorem monoAndT {a b : DT} (ma : MonoE a) (mb : MonoE b) : MonoE (dAndT a b) := fun δ Q Q' h q => ma _ _ _ (fun c δ1 q => mono_ite (fun q => mb _ _ _ h q) (fun q => h _ _ q) q) q
theorem monoOrT {a b : DT} (ma : MonoE a) (mb : MonoE b) : MonoE (dOrT a b) := fun δ Q Q' h q => ma _ _ _ (fun c δ1 q => mono_ite (fun q => h _ _ q) (fun q => mb _ _ _ h q) q) q
theorem monoNotT {a : DT} (ma : MonoE a) : MonoE (dNotT a) := fun δ Q Q' h q => ma _ _ _ (fun c δ1 q => h _ _ q) q
theorem lt_and {g : Gh} {a b : DT} (ma : MonoE a) (mb : MonoE b) {σ : St} {H : Hp} {Q : Bool → Hp → Prop} (h : LT g (dAndT a b) σ H Q) : tAnd (LT g a) (LT g b) σ H Q := by
  obtain ⟨δ, F, R, h⟩ := h
  refine ⟨δ, F, R, ma _ _ _ (fun c δ1 q H1 F1 s1 R1 => mono_ite (fun q => ⟨δ1, F1, R1, mb _ _ _ (fun _ _ z => RQT.weak s1 z) q⟩) (fun q => q H1 F1 s1 R1) q) h⟩
theorem lt_or {g : Gh} {a b : DT} (ma : MonoE a) (mb : MonoE b) {σ : St} {H : Hp} {Q : Bool → Hp → Prop} (h : LT g (dOrT a b) σ H Q) : tOr (LT g a) (LT g b) σ H Q := by
  obtain ⟨δ, F, R, h⟩ := h
  refine ⟨δ, F, R, ma _ _ _ (fun c δ1 q H1 F1 s1 R1 => mono_ite (fun q => q H1 F1 s1 R1) (fun q => ⟨δ1, F1, R1, mb _ _ _ (fun _ _ z => RQT.weak s1 z) q⟩) q) h⟩
variable {a b : Expr} {rest : List Expr} {ta tb : DT}
theorem pwd_and1 (ha : PTd X a ta) : PWd X (.BoolOp .And [a] pos) ta := ⟨ha.mono, fun g => pw_and1 (ha.run g)⟩
theorem pwd_or1 (ha : PTd X a ta) : PWd X (.BoolOp .Or [a] pos) ta := ⟨ha.mono, fun g => pw_or1 (ha.run g)⟩
theorem pwd_and (ha : PTd X a ta) (hb : PWd X (.BoolOp .And (b :: rest) pos) tb) : PWd X (.BoolOp .And (a :: b :: rest) pos) (dAndT ta tb) :=
  ⟨monoAndT ha.mono hb.mono, fun g => PW.mono (pw_and (ha.run g) (hb.run g)) fun σ H Q h => lt_and ha.mono hb.mono h⟩
theorem pwd_or (ha : PTd X a ta) (hb : PWd X (.BoolOp .Or (b :: rest) pos) tb) : PWd X (.BoolOp .Or (a :: b :: rest) pos) (dOrT ta tb) :=
  ⟨monoOrT ha.mono hb.mono, fun g => PW.mono (pw_or (ha.run g) (hb.run g)) fun σ H Q h => lt_or ha.mono hb.mono h⟩
theorem ptd_not (ha : PTd X a ta) : PTd X (.UnaryOp .Not a pos) (dNotT ta) :=
  ⟨monoNotT ha.mono, fun g => PT.mono (pt_not (ha.run g)) fun σ H Q ⟨δ, F, R, h⟩ => ⟨δ, F, R, h⟩⟩
def dAnd (a b : DE) : DE := fun δ Q => a δ fun d δ1 => ∃ c, d = .bl c ∧ if c = true then b δ1 Q else Q (.bl false) δ1
def dOr (a b : DE) : DE := fun δ Q => a δ fun d δ1 => ∃ c, d = .bl c ∧ if c = true then Q (.bl true) δ1 else b δ1 Q
def dNot (a : DE) : DE := fun δ Q => a δ fun d δ1 => ∃ c, d = .bl c ∧ Q (.bl (!c)) δ1
theorem monoAnd {a b : DE} (ma : MonoE a) (mb : MonoE b) : MonoE (dAnd a b) := fun δ Q Q' h q => ma _ _ _ (fun c δ1 ⟨k, e, q⟩ => ⟨k, e, mono_ite (fun q => mb _ _ _ h q) (fun q => h _ _ q) q⟩) q
theorem monoNot {a : DE} (ma : MonoE a) : MonoE (dNot a) := fun δ Q Q' h q => ma _ _ _ (fun c δ1 ⟨k, e, q⟩ => ⟨k, e, h _ _ q⟩) q
variable {va vb : DE}
theorem pv_and1 {op} (ha : PV X a va) : PV X (.BoolOp op [a] pos) va := ⟨ha.mono, fun g => pe_one (ha.run g)⟩
theorem pv_and (ha : PV X a va) (hb : PV X (.BoolOp .And (b :: rest) pos) vb) : PV X (.BoolOp .And (a :: b :: rest) pos) (dAnd va vb) :=
  ⟨monoAnd ha.mono hb.mono, fun g => PE.mono (pe_and (ha.run g) (hb.run g)) fun σ H Q ⟨δ, F, R, h⟩ => ⟨δ, F, R, ha.mono _ _ _ (fun d δ1 ⟨c, e, q⟩ v H1 F1 s1 R1 r => by
    subst e; cases r
    exact ⟨c, rfl, mono_ite (fun q => ⟨δ1, F1, R1, hb.mono _ _ _ (fun _ _ z => RQ.weak s1 z) q⟩) (fun q => q _ H1 F1 s1 R1 (.bl _)) q⟩) h⟩⟩
theorem pv_not (ha : PV X a va) : PV X (.UnaryOp .Not a pos) (dNot va) :=
  ⟨monoNot ha.mono, fun g => PE.mono (pe_not (ha.run g)) fun σ H Q ⟨δ, F, R, h⟩ => ⟨δ, F, R, ha.mono _ _ _ (fun d δ1 ⟨c, e, q⟩ v H1 F1 s1 R1 r => by
    subst e; cases r
    exact ⟨c, rfl, q _ H1 F1 s1 R1 (.bl _)⟩) h⟩⟩
def dIfE (c : DT) (a b : DE) : DE := fun δ Q => c δ fun k δ1 => if k = true then a δ1 Q else b δ1 Q
theorem monoIfE {c : DT} {a b : DE} (mc : MonoE c) (ma : MonoE a) (mb : MonoE b) : MonoE (dIfE c a b) := fun δ Q Q' h q => mc _ _ _ (fun k δ1 q => mono_ite (fun q => ma _ _ _ h q) (fun q => mb _ _ _ h q) q) q
theorem pv_if {c : Expr} {tc : DT} (hc : PTd X c tc) (ha : PV X a va) (hb : PV X b vb) : PV X (.IfExp c a b pos) (dIfE tc va vb) :=
  ⟨monoIfE hc.mono ha.mono hb.mono, fun g => PE.mono (pe_ifExp (hc.run g) (ha.run g) (hb.run g)) fun σ H Q ⟨δ, F, R, h⟩ => ⟨δ, F, R, hc.mono _ _ _ (fun k δ1 q H1 F1 s1 R1 =>
    mono_ite (fun q => ⟨δ1, F1, R1, ha.mono _ _ _ (fun _ _ z => RQ.weak s1 z) q⟩) (fun q => ⟨δ1, F1, R1, hb.mono _ _ _ (fun _ _ z => RQ.weak s1 z) q⟩) q) h⟩⟩
end
theorem RpTop.int {k : Dk} {F H : Hp} {v : V} {i : Int} (h : RpTop k F H v (.int i)) : v = .int i := by
  rcases h with h | ⟨p, o, c, rfl, _, _, e⟩
  · cases h; rfl
  · cases c <;> cases e
theorem RpTop.bl {k : Dk} {F H : Hp} {v : V} {i : Bool} (h : RpTop k F H v (.bl i)) : v = .bl i := by
  rcases h with h | ⟨p, o, c, rfl, _, _, e⟩
  · cases h; rfl
  · cases c <;> cases e
theorem RpTop.str {k : Dk} {F H : Hp} {v : V} {i : Str} (h : RpTop k F H v (.str i)) : v = .str i := by
  rcases h with h | ⟨p, o, c, rfl, _, _, e⟩
  · cases h; rfl
  · cases c <;> cases e
theorem RpTop.tup {k : Dk} {F H : Hp} {v : V} {ds : List D} (h : RpTop k F H v (.tup ds)) : ∃ a xs, v = .ref a ∧ F a = some (.tup xs) ∧ Rps k F xs ds := by
  rcases h with h | ⟨p, o, c, rfl, _, _, e⟩
  · cases h with
    | tup h1 h2 => exact ⟨_, _, rfl, h1, h2⟩
  · cases c <;> cases e
theorem RpTop.lst {k : Dk} {F H : Hp} {v : V} {ds : List D} (s : Same F H) (h : RpTop k F H v (.lst ds)) : ∃ a xs, v = .ref a ∧ H a = some (.lst xs) ∧ Rps k F xs ds := by
  rcases h with h | ⟨p, o, c, rfl, hp, r, e⟩
  · cases h with
    | lst h1 h2 => exact ⟨_, _, rfl, s _ _ h1, h2⟩
  · cases c with
    | l ds' => cases e; obtain ⟨xs, rfl, r⟩ := r; exact ⟨p, xs, rfl, hp, r⟩
    | d t kvs => cases e
section
variable {X : Cx}
theorem rq_val {g : Gh} {δ : DS} {σ : St} {H F : Hp} {Q : VK} {d : D} {v : V} (R : Rl g δ σ H F) (r : Rp g.dk F v d) (q : RQ g σ F Q d δ) : Q v H := q v H F (Same.refl _) R r
theorem rq_tup {g : Gh} {δ : DS} {σ : St} {H F : Hp} {Q : VK} {ds : List D} {xs : List V} {p : Addr} (R : Rl g δ σ H F) (r : Rps g.dk F xs ds) (hp : H p = none) (q : RQ g σ F Q (.tup ds) δ) : Q (.ref p) (upd H p (.tup xs)) := by
  obtain ⟨R', s⟩ := R.mkF (.tup xs) hp
  exact q _ _ _ s R' (.tup upd_same (r.mono s))
theorem rq_lst {g : Gh} {δ : DS} {σ : St} {H F : Hp} {Q : VK} {ds : List D} {xs : List V} {p : Addr} (R : Rl g δ σ H F) (r : Rps g.dk F xs ds) (hp : H p = none) (q : RQ g σ F Q (.lst ds) δ) : Q (.ref p) (upd H p (.lst xs)) := by
  obtain ⟨R', s⟩ := R.mkF (.lst xs) hp
  exact q _ _ _ s R' (.lst upd_same (r.mono s))
def opAdd : DOp
  | .int i, .int j, K => K (.int (i + j))
  | .tup xs, .tup ys, K => xs.length + ys.length ≤ 16777216 ∧ K (.tup (xs ++ ys))
  | .lst xs, .lst ys, K => xs.length + ys.length ≤ 16777216 ∧ K (.lst (xs ++ ys))
  | .str x, .str y, K => x.length + y.length ≤ 16777216 ∧ K (.str (x ++ y))
  | _, _, _ => False
theorem op_addD : OpR X (binaryOp .Add) (rD opAdd) ∧ MonoO opAdd := by
  refine ⟨fun pins s σ' H x y v u Q I rx ry h => ?_, fun a b K K' m h => ?_⟩
  · obtain ⟨g, δ, σ, F, a, b, R, ra, rb, h⟩ := h
    have z : sizeLine = 16777216 := sizeLine_eq
    cases a <;> cases b <;> first | exact h.elim | skip
    · rename_i i j
      rw [ra.int] at rx
      rw [rb.int] at ry
      exact L2.op_add pins s σ' H _ _ v u Q I rx ry ⟨i, j, rfl, rfl, rq_val R (.int _) h⟩
    · rename_i i j
      rw [ra.str] at rx
      rw [rb.str] at ry
      exact L2.op_add_str pins s σ' H _ _ v u Q I rx ry ⟨i, j, rfl, rfl, by rw [z]; exact h.1, rq_val R (.str _) h.2⟩
    · rename_i ds es
      obtain ⟨p, xs, rfl, hp, r1⟩ := ra.tup
      obtain ⟨q, ys, rfl, hq, r2⟩ := rb.tup
      refine op_catA pins s σ' H _ _ v u Q I rx ry ⟨p, q, xs, ys, rfl, rfl, .of (R.ext.sub _ _ hp), .of (R.ext.sub _ _ hq), by rw [z, r1.length, r2.length]; exact h.1, fun e => ?_, fun e1 e => ?_, fun _ _ l hl => rq_tup R (r1.append r2) hl h.2⟩
      · subst e
        cases r1
        exact rq_val R (.tup hq r2) h.2
      · subst e
        cases r2
        have h2 := h.2
        rw [List.append_nil] at h2
        exact rq_val R (.tup hp r1) h2
    · rename_i ds es
      obtain ⟨p, xs, rfl, hp, r1⟩ := ra.lst R.ext.sub
      obtain ⟨q, ys, rfl, hq, r2⟩ := rb.lst R.ext.sub
      exact op_cat pins s σ' H _ _ v u Q I rx ry ⟨p, q, xs, ys, rfl, rfl, hp, hq, by rw [z, r1.length, r2.length]; exact h.1, fun l hl => rq_lst R (r1.append r2) hl h.2⟩
  · cases a <;> cases b <;> first | exact h.elim | exact m _ h | exact ⟨h.1, m _ h.2⟩
def opSub : DOp
  | .int i, .int j, K => K (.int (i - j))
  | _, _, _ => False
theorem op_subD : OpR X (binaryOp .Sub) (rD opSub) ∧ MonoO opSub := by
  refine ⟨fun pins s σ' H x y v u Q I rx ry h => ?_, fun a b K K' m h => ?_⟩
  · obtain ⟨g, δ, σ, F, a, b, R, ra, rb, h⟩ := h
    cases a <;> cases b <;> first | exact h.elim | skip
    rename_i i j
    rw [ra.int] at rx
    rw [rb.int] at ry
    exact L2.op_sub pins s σ' H _ _ v u Q I rx ry ⟨i, j, rfl, rfl, rq_val R (.int _) h⟩
  · cases a <;> cases b <;> first | exact h.elim | exact m _ h
def MulOk (i j : Int) : Prop := (-(2 ^ 64) < i ∧ i < 2 ^ 64) ∨ (-(2 ^ 64) < j ∧ j < 2 ^ 64) ∨ (i.natAbs < 2 ^ 4000 ∧ j.natAbs < 2 ^ 4000)
def opMul : DOp
  | .int i, .int j, K => MulOk i j ∧ K (.int (i * j))
  | .lst xs, .int n, K => 0 ≤ n ∧ n ≤ 1000 ∧ xs.length ≤ 1000 ∧ K (.lst (List.replicate n.toNat xs).flatten)
  | .tup xs, .int n, K => xs ≠ [] ∧ 0 ≤ n ∧ n ≤ 1000 ∧ xs.length ≤ 1000 ∧ K (.tup (List.replicate n.toNat xs).flatten)
  | _, _, _ => False
theorem op_mulD : OpR X (binaryOp .Mult) (rD opMul) ∧ MonoO opMul := by
  refine ⟨fun pins s σ' H x y v u Q I rx ry h => ?_, fun a b K K' m h => ?_⟩
  · obtain ⟨g, δ, σ, F, a, b, R, ra, rb, h⟩ := h
    have z : sizeLine = 16777216 := sizeLine_eq
    cases a <;> cases b <;> first | exact h.elim | skip
    · rename_i i j
      rw [ra.int] at rx
      rw [rb.int] at ry
      obtain ⟨hm, q⟩ := h
      rcases hm with hm | hm | ⟨h1, h2⟩
      · exact L2.op_mul pins s σ' H _ _ v u Q I rx ry ⟨i, j, rfl, rfl, .inl hm, rq_val R (.int _) q⟩
      · exact L2.op_mul pins s σ' H _ _ v u Q I rx ry ⟨i, j, rfl, rfl, .inr hm, rq_val R (.int _) q⟩
      · exact op_mulW pins s σ' H _ _ v u Q I rx ry ⟨i, j, rfl, rfl, wide_mul h1 h2 (by decide) (by decide) (by decide), rq_val R (.int _) q⟩
    · rename_i ds n
      obtain ⟨p, xs, rfl, hp, r1⟩ := ra.tup
      rw [rb.int] at ry
      obtain ⟨h0, h1, h2, h3, q⟩ := h
      refine op_repT2 pins s σ' H _ _ v u Q I rx ry ⟨p, n, xs, rfl, rfl, .of (R.ext.sub _ _ hp), fun e => ?_, h1, h2, by rw [r1.length]; exact h3, fun e1 => ?_, fun _ l hl => rq_tup R (r1.rep _) hl q⟩
      · subst e; cases r1; exact h0 rfl
      · subst e1
        rw [show (List.replicate (Int.toNat 1) ds).flatten = ds by simp] at q
        exact rq_val R (.tup hp r1) q
    · rename_i ds n
      obtain ⟨p, xs, rfl, hp, r1⟩ := ra.lst R.ext.sub
      rw [rb.int] at ry
      obtain ⟨h0, h1, h2, q⟩ := h
      refine op_rep pins s σ' H _ _ v u Q I rx ry ⟨p, n, xs, rfl, rfl, hp, by omega, by omega, ?_, fun l hl => rq_lst R (r1.rep _) hl q⟩
      rw [z, r1.length]
      exact Nat.le_trans (Nat.mul_le_mul h2 (show n.toNat ≤ 1000 by omega)) (by decide)
  · cases a <;> cases b <;> first | exact h.elim | exact ⟨h.1, m _ h.2⟩ | exact ⟨h.1, h.2.1, h.2.2.1, m _ h.2.2.2⟩ | exact ⟨h.1, h.2.1, h.2.2.1, h.2.2.2.1, m _ h.2.2.2.2⟩
def opMod : DOp
  | .int i, .int j, K => 0 < j ∧ K (.int (i % j))
  | _, _, _ => False
theorem op_modD : OpR X (binaryOp .Mod) (rD opMod) ∧ MonoO opMod := by
  refine ⟨fun pins s σ' H x y v u Q I rx ry h => ?_, fun a b K K' m h => ?_⟩
  · obtain ⟨g, δ, σ, F, a, b, R, ra, rb, h⟩ := h
    cases a <;> cases b <;> first | exact h.elim | skip
    rename_i i j
    rw [ra.int] at rx
    rw [rb.int] at ry
    exact L2.op_mod pins s σ' H _ _ v u Q I rx ry ⟨i, j, rfl, rfl, h.1, rq_val R (.int _) h.2⟩
  · cases a <;> cases b <;> first | exact h.elim | exact ⟨h.1, m _ h.2⟩
def opDiv : DOp
  | .int i, .int j, K => 0 < j ∧ j < 2 ^ 4000 ∧ K (.int (i / j))
  | _, _, _ => False
def opPow : DOp
  | .int i, .int j, K => (0 ≤ j ∧ j ≤ 1000000 ∧ i.natAbs < 2 ^ 64) ∧ K (.int (i ^ j.toNat))
  | _, _, _ => False
theorem op_powD : OpR X (binaryOp .Pow) (rD opPow) ∧ MonoO opPow := by
  refine ⟨fun pins s σ' H x y v u Q I rx ry h => ?_, fun a b K K' m h => ?_⟩
  · obtain ⟨g, δ, σ, F, a, b, R, ra, rb, h⟩ := h
    cases a <;> cases b <;> first | exact h.elim | skip
    rename_i i j
    rw [ra.int] at rx
    rw [rb.int] at ry
    exact L2.op_pow pins s σ' H _ _ v u Q I rx ry ⟨i, j, rfl, rfl, h.1, rq_val R (.int _) h.2⟩
  · cases a <;> cases b <;> first | exact h.elim | exact ⟨h.1, m _ h.2⟩
def opShl : DOp
  | .int i, .int j, K => (0 ≤ j ∧ j ≤ 1000000 ∧ i.natAbs < 2 ^ 64) ∧ K (.int (i * 2 ^ j.toNat))
  | _, _, _ => False
theorem op_shlD : OpR X (binaryOp .LShift) (rD opShl) ∧ MonoO opShl := by
  refine ⟨fun pins s σ' H x y v u Q I rx ry h => ?_, fun a b K K' m h => ?_⟩
  · obtain ⟨g, δ, σ, F, a, b, R, ra, rb, h⟩ := h
    cases a <;> cases b <;> first | exact h.elim | skip
    rename_i i j
    rw [ra.int] at rx
    rw [rb.int] at ry
    exact L2.op_shl pins s σ' H _ _ v u Q I rx ry ⟨i, j, rfl, rfl, h.1, rq_val R (.int _) h.2⟩
  · cases a <;> cases b <;> first | exact h.elim | exact ⟨h.1, m _ h.2⟩
def opCmp (p : Int → Int → Bool) : DOp
  | .int i, .int j, K => K (.bl (p i j))
  | _, _, _ => False
theorem op_cmpD {op : CmpOp} {p : Int → Int → Bool} (h0 : OpR X (compareOp op) (rI0 fun i j => .bl (p i j))) : OpR X (compareOp op) (rD (opCmp p)) ∧ MonoO (opCmp p) := by
  refine ⟨fun pins s σ' H x y v u Q I rx ry h => ?_, fun a b K K' m h => ?_⟩
  · obtain ⟨g, δ, σ, F, a, b, R, ra, rb, h⟩ := h
    cases a <;> cases b <;> first | exact h.elim | skip
    rename_i i j
    rw [ra.int] at rx
    rw [rb.int] at ry
    exact h0 pins s σ' H _ _ v u Q I rx ry ⟨i, j, rfl, rfl, rq_val R (.bl _) h⟩
  · cases a <;> cases b <;> first | exact h.elim | exact m _ h
abbrev opLt : DOp := opCmp fun i j => decide (i < j)
abbrev opLe : DOp := opCmp fun i j => decide (i ≤ j)
abbrev opGt : DOp := opCmp fun i j => decide (j < i)
abbrev opGe : DOp := opCmp fun i j => decide (j ≤ i)
theorem op_ltD : OpR X (compareOp .Lt) (rD opLt) ∧ MonoO opLt := op_cmpD L2.op_lt
theorem op_leD : OpR X (compareOp .LtE) (rD opLe) ∧ MonoO opLe := op_cmpD L2.op_le
theorem op_gtD : OpR X (compareOp .Gt) (rD opGt) ∧ MonoO opGt := op_cmpD L2.op_gt
theorem op_geD : OpR X (compareOp .GtE) (rD opGe) ∧ MonoO opGe := op_cmpD L2.op_ge
end
end DL
namespace DL
open PySem PySem.Spec PyProof.Rows L2
mutual
def D.py : D → PyData
  | .non => .none
  | .bl b => .bool b
  | .int i => .int i
  | .str x => .str x
  | .tup xs => .tuple (pys xs)
  | .lst xs => .list (pys xs)
  | .dct _ _ => .none
  | .dk => .none
def pys : List D → List PyData
  | [] => []
  | x :: r => x.py :: pys r
end
mutual
def D.ok (n : Nat) : D → Bool
  | .non => true
  | .bl _ => true
  | .int _ => true
  | .str x => PyData.strOk x
  | .tup xs => match n with
    | 0 => false
    | m + 1 => oks m xs
  | .lst xs => match n with
    | 0 => false
    | m + 1 => oks m xs
  | .dct _ _ => false
  | .dk => false
def oks (n : Nat) : List D → Bool
  | [] => true
  | x :: r => x.ok n && oks n r
end
theorem pys_map (xs : List D) : pys xs = xs.map D.py := by
  induction xs with
  | nil => simp [pys]
  | cons x r ih => simp [pys, ih]
theorem oks_all (n : Nat) (xs : List D) : oks n xs = xs.all (D.ok n) := by
  induction xs with
  | nil => simp [oks]
  | cons x r ih => simp [oks, ih]
mutual
theorem D.canLay : ∀ (d : D) (n : Nat), d.ok n = true → d.py.canLay0 = true ∧ d.py.depth ≤ n
  | .non, n, _ => by simp [D.py, PyData.canLay0, PyData.depth]
  | .bl _, n, _ => by simp [D.py, PyData.canLay0, PyData.depth]
  | .int _, n, _ => by simp [D.py, PyData.canLay0, PyData.depth]
  | .str x, n, h => by
    have h' : PyData.strOk x = true := by simpa [D.ok] using h
    simp [D.py, PyData.canLay0, PyData.depth, h']
  | .tup xs, 0, h => by simp [D.ok] at h
  | .tup xs, n + 1, h => by
    have h' : oks n xs = true := by simpa [D.ok] using h
    have q := canLays xs n h'
    simp only [D.py, PyData.canLay0, PyData.depth]
    exact ⟨q.1, by omega⟩
  | .lst xs, 0, h => by simp [D.ok] at h
  | .lst xs, n + 1, h => by
    have h' : oks n xs = true := by simpa [D.ok] using h
    have q := canLays xs n h'
    simp only [D.py, PyData.canLay0, PyData.depth]
    exact ⟨q.1, by omega⟩
  | .dct _ _, n, h => by simp [D.ok] at h
  | .dk, n, h => by simp [D.ok] at h
theorem canLays : ∀ (xs : List D) (n : Nat), oks n xs = true → PyData.canLayAll0 (pys xs) = true ∧ PyData.depthAll (pys xs) ≤ n
  | [], n, _ => by simp [pys, PyData.canLayAll0, PyData.depthAll]
  | x :: r, n, h => by
    have h' : x.ok n = true ∧ oks n r = true := by simpa [oks] using h
    have q1 := D.canLay x n h'.1
    have q2 := canLays r n h'.2
    simp only [pys, PyData.canLayAll0, PyData.depthAll]
    exact ⟨by rw [q1.1, q2.1]; rfl, by omega⟩
end
theorem D.shaped {d : D} (h : d.ok 64 = true) : SeqAt.shaped d.py = true := by
  obtain ⟨h1, h2⟩ := D.canLay d 64 h
  unfold SeqAt.shaped
  rw [h1, decide_eq_true h2]; rfl
mutual
theorem Rp.dp {K : PySem.W.Frag} {k : Dk} {F H : Hp} (s : Same F H) : ∀ (d : D) (v : V) (n : Nat), Rp k F v d → d.ok n = true → Dp K H v d.py
  | .non, _, _, r, _ => by cases r; simp only [D.py]; exact .non
  | .bl b, _, _, r, _ => by cases r; simp only [D.py]; exact .bl b
  | .int i, _, _, r, _ => by cases r; simp only [D.py]; exact .int i
  | .str x, _, _, r, _ => by cases r; simp only [D.py]; exact .str x
  | .tup xs, _, 0, _, h => by simp [D.ok] at h
  | .tup xs, _, n + 1, r, h => by
    cases r with
    | tup e q =>
      simp only [D.py]
      exact .tup (.of (s _ _ e)) (Rps.dp s xs _ n q (by simpa [D.ok] using h))
  | .lst xs, _, 0, _, h => by simp [D.ok] at h
  | .lst xs, _, n + 1, r, h => by
    cases r with
    | lst e q =>
      simp only [D.py]
      exact .lst (.of (s _ _ e)) (Rps.dp s xs _ n q (by simpa [D.ok] using h))
  | .dct _ _, _, _, _, h => by simp [D.ok] at h
  | .dk, _, _, _, h => by simp [D.ok] at h
theorem Rps.dp {K : PySem.W.Frag} {k : Dk} {F H : Hp} (s : Same F H) : ∀ (ds : List D) (vs : List V) (n : Nat), Rps k F vs ds → oks n ds = true → DpAll K H vs (pys ds)
  | [], _, _, r, _ => by cases r; simp only [pys]; exact .nil
  | d :: ds, _, n, r, h => by
    cases r with
    | cons r1 r2 =>
      have h' : d.ok n = true ∧ oks n ds = true := by simpa [oks] using h
      simp only [pys]
      exact .cons (Rp.dp s d _ n r1 h'.1) (Rps.dp s ds _ n r2 h'.2)
end
theorem RpTop.dp {K : PySem.W.Frag} {k : Dk} {F H : Hp} (s : Same F H) {v : V} {d : D} {n : Nat} (r : RpTop k F H v d) (h : d.ok n = true) : Dp K H v d.py := by
  rcases r with r | ⟨p, o, c, rfl, hp, r, rfl⟩
  · exact Rp.dp s d v n r h
  · cases c with
    | l ds =>
      obtain ⟨xs, rfl, r⟩ := r
      cases n with
      | zero => simp [Ct.frz, D.ok] at h
      | succ n =>
        have h' : oks n ds = true := by simpa [Ct.frz, D.ok] using h
        simp only [Ct.frz, D.py]
        exact .lst (.of hp) (Rps.dp s ds xs n r h')
    | d t kvs => simp [Ct.frz, D.ok] at h
def D.eqv (a b : D) : Bool := PyData.eqv a.py b.py
section
variable {X : Cx} {pos : Pos}
def opEq : DOp := fun a b K => (∃ x y, a = .str x ∧ b = .str y ∧ K (.bl (decide (x = y)))) ∨ (a.ok 64 = true ∧ b.ok 64 = true ∧ K (.bl (a.eqv b)))
def opNe : DOp := fun a b K => (∃ x y, a = .str x ∧ b = .str y ∧ K (.bl (!decide (x = y)))) ∨ (a.ok 64 = true ∧ b.ok 64 = true ∧ K (.bl (!a.eqv b)))
theorem dec_str (x y : Str) : decide (V.str x = V.str y) = decide (x = y) := by
  by_cases h : x = y
  · subst h; simp
  · have : ¬ V.str x = V.str y := fun e => h (by cases e; rfl)
    simp [h, this]
theorem op_eqD (hu : X.A.units + 64 < cLine) : OpR X (compareOp .Eq) (rD opEq) ∧ MonoO opEq := by
  refine ⟨fun pins s σ' H x y v u Q I rx ry h => ?_, fun a b K K' m h => h.imp (fun ⟨x, y, e1, e2, q⟩ => ⟨x, y, e1, e2, m _ q⟩) fun h => ⟨h.1, h.2.1, m _ h.2.2⟩⟩
  obtain ⟨g, δ, σ, F, a, b, R, ra, rb, ⟨z, w, rfl, rfl, q⟩ | ⟨h1, h2, q⟩⟩ := h
  · have e1 := RpTop.str ra
    have e2 := RpTop.str rb
    subst e1 e2
    exact L2.op_eq pins s σ' H _ _ v u Q I rx ry ⟨rfl, by rw [dec_str]; exact rq_val R (.bl _) q⟩
  · exact L2.op_eqD hu pins s σ' H x y v u Q I rx ry ⟨a.py, b.py, ra.dp R.ext.sub h1, rb.dp R.ext.sub h2, D.shaped h1, D.shaped h2, rq_val R (.bl _) q⟩
theorem op_neD (hu : X.A.units + 64 < cLine) : OpR X (compareOp .NotEq) (rD opNe) ∧ MonoO opNe := by
  refine ⟨fun pins s σ' H x y v u Q I rx ry h => ?_, fun a b K K' m h => h.imp (fun ⟨x, y, e1, e2, q⟩ => ⟨x, y, e1, e2, m _ q⟩) fun h => ⟨h.1, h.2.1, m _ h.2.2⟩⟩
  obtain ⟨g, δ, σ, F, a, b, R, ra, rb, ⟨z, w, rfl, rfl, q⟩ | ⟨h1, h2, q⟩⟩ := h
  · have e1 := RpTop.str ra
    have e2 := RpTop.str rb
    subst e1 e2
    exact L2.op_ne pins s σ' H _ _ v u Q I rx ry ⟨rfl, by rw [dec_str]; exact rq_val R (.bl _) q⟩
  · exact L2.op_neD hu pins s σ' H x y v u Q I rx ry ⟨a.py, b.py, ra.dp R.ext.sub h1, rb.dp R.ext.sub h2, D.shaped h1, D.shaped h2, rq_val R (.bl _) q⟩
def D.isNon : D → Bool
  | .non => true
  | _ => false
theorem RpTop.isNon {k : Dk} {F H : Hp} {v : V} {d : D} (r : RpTop k F H v d) : decide (v = .non) = d.isNon := by
  rcases r with r | ⟨p, o, c, rfl, _, _, rfl⟩
  · cases r <;> rfl
  · cases c <;> rfl
def opIsN : DOp
  | a, .non, K => K (.bl a.isNon)
  | _, _, _ => False
def opNotN : DOp
  | a, .non, K => K (.bl (!a.isNon))
  | _, _, _ => False
theorem op_isND : OpR X (compareOp .Is) (rD opIsN) ∧ MonoO opIsN := by
  refine ⟨fun pins s σ' H x y v u Q I rx ry h => ?_, fun a b K K' m h => ?_⟩
  · obtain ⟨g, δ, σ, F, a, b, R, ra, rb, h⟩ := h
    cases b <;> first | exact h.elim | skip
    have e : y = .non := by
      rcases rb with rb | ⟨p, o, c, _, _, _, e⟩
      · cases rb; rfl
      · cases c <;> cases e
    subst e
    refine L2.op_isN pins s σ' H _ _ v u Q I rx ry ⟨rfl, ?_⟩
    rw [ra.isNon]
    exact rq_val R (.bl _) h
  · cases b <;> first | exact h.elim | exact m _ h
theorem op_notND : OpR X (compareOp .IsNot) (rD opNotN) ∧ MonoO opNotN := by
  refine ⟨fun pins s σ' H x y v u Q I rx ry h => ?_, fun a b K K' m h => ?_⟩
  · obtain ⟨g, δ, σ, F, a, b, R, ra, rb, h⟩ := h
    cases b <;> first | exact h.elim | skip
    have e : y = .non := by
      rcases rb with rb | ⟨p, o, c, _, _, _, e⟩
      · cases rb; rfl
      · cases c <;> cases e
    subst e
    refine L2.op_notN pins s σ' H _ _ v u Q I rx ry ⟨rfl, ?_⟩
    rw [ra.isNon]
    exact rq_val R (.bl _) h
  · cases b <;> first | exact h.elim | exact m _ h
abbrev DUn := D → (D → Prop) → Prop
def MonoU (op : DUn) : Prop := ∀ a (K K' : D → Prop), (∀ d, K d → K' d) → op a K → op a K'
def rU1 (op : DUn) : V → Hp → VK → Prop := fun x H Q => ∃ g δ σ F a, Rl g δ σ H F ∧ RpTop g.dk F H x a ∧ op a fun d => RQ g σ F Q d δ
def dUn (op : DUn) (a : Od) : DE := fun δ Q => a.ev δ fun x δ1 => op x fun d => Q d δ1
theorem monoUn {op : DUn} {a : Od} (mo : MonoU op) (ma : MonoE a.ev) : MonoE (dUn op a) := fun δ Q Q' h q => ma _ _ _ (fun x δ1 q => mo _ _ _ (fun d q => h _ _ q) q) q
theorem Od.topEv {g : Gh} {o : Od} {σ : St} {F' H' : Hp} {δ : DS} {K : D → DS → Prop} (m : MonoE o.ev) (h : o.ev δ K) : o.ev δ fun d δ' => (∀ i, o = .n i → ∃ s, δ'[i]? = some (some s) ∧ s.top = d) ∧ K d δ' := by
  cases o with
  | v t => exact m _ _ _ (fun d δ' q => ⟨fun i e => (nomatch e), q⟩) h
  | n i =>
    obtain ⟨s, e, q⟩ := h
    exact ⟨s, e, fun j ej => by cases ej; exact ⟨s, e, rfl⟩, q⟩
theorem le_un {op : DUn} {g : Gh} {a : Od} {ea : Expr} (mo : MonoU op) (ha : POd X ea a) {σ : St} {H : Hp} {Q : VK} (h : LE g (dUn op a) σ H Q) : tUn (rU1 op) (LO g a) σ H Q := by
  obtain ⟨δ, F, R, h⟩ := h
  refine ⟨δ, F, R, ha.mono _ _ _ (fun x δ1 q v H1 F1 s1 R1 ok => ?_) (Od.topEv (g := g) (σ := σ) (F' := F) (H' := H) ha.mono h)⟩
  obtain ⟨q0, q⟩ := q
  refine ⟨g, δ1, σ, F1, x, R1, ?_, mo _ _ _ (fun d q => RQ.weak s1 q) q⟩
  cases a with
  | v t => exact .inl ok
  | n i =>
    obtain ⟨s, e, et⟩ := q0 i rfl
    rw [← et]
    exact R1.top e ok
theorem pv_un {op : UnaryOp} {o : DUn} {a : Od} {ea : Expr} (ho : UnR X (unaryOp op) (rU1 o) ∧ MonoU o) (ha : POd X ea a) : PV X (.UnaryOp op ea pos) (dUn o a) :=
  ⟨monoUn ho.2 ha.mono, fun g => PE.mono (pe_un ho.1 (ha.run g)) fun σ H Q h => le_un ho.2 ha h⟩
def opNeg : DUn
  | .int i, K => K (.int (-i))
  | _, _ => False
theorem un_negD : UnR X (unaryOp .USub) (rU1 opNeg) ∧ MonoU opNeg := by
  refine ⟨fun pins s σ' H x v Q I rx h => ?_, fun a K K' m h => ?_⟩
  · obtain ⟨g, δ, σ, F, a, R, ra, h⟩ := h
    cases a <;> first | exact h.elim | skip
    rename_i i
    rw [ra.int] at rx
    exact un_neg pins s σ' H _ v Q I rx ⟨i, rfl, rq_val R (.int _) h⟩
  · cases a <;> first | exact h.elim | exact m _ h
def opIx : DOp
  | .tup xs, .int i, K => ∃ d, atI xs i = some d ∧ K d
  | .lst xs, .int i, K => ∃ d, atI xs i = some d ∧ K d
  | .str z, .int i, K => z.length ≤ 16777216 ∧ ∃ c, atI z.cps.toList i = some c ∧ K (.str ⟨#[c]⟩)
  | _, _, _ => False
theorem Rps.atI {k : Dk} {F : Hp} {vs : List V} {ds : List D} {i : Int} {d : D} (r : Rps k F vs ds) (h : atI ds i = some d) : ∃ v, L2.atI vs i = some v ∧ Rp k F v d := by
  unfold L2.atI at h ⊢
  rw [r.length]
  cases e : ixN ds.length i with
  | none => rw [e] at h; cases h
  | some j =>
    rw [e] at h
    exact r.get h
theorem ix_D : IxR X (rD opIx) ∧ MonoO opIx := by
  refine ⟨fun value slice pins s σ' H x y v u Q I rx ry h hs => ?_, fun a b K K' m h => ?_⟩
  · obtain ⟨g, δ, σ, F, a, b, R, ra, rb, h⟩ := h
    have z : sizeLine = 16777216 := sizeLine_eq
    cases a <;> cases b <;> first | exact h.elim | skip
    · rename_i x i
      rw [rb.int] at ry
      rw [ra.str] at rx
      obtain ⟨hl, c, hc, q⟩ := h
      exact ix_str value slice pins s σ' H _ _ v u Q I rx ry ⟨_, i, c, rfl, rfl, by rw [z]; exact hl, hc, rq_val R (.str _) q⟩ hs
    · rename_i xs i
      rw [rb.int] at ry
      obtain ⟨p, vs, rfl, hp, r⟩ := ra.tup
      obtain ⟨d, hd, q⟩ := h
      obtain ⟨w, hw, rw'⟩ := r.atI hd
      exact ix_tup value slice pins s σ' H _ _ v u Q I rx ry ⟨p, vs, i, w, rfl, rfl, .of (R.ext.sub _ _ hp), hw, rq_val R rw' q⟩ hs
    · rename_i xs i
      rw [rb.int] at ry
      obtain ⟨p, vs, rfl, hp, r⟩ := ra.lst R.ext.sub
      obtain ⟨d, hd, q⟩ := h
      obtain ⟨w, hw, rw'⟩ := r.atI hd
      exact ix_list value slice pins s σ' H _ _ v u Q I rx ry ⟨p, vs, i, w, rfl, rfl, .of hp, hw, rq_val R rw' q⟩ hs
  · cases a <;> cases b <;> first | exact h.elim | (obtain ⟨d, e, q⟩ := h; exact ⟨d, e, m _ q⟩) | (obtain ⟨l, d, e, q⟩ := h; exact ⟨l, d, e, m _ q⟩)
theorem pv_ix {o : DOp} {a b : Od} {ea eb : Expr} (ho : IxR X (rD o) ∧ MonoO o) (ha : POd X ea a) (hb : POd X eb b) (hs : PlainIx eb := by exact fun _ _ => rfl) : PV X (.Subscript ea eb pos) (dOp o a b) :=
  ⟨monoOp ho.2 ha.mono hb.mono, fun g => PE.mono (pe_ix ho.1 (ha.run g) (hb.run g) hs) fun σ H Q h => le_op ho.2 ha hb h⟩
def cutD {α : Type} (xs : List α) (lo hi : Option Int) : List α := (xs.drop (HT.sIx xs.length 0 lo)).take (HT.sIx xs.length xs.length hi - HT.sIx xs.length 0 lo)
abbrev DO1 := DS → (Option Int → DS → Prop) → Prop
def dNoP : DO1 := fun δ Q => Q none δ
def dPart (t : DE) : DO1 := fun δ Q => t δ fun d δ' => ∃ i, d = .int i ∧ Q (some i) δ'
def RQO (g : Gh) (σ : St) (F : Hp) (Q : Option Int → Hp → Prop) (d : Option Int) (δ' : DS) : Prop := ∀ H' F', Same F F' → Rl g δ' σ H' F' → Q d H'
def LOp (g : Gh) (t : DO1) : TO := fun σ H Q => ∃ δ F, Rl g δ σ H F ∧ t δ (RQO g σ F Q)
structure POp (X : Cx) (e : Option Expr) (t : DO1) : Prop where
  mono : MonoE t
  run : ∀ g, PO X e (LOp g t)
theorem PO.mono {e : Option Expr} {t t' : TO} (h : PO X e t) (i : ∀ σ H Q, t' σ H Q → t σ H Q) : PO X e t' := ⟨fun pins s σ H Q I q => h.run pins s σ H Q I (i σ H Q q)⟩
theorem op_none : POp X none dNoP := ⟨fun δ Q Q' h q => h _ _ q, fun g => PO.mono po_none fun σ H Q ⟨δ, F, R, q⟩ => q H F (Same.refl _) R⟩
theorem op_some {e : Expr} {t : DE} (h : PV X e t) : POp X (some e) (dPart t) :=
  ⟨fun δ Q Q' k q => h.mono _ _ _ (fun d δ' ⟨i, e, q⟩ => ⟨i, e, k _ _ q⟩) q, fun g => PO.mono (po_some (h.run g)) fun σ H Q ⟨δ, F, R, q⟩ =>
    ⟨δ, F, R, h.mono _ _ _ (fun d δ' ⟨i, e, q⟩ v H' F' s R' r => by subst e; cases r; exact ⟨i, rfl, q H' F' s R'⟩) q⟩⟩
def opSl (lo hi : Option Int) : DUn
  | .tup xs, K => K (.tup (cutD xs lo hi))
  | .lst xs, K => K (.lst (cutD xs lo hi))
  | .str z, K => z.length ≤ 16777216 ∧ K (.str (cutS z lo hi))
  | _, _ => False
theorem Rps.cut {k : Dk} {F : Hp} {vs : List V} {ds : List D} (r : Rps k F vs ds) (lo hi : Option Int) : Rps k F (cutV vs lo hi) (cutD ds lo hi) := by
  unfold cutV cutD
  rw [r.length]
  exact (r.drop _).take _
def dSl (a : Od) (l u : DO1) : DE := fun δ Q => a.ev δ fun x δ1 => l δ1 fun lo δ2 => u δ2 fun hi δ3 => a.fin x δ3 fun x' => opSl lo hi x' fun d => Q d δ3
theorem monoSl1 {lo hi : Option Int} : MonoU (opSl lo hi) := fun a K K' m h => by
  cases a <;> first | exact h.elim | exact m _ h | exact ⟨h.1, m _ h.2⟩
theorem monoSl {a : Od} {l u : DO1} (ma : MonoE a.ev) (ml : MonoE l) (mu : MonoE u) : MonoE (dSl a l u) := fun δ Q Q' h q =>
  ma _ _ _ (fun x δ1 q => ml _ _ _ (fun lo δ2 q => mu _ _ _ (fun hi δ3 q => Od.finMono (fun x' q => monoSl1 _ _ _ (fun d q => h _ _ q) q) q) q) q) q
def rSlD (X : Cx) : V → Option Int → Option Int → Hp → VK → Prop := fun x lo hi H Q => ∃ g δ σ F a, Rl g δ σ H F ∧ RpTop g.dk F H x a ∧ opSl lo hi a fun d => RQ g σ F Q d δ
theorem sl_D : SlR X (rSlD X) := by
  intro pins s σ' H x v vl vu lo hi sl Q I rx hs pl pu h
  obtain ⟨g, δ, σ, F, a, R, ra, h⟩ := h
  have z : sizeLine = 16777216 := sizeLine_eq
  cases a <;> first | exact h.elim | skip
  · rw [ra.str] at rx
    exact sl_str pins s σ' H _ v vl vu lo hi sl Q I rx hs pl pu ⟨_, rfl, by rw [z]; exact h.1, rq_val R (.str _) h.2⟩
  · obtain ⟨p, vs, rfl, hp, r⟩ := ra.tup
    refine sl_tupA pins s σ' H _ v vl vu lo hi sl Q I rx hs pl pu ⟨p, vs, rfl, .of (R.ext.sub _ _ hp), fun hw => ?_, fun _ q hq => rq_tup R (r.cut lo hi) hq h⟩
    rename_i ds
    have e : cutD ds lo hi = ds := by
      unfold cutD
      rw [← r.length, hw.1, hw.2, List.drop_zero, r.length]
      exact List.take_of_length_le (Nat.le_refl _)
    have h' : RQ g σ F Q (.tup (cutD ds lo hi)) δ := h
    rw [e] at h'
    exact rq_val R (.tup hp r) h'
  · obtain ⟨p, vs, rfl, hp, r⟩ := ra.lst R.ext.sub
    exact sl_list pins s σ' H _ v vl vu lo hi sl Q I rx hs pl pu ⟨p, vs, rfl, .of hp, fun q hq => rq_lst R (r.cut lo hi) hq h⟩
theorem pv_sl {a : Od} {ea : Expr} {el eu : Option Expr} {l u : DO1} {p2 : Pos} (ha : POd X ea a) (hl : POp X el l) (hu : POp X eu u) : PV X (.Subscript ea (.Slice el eu none p2) pos) (dSl a l u) :=
  ⟨monoSl ha.mono hl.mono hu.mono, fun g => PE.mono (pe_slice sl_D (ha.run g) (hl.run g) (hu.run g)) fun σ H Q ⟨δ, F, R, h⟩ =>
    ⟨δ, F, R, ha.mono _ _ _ (fun x δ1 q v H1 F1 s1 R1 ok => ⟨δ1, F1, R1, hl.mono _ _ _ (fun lo δ2 q H2 F2 s2 R2 => ⟨δ2, F2, R2, hu.mono _ _ _ (fun hi δ3 q H3 F3 s3 R3 => by
      obtain ⟨x', t, q⟩ := Od.top (s2.trans s3) R3 ok q
      exact ⟨g, δ3, σ, F3, x', R3, t, monoSl1 _ _ _ (fun d q => RQ.weak ((s1.trans s2).trans s3) q) q⟩) q⟩) q⟩) h⟩⟩
def dA0 : DA := fun δ Q => Q [] δ
def dAc (t : DE) (r : DA) : DA := fun δ Q => t δ fun d δ1 => r δ1 fun ds δ2 => Q (d :: ds) δ2
theorem pad_nil : PAd X [] dA0 := ⟨fun δ Q Q' h q => h _ _ q, fun g => PA.mono pa_nil fun σ H Q ⟨δ, F, R, q⟩ => q [] H F (Same.refl _) R .nil⟩
theorem pad_cons {e : Expr} {es : List Expr} {t : DE} {r : DA} (he : PV X e t) (hr : PAd X es r) (hs : starEach (e :: es) X.env = (false, eval e X.env) :: starEach es X.env := by rfl) : PAd X (e :: es) (dAc t r) :=
  ⟨fun δ Q Q' h q => he.mono _ _ _ (fun d δ1 q => hr.mono _ _ _ (fun ds δ2 q => h _ _ q) q) q, fun g => PA.mono (pa_cons (he.run g) (hr.run g) hs) fun σ H Q ⟨δ, F, R, h⟩ =>
    ⟨δ, F, R, he.mono _ _ _ (fun d δ1 q v H1 F1 s1 R1 r1 => ⟨δ1, F1, R1, hr.mono _ _ _ (fun ds δ2 q vs H2 F2 s2 R2 r2 => q (v :: vs) H2 F2 (s1.trans s2) R2 (.cons (r1.mono s2) r2)) q⟩) h⟩⟩
def dTup (a : DA) : DE := fun δ Q => a δ fun ds δ' => ds.length ≤ 1000000 ∧ Q (.tup ds) δ'
theorem pv_tup {es : List Expr} {a : DA} {x1} (h : PAd X es a) : PV X (.Tuple es x1 pos) (dTup a) :=
  ⟨fun δ Q Q' k q => h.mono _ _ _ (fun ds δ' q => ⟨q.1, k _ _ q.2⟩) q, fun g => PE.mono (pe_tup (h.run g)) fun σ H Q ⟨δ, F, R, q⟩ =>
    ⟨δ, F, R, h.mono _ _ _ (fun ds δ' q vs H' F' s R' r => ⟨by rw [r.length, sizeLine_eq]; have := q.1; omega, fun p hp => rq_tup R' r hp (RQ.weak s q.2)⟩) q⟩⟩
theorem rl_own {g : Gh} {δ : DS} {σ : St} {H F : Hp} {Q : VK} {ds : List D} {xs : List V} {p : Addr} (R : Rl g δ σ H F) (r : Rps g.dk F xs ds) (hp : H p = none) (q : RQL g σ F Q (.l ds) δ) : Q (.ref p) (upd H p (.lst xs)) :=
  q p _ _ F (Same.refl _) (R.lay _ hp) upd_same ⟨xs, rfl, r⟩ (R.ext.fnone hp) (R.ext.bnone hp) (R.apart hp)
def dLst (a : DA) : DL' := fun δ Q => a δ fun ds δ' => ds.length ≤ 1000000 ∧ Q (.l ds) δ'
theorem pl_lst {es : List Expr} {a : DA} (h : PAd X es a) : PL X (.List es pos) (dLst a) :=
  ⟨fun δ Q Q' k q => h.mono _ _ _ (fun ds δ' q => ⟨q.1, k _ _ q.2⟩) q, fun g => PE.mono (pe_lst (h.run g)) fun σ H Q ⟨δ, F, R, q⟩ =>
    ⟨δ, F, R, h.mono _ _ _ (fun ds δ' q vs H' F' s R' r => ⟨by rw [r.length, sizeLine_eq]; have := q.1; omega, fun p hp => rl_own R' r hp (RQL.weak s q.2)⟩) q⟩⟩
def dFrz (t : DL') : DE := fun δ Q => t δ fun c δ' => Q c.frz δ'
theorem Rl.frzNew {g : Gh} {δ : DS} {σ : St} {H F : Hp} (R : Rl g δ σ H F) {p : Addr} {o : HO} {c : Ct} (hp : H p = some o) (r : CtOk g.dk F o c) (hf : F p = none) (hb : g.B p = none) (ap : Apart δ σ p) :
    Rl g δ σ H (upd F p o) ∧ Same F (upd F p o) ∧ Rp g.dk (upd F p o) (.ref p) c.frz := by
  have s := same_upd (o := o) hf
  refine ⟨⟨R.ext.frz hp hb hf, R.len, fun j e h => ?_, fun j c1 h => ?_, R.dif⟩, s, (r.mono s).rp upd_same⟩
  · obtain ⟨v, e2, r2⟩ := R.val j e h
    exact ⟨v, e2, r2.mono s⟩
  · obtain ⟨q, u, e2, hq, r2, f2, b2⟩ := R.own j c1 h
    have hne : q ≠ p := fun e => by subst e; exact ap j c1 h e2
    exact ⟨q, u, e2, hq, r2.mono s, by rw [upd_ne hne]; exact f2, b2⟩
theorem pv_frz {e : Expr} {t : DL'} (h : PL X e t) : PV X e (dFrz t) :=
  ⟨fun δ Q Q' k q => h.mono _ _ _ (fun c δ' q => k _ _ q) q, fun g => PE.mono (h.run g) fun σ H Q ⟨δ, F, R, q⟩ =>
    ⟨δ, F, R, h.mono _ _ _ (fun c δ' q p o H' F' s R' hp r hf hb ap => by
      obtain ⟨R2, s2, r2⟩ := R'.frzNew hp r hf hb ap
      exact q _ H' _ (s.trans s2) R2 r2) q⟩⟩
abbrev DSp := List D → (D → Prop) → Prop
def LSp (sp : DSp) : Sp := fun vs H Q _ => ∃ k F ds, Same F H ∧ (∀ a, isDk k a → F a = none) ∧ DkOk k H ∧ Rps k F vs ds ∧ sp ds fun d => ∀ v H' F', Ext k F H F' H' → Rp k F' v d → Q v H'
def dCall (sp : DSp) (a : DA) : DE := fun δ Q => a δ fun ds δ' => sp ds fun d => Q d δ'
def MonoSp (sp : DSp) : Prop := ∀ ds (K K' : D → Prop), (∀ d, K d → K' d) → sp ds K → sp ds K'
theorem le_call {sp : DSp} {a : DA} {g : Gh} {es : List Expr} (ms : MonoSp sp) (ha : PAd X es a) {σ : St} {H : Hp} {Q : VK} {E : XK} (h : LE g (dCall sp a) σ H Q) : tCall (LSp sp) [] E (LA g a) σ H Q := by
  obtain ⟨δ, F, R, h⟩ := h
  refine ⟨δ, F, R, ha.mono _ _ _ (fun ds δ' q vs H1 F1 s1 R1 r => ?_) h⟩
  show LSp sp (vs ++ []) H1 Q E
  rw [List.append_nil]
  exact ⟨g.dk, F1, ds, R1.ext.sub, R1.ext.fdk, R1.ext.dko, r, ms _ _ _ (fun d q v H' F' x r' => q v H' F' (s1.trans x.old) (R1.grow x) r') q⟩
abbrev DB := List D → (D → Prop) → Prop
def dB (op : DB) (a : DA) : DE := fun δ Q => a δ fun ds δ' => op ds fun d => Q d δ'
section
variable {x : Str} {p : Pos} {e : Expr} {es : List Expr} {a : DA} {id T : String} {op : DB}
def rB1 (op : DUn) : List V → Hp → VK → Prop := fun xs H Q => ∃ g δ σ F v d, xs = [v] ∧ Rl g δ σ H F ∧ RpTop g.dk F H v d ∧ op d fun d => RQ g σ F Q d δ
theorem le_B1 {op : DUn} {g : Gh} {a : Od} {ea : Expr} (mo : MonoU op) (ha : POd X ea a) {σ : St} {H : Hp} {Q : VK} (h : LE g (dUn op a) σ H Q) : tCB (rB1 op) (tCons (LO g a) tNil) σ H Q := by
  obtain ⟨δ, F, R, h⟩ := h
  refine ⟨δ, F, R, ha.mono _ _ _ (fun x δ1 q v H1 F1 s1 R1 ok => ?_) (Od.topEv (g := g) (σ := σ) (F' := F) (H' := H) ha.mono h)⟩
  obtain ⟨q0, q⟩ := q
  refine ⟨g, δ1, σ, F1, v, x, rfl, R1, ?_, mo _ _ _ (fun d q => RQ.weak s1 q) q⟩
  cases a with
  | v t => exact .inl ok
  | n i =>
    obtain ⟨s, e, et⟩ := q0 i rfl
    rw [← et]
    exact R1.top e ok
variable {o : Od} {u : DUn}
theorem pv_B1 (hc : CallR X (.builtin id) (rB1 u) ∧ MonoU u) (hg : Gl X x) (hm : X.mg x = none) (hv : bootBuiltins x = some (.builtin id)) (ha : POd X e o) (hn : x ≠ "__name__" := by decide) (hdb : (x == ("__debug__" : Str)) = false := by decide)
    (he : starEach [e] X.env = (false, eval e X.env) :: starEach [] X.env := by rfl) : PV X (.Call (.Name x p) [e] [] pos) (dUn u o) :=
  ⟨monoUn hc.2 ha.mono, fun g => PE.mono (pe_callB hc.1 hg hm hv (pa_cons (ha.run g) pa_nil he) hn hdb he rfl) fun σ H Q h => le_B1 hc.2 ha h⟩
theorem pv_T1 (hc : CallR X (.type T) (rB1 u) ∧ MonoU u) (hg : Gl X x) (hm : X.mg x = none) (hv : bootBuiltins x = some (.type T)) (ha : POd X e o) (hn : x ≠ "__name__" := by decide) (hdb : (x == ("__debug__" : Str)) = false := by decide)
    (he : starEach [e] X.env = (false, eval e X.env) :: starEach [] X.env := by rfl) : PV X (.Call (.Name x p) [e] [] pos) (dUn u o) :=
  ⟨monoUn hc.2 ha.mono, fun g => PE.mono (pe_callTy hc.1 hg hm hv (pa_cons (ha.run g) pa_nil he) hn hdb he rfl) fun σ H Q h => le_B1 hc.2 ha h⟩
end
def opLen : DUn
  | .tup xs, K => K (.int xs.length)
  | .lst xs, K => K (.int xs.length)
  | .str z, K => z.length ≤ 16777216 ∧ K (.int z.length)
  | _, _ => False
theorem b_len : CallR X (.builtin "len") (rB1 opLen) ∧ MonoU opLen := by
  refine ⟨fun pins s σ' H xs us Q I r h => ?_, fun a K K' m h => ?_⟩
  · obtain ⟨g, δ, σ, F, v, d, rfl, R, t, h⟩ := h
    have z : sizeLine = 16777216 := sizeLine_eq
    cases d <;> first | exact h.elim | skip
    · cases t.str
      exact call_len_str pins s σ' H _ us Q I r ⟨_, rfl, by rw [z]; exact h.1, rq_val R (.int _) h.2⟩
    · obtain ⟨p, vs, rfl, hp, rr⟩ := t.tup
      refine call_len_seq pins s σ' H _ us Q I r ⟨p, vs, rfl, .inr (.of (R.ext.sub _ _ hp)), ?_⟩
      rw [rr.length]
      exact rq_val R (.int _) h
    · obtain ⟨p, vs, rfl, hp, rr⟩ := t.lst R.ext.sub
      refine call_len_seq pins s σ' H _ us Q I r ⟨p, vs, rfl, .inl (.of hp), ?_⟩
      rw [rr.length]
      exact rq_val R (.int _) h
  · cases a <;> first | exact h.elim | exact m _ h | exact ⟨h.1, m _ h.2⟩
def opTuple : DUn
  | .tup xs, K => K (.tup xs)
  | .lst xs, K => K (.tup xs)
  | _, _ => False
theorem b_tuple : CallR X (.type "tuple") (rB1 opTuple) ∧ MonoU opTuple := by
  refine ⟨fun pins s σ' H xs us Q I r h => ?_, fun a K K' m h => ?_⟩
  · obtain ⟨g, δ, σ, F, v, d, rfl, R, t, h⟩ := h
    cases d <;> first | exact h.elim | skip
    · obtain ⟨p, vs, rfl, hp, rr⟩ := t.tup
      exact call_tuple_of pins s σ' H _ us Q I r ⟨p, vs, rfl, .inr ⟨.of (R.ext.sub _ _ hp), rq_val R (.tup hp rr) h⟩⟩
    · obtain ⟨p, vs, rfl, hp, rr⟩ := t.lst R.ext.sub
      exact call_tuple_of pins s σ' H _ us Q I r ⟨p, vs, rfl, .inl ⟨.of hp, fun l hl => rq_tup R rr hl h⟩⟩
  · cases a <;> first | exact h.elim | exact m _ h
def opInt : DUn
  | .int i, K => K (.int i)
  | .bl b, K => K (.int (if b then 1 else 0))
  | _, _ => False
theorem b_int : CallR X (.type "int") (rB1 opInt) ∧ MonoU opInt := by
  refine ⟨fun pins s σ' H xs us Q I r h => ?_, fun a K K' m h => ?_⟩
  · obtain ⟨g, δ, σ, F, v, d, rfl, R, t, h⟩ := h
    cases d <;> first | exact h.elim | skip
    · cases t.bl
      exact call_int1 pins s σ' H _ us Q I r (.inr ⟨_, rfl, rq_val R (.int _) h⟩)
    · cases t.int
      exact call_int1 pins s σ' H _ us Q I r (.inl ⟨_, rfl, rq_val R (.int _) h⟩)
  · cases a <;> first | exact h.elim | exact m _ h
def opAbs : DUn
  | .int i, K => K (.int (if i < 0 then -i else i))
  | _, _ => False
abbrev DUL := D → (Ct → Prop) → Prop
def MonoUL (op : DUL) : Prop := ∀ a (K K' : Ct → Prop), (∀ d, K d → K' d) → op a K → op a K'
def rBL (op : DUL) : List V → Hp → VK → Prop := fun xs H Q => ∃ g δ σ F v d, xs = [v] ∧ Rl g δ σ H F ∧ RpTop g.dk F H v d ∧ op d fun c => RQL g σ F Q c δ
def dUL (op : DUL) (a : Od) : DL' := fun δ Q => a.ev δ fun x δ1 => op x fun c => Q c δ1
theorem le_BL {op : DUL} {g : Gh} {a : Od} {ea : Expr} (mo : MonoUL op) (ha : POd X ea a) {σ : St} {H : Hp} {Q : VK} (h : LL g (dUL op a) σ H Q) : tCB (rBL op) (tCons (LO g a) tNil) σ H Q := by
  obtain ⟨δ, F, R, h⟩ := h
  refine ⟨δ, F, R, ha.mono _ _ _ (fun x δ1 q v H1 F1 s1 R1 ok => ?_) (Od.topEv (g := g) (σ := σ) (F' := F) (H' := H) ha.mono h)⟩
  obtain ⟨q0, q⟩ := q
  refine ⟨g, δ1, σ, F1, v, x, rfl, R1, ?_, mo _ _ _ (fun d q => RQL.weak s1 q) q⟩
  cases a with
  | v t => exact .inl ok
  | n i =>
    obtain ⟨s, e, et⟩ := q0 i rfl
    rw [← et]
    exact R1.top e ok
section
variable {x : Str} {p : Pos} {e : Expr} {id T : String} {o : Od} {u : DUL}
theorem pl_T (hc : CallR X (.type T) (rBL u) ∧ MonoUL u) (hg : Gl X x) (hm : X.mg x = none) (hv : bootBuiltins x = some (.type T)) (ha : POd X e o) (hn : x ≠ "__name__" := by decide) (hdb : (x == ("__debug__" : Str)) = false := by decide)
    (he : starEach [e] X.env = (false, eval e X.env) :: starEach [] X.env := by rfl) : PL X (.Call (.Name x p) [e] [] pos) (dUL u o) :=
  ⟨fun δ Q Q' h q => ha.mono _ _ _ (fun d δ' q => hc.2 _ _ _ (fun d q => h _ _ q) q) q, fun g => PE.mono (pe_callTy hc.1 hg hm hv (pa_cons (ha.run g) pa_nil he) hn hdb he rfl) fun σ H Q h => le_BL hc.2 ha h⟩
end
def opList : DUL
  | .tup xs, K => K (.l xs)
  | .lst xs, K => K (.l xs)
  | _, _ => False
theorem b_list : CallR X (.type "list") (rBL opList) ∧ MonoUL opList := by
  refine ⟨fun pins s σ' H xs us Q I r h => ?_, fun a K K' m h => ?_⟩
  · obtain ⟨g, δ, σ, F, v, d, rfl, R, t, h⟩ := h
    cases d <;> first | exact h.elim | skip
    · obtain ⟨p, vs, rfl, hp, rr⟩ := t.tup
      exact call_list_of pins s σ' H _ us Q I r ⟨p, vs, rfl, .inr (.of (R.ext.sub _ _ hp)), fun l hl => rl_own R rr hl h⟩
    · obtain ⟨p, vs, rfl, hp, rr⟩ := t.lst R.ext.sub
      exact call_list_of pins s σ' H _ us Q I r ⟨p, vs, rfl, .inl (.of hp), fun l hl => rl_own R rr hl h⟩
  · cases a <;> first | exact h.elim | exact m _ h
end
end DL
namespace DL
open PySem PySem.Spec PyProof.Rows L2
structure RoomG (k : Nat) (A : Around) : Prop where
  r : Room k A
  g : A.guards = some []
theorem RoomG.mono {j k : Nat} {A : Around} (h : RoomG k A) (l : j ≤ k) : RoomG j A := ⟨h.r.mono l, h.g⟩
theorem RoomG.deeper {k : Nat} {A : Around} (h : RoomG (k + 1) A) (env : Env) : RoomG k (A.deeper env) := ⟨h.r.deeper env, h.g⟩
theorem RoomG.units {k : Nat} {A : Around} (h : RoomG k A) : A.units + 64 < cLine := h.r.units
structure FnG (P : Program) (w : World) (K : PySem.W.Frag) (mg : Str → Option Value) (base : Heap) (CX : CXT) (k : Nat) (f : Addr) (fd : FuncData) (ps : List Str) (sp : Sp) : Prop where
  len : ∀ vs H Q E, sp vs H Q E → vs.length = ps.length
  run : ∀ (A : Around) (outer : List Env) (s : Shared) (H : Hp) (args : Args) (us : List Value) (vs : List V) (Q : VK) (E : XK), RoomG k A → Env0 P w K mg base A outer s H →
    BindsTo s fd args (ps.zip us) → Vals vs us → sp vs H Q E → codeAny (model P w) A (.call (.ref f) args) (CR CX outer P w H s Q E) s
theorem FnG.mono {P : Program} {w : World} {K : PySem.W.Frag} {mg : Str → Option Value} {base : Heap} {CX : CXT} {j k : Nat} {f : Addr} {fd : FuncData} {ps : List Str} {sp : Sp} (F : FnG P w K mg base CX j f fd ps sp) (l : j ≤ k) : FnG P w K mg base CX k f fd ps sp :=
  ⟨F.len, fun A outer s H args us vs Q E hr => F.run A outer s H args us vs Q E (hr.mono l)⟩
section
variable {P : Program} {w : World} {K : PySem.W.Frag} {mg : Str → Option Value} {base : Heap}
theorem fnG_ofC {CX : CXT} {x qual : Str} {st : Stmt} {f : Addr} {fd : FuncData} {N ps : List Str} {k : Nat} {sp : Sp} (F : Fun K x qual st f fd) (S : FnScope N ps (defScope st)) (len : ∀ vs H Q E, sp vs H Q E → vs.length = ps.length)
    (hbody : ∀ (A : Around) (outer : List Env) (s : Shared) (H : Hp) (vs : List V) (Q : VK) (E : XK), RoomG k (A.deeper (envOfC qual (defScope st) s.heap.objs.size f fd.code)) → sp vs H Q E →
      ∃ t, PSs (cxOf CX P w K mg base N qual (defScope st) f fd.code A outer s H E) (defBody st) t ∧ t { nx := fun _ H' => Q .non H', rt := Q } (L2.start N vs) H) : FnG P w K mg base CX (k + 1) f fd ps sp := by
  obtain ⟨oc, od, kV, doc, pm, an, cdv, ct, osl, rfl, lk, hcd⟩ := F.ex
  refine ⟨len, fun A outer s H args us vs Q E hr e0 hb r hsp => ?_⟩
  have inS : K.In s.heap := e0.mod.kin.keeps fun b o e => (e0.bs b o e).1
  have noLim : s.heap.NoLimit := e0.mod.nolimit.keeps fun b o e => (e0.bs b o e).1
  have kinds : ∀ y ∈ ps.zip us, (defScope st).names.lookup y.1 = some .local ∨ ((defScope st).names.lookup y.1 = some .cell ∧ ((cellsFrom (s.heap.objs.size + 1) (defScope st).names []).lookup y.1).isSome = true) := by
    rintro ⟨n, v⟩ hy
    exact (S.par n (List.of_mem_zip hy).1).imp id fun q => ⟨q, PySem.W.cellsFrom_some _ _ _ (.inl q)⟩
  refine codeAny_call_function hr.r.depth (inS _ _ lk) rfl S.co S.gen rfl (PySem.W.codeRec_of inS hcd) (hb _ _ _ _ ?_)
  refine wpAny_newFunctionEnv_cells S.kind kinds fun env he s1 x1 => ?_
  subst he
  refine ⟨noLim.keeps x1.toInCall.keep, codeAny_func ?_⟩
  obtain ⟨t, ht, hq⟩ := hbody A outer s H vs Q E (hr.deeper _) hsp
  have J := inv_start (CX := CX) (E := E) S hr.r.hd e0 (len _ _ _ _ hsp) r x1
  refine wpAny_mono (ht.run [] s1 (L2.start N vs) H _ J hq) (fun fl s2 hs => ?_) fun e s2 hs => hs
  cases fl with
  | ret u => obtain ⟨v, σ', H', I, rv, q⟩ := hs; exact ⟨v, H', I.os, I.bare, I.base, I.hok, rv, q⟩
  | next => obtain ⟨σ', H', I, q⟩ := hs; exact ⟨V.non, H', I.os, I.bare, I.base, I.hok, rfl, q⟩
  | brk => obtain ⟨_, _, _, q⟩ := hs; exact q.elim
  | cont => obtain ⟨_, _, _, q⟩ := hs; exact q.elim
theorem fnG_of {CX : CXT} {x qual : Str} {st : Stmt} {f : Addr} {fd : FuncData} {N ps : List Str} {k : Nat} {sp : Sp} (F : Fun K x qual st f fd) (S : FnScope N ps (defScope st)) (len : ∀ vs H Q E, sp vs H Q E → vs.length = ps.length)
    (hbody : ∀ (cdv : Value) (A : Around) (outer : List Env) (s : Shared) (H : Hp) (vs : List V) (Q : VK) (E : XK), RoomG k (A.deeper (envOfC qual (defScope st) s.heap.objs.size f cdv)) → sp vs H Q E →
      ∃ t, PSs (cxOf CX P w K mg base N qual (defScope st) f cdv A outer s H E) (defBody st) t ∧ t { nx := fun _ H' => Q .non H', rt := Q } (L2.start N vs) H) : FnG P w K mg base CX (k + 1) f fd ps sp :=
  fnG_ofC F S len fun A outer s H vs Q E hr h => hbody fd.code A outer s H vs Q E hr h
end
section
variable {P : Program} {w : World} {K : PySem.W.Frag} {mg : Str → Option Value} {base : Heap}
theorem okG {x qual : Str} {st : Stmt} {f : Addr} {fd : FuncData} {N ps : List Str} {k : Nat} {sp : Sp} (F : Fun K x qual st f fd) (S : FnScope N ps (defScope st)) (len : ∀ vs H Q E, sp vs H Q E → vs.length = ps.length)
    (hbody : ∀ (cdv : Value) (A : Around) (outer : List Env) (s : Shared) (H : Hp) (vs : List V) (Q : VK) (E : XK), RoomG k (A.deeper (envOfC qual (defScope st) s.heap.objs.size f cdv)) → sp vs H Q E →
      ∃ t, PSs (cxOf CX0 P w K mg base N qual (defScope st) f cdv A outer s H E).nox (defBody st) t ∧ t { nx := fun _ H' => Q .non H', rt := Q } (L2.start N vs) H) : FnG P w K mg base CX0 (k + 1) f fd ps sp :=
  fnG_of F S len fun cdv A outer s H vs Q E hr h => by
    obtain ⟨t, a, b⟩ := hbody cdv A outer s H vs Q E hr h
    exact ⟨t, a.nox, b⟩
end
section
variable {X : Cx} {CX : CXT} {k : Nat} {f : Addr} {fd : FuncData} {ps : List Str} {sp : Sp} {E : XK} {x : Str} {p pos : Pos} {e : Expr} {es : List Expr} {t : TA}
theorem pe_callG (F : FnG X.prog X.w X.K X.mg X.base CX k f fd ps sp) (hr : RoomG k X.A) (hg : Gl X x) (hm : X.mg x = some (.ref f)) (hk : PySem.W.keepIn X.K (.ref f) = true) (hb : Binds X.K fd ps []) (hx : Passes CX X E)
    (ha : PA X (e :: es) t) (hdb : (x == ("__debug__" : Str)) = false := by decide) (he : starEach (e :: es) X.env = (false, eval e X.env) :: starEach es X.env := by rfl) (hpl : (backTo pos (starEach es X.env)).any (·.1) = false := by rfl) :
    PE X (.Call (.Name x p) (e :: es) [] pos) (tCall sp [] E t) := by
  refine ⟨fun pins s σ H Q I h => wpAny_Call_Name_kw (ld_glob I hg hm ?_ hdb)⟩
  refine PySem.W.callWith_K (h₀ := X.base) I.ok.mod.kin hk (thn (ha.run pos pins s σ H _ I h) fun us s1 ⟨vs, H1, J, r, q⟩ => ⟨J.kIn, ?_⟩) he hpl
  have q : sp (vs ++ []) H1 Q E := q
  rw [List.append_nil] at q
  have hl : us.length = ps.length := by rw [← r.length]; exact F.len _ _ _ _ q
  have hb' := hb s1 us J.kIn (by rw [List.append_nil]; exact hl)
  rw [List.append_nil] at hb'
  refine wpAny_call (codeAny_mono (F.run X.A X.stack s1 H1 ⟨us, []⟩ us vs Q E hr J.env0 hb' r q) fun res s2 hq => ?_)
  cases res with
  | error e => exact hx pins σ H1 s1 e s2 J hq
  | ok fl => cases fl with
    | ret u => exact J.after hq
    | next => exact hq.elim
    | brk => exact hq.elim
    | cont => exact hq.elim
end
section
variable {X : Cx} {pos : Pos} {k : Nat} {f : Addr} {fd : FuncData} {ps : List Str} {sp : DSp} {x : Str} {p : Pos} {e : Expr} {es : List Expr} {a : DA}
theorem pv_call (F : FnG X.prog X.w X.K X.mg X.base CX0 k f fd ps (LSp sp)) (ms : MonoSp sp) (hr : RoomG k X.A) (hg : Gl X x) (hm : X.mg x = some (.ref f)) (hk : PySem.W.keepIn X.K (.ref f) = true) (hb : Binds X.K fd ps [])
    (ha : PAd X (e :: es) a) (hdb : (x == ("__debug__" : Str)) = false := by decide) (he : starEach (e :: es) X.env = (false, eval e X.env) :: starEach es X.env := by rfl) (hpl : (backTo pos (starEach es X.env)).any (·.1) = false := by rfl) :
    PV X (.Call (.Name x p) (e :: es) [] pos) (dCall sp a) :=
  ⟨fun δ Q Q' h q => ha.mono _ _ _ (fun ds δ' q => ms _ _ _ (fun d q => h _ _ q) q) q, fun g => PE.mono (pe_callG F hr hg hm hk hb pass0 (ha.run g) hdb he hpl) fun σ H Q h => le_call ms ha h⟩
end
section
variable {X : Cx}
def D.shw (d : D) : Bool := PyData.showable d.py && decide (d.py.shown.length ≤ 16777216)
def opRepr : DUn := fun d K => d.ok 60 = true ∧ d.shw = true ∧ K (.str d.py.shown)
mutual
theorem noDict_of : ∀ (d : D) (n : Nat), d.ok n = true → d.py.hasDict = false
  | .non, _, _ => by simp [D.py, PyData.hasDict]
  | .bl _, _, _ => by simp [D.py, PyData.hasDict]
  | .int _, _, _ => by simp [D.py, PyData.hasDict]
  | .str _, _, _ => by simp [D.py, PyData.hasDict]
  | .tup xs, 0, h => by simp [D.ok] at h
  | .tup xs, n + 1, h => by simp only [D.py, PyData.hasDict]; exact noDicts_of xs n (by simpa [D.ok] using h)
  | .lst xs, 0, h => by simp [D.ok] at h
  | .lst xs, n + 1, h => by simp only [D.py, PyData.hasDict]; exact noDicts_of xs n (by simpa [D.ok] using h)
  | .dct _ _, _, h => by simp [D.ok] at h
  | .dk, _, h => by simp [D.ok] at h
theorem noDicts_of : ∀ (ds : List D) (n : Nat), oks n ds = true → PyData.hasDictAll (pys ds) = false
  | [], _, _ => by simp [pys, PyData.hasDictAll]
  | d :: ds, n, h => by
    have h' : d.ok n = true ∧ oks n ds = true := by simpa [oks] using h
    simp [pys, PyData.hasDictAll, noDict_of d n h'.1, noDicts_of ds n h'.2]
end
theorem repr_D {k : Nat} (hr : RoomG k X.A) {pins : List (Addr × Obj)} {s : Shared} {σ' : St} {H : Hp} {Q : VK} {g : Gh} {δ : DS} {σ : St} {F : Hp} {d : D} {v : V} {a : Addr} (I : Inv X pins σ' H s) (R : Rl g δ σ H F) (t : RpTop g.dk F H v d) (hv : v = .ref a)
    (h1 : d.ok 60 = true) (h2 : d.shw = true) (q : RQ g σ F Q (.str d.py.shown) δ) : wpAny (model X.prog X.w) X.A (call (.builtin "repr") [.ref a]) (EP X pins σ' Q) X.xe s := by
  have hs : PyData.showable d.py = true ∧ d.py.shown.length ≤ 16777216 := by simpa [D.shw] using h2
  have hd := (D.canLay d 60 h1).2
  have hu := hr.units
  have hz : d.py.shown.length ≤ sizeLine := by rw [sizeLine_eq]; exact hs.2
  subst hv
  obtain ⟨as, rd⟩ := Dp.reads I d.py (.ref a) (.ref a) (t.dp R.ext.sub h1) rfl
  refine repr_of_reads' rd hs.1 (PyData.noDict_hsm (noDict_of d 60 h1)) hr.g (by omega) (fun _ _ e => e) (fun h' u tk hk => ?_) hz
  exact ⟨.str d.py.shown, H, I.kept hk, ⟨_, rfl⟩, rq_val R (.str _) q⟩
theorem b_repr {k : Nat} (hr : RoomG k X.A) : CallR X (.builtin "repr") (rB1 opRepr) ∧ MonoU opRepr := by
  refine ⟨fun pins s σ' H xs us Q I r h => ?_, fun a K K' m h => ⟨h.1, h.2.1, m _ h.2.2⟩⟩
  obtain ⟨g, δ, σ, F, v, d, rfl, R, t, h1, h2, q⟩ := h
  obtain ⟨u, rfl, ru⟩ := vals1 r
  cases d with
  | non =>
    have e : v = .non := by
      rcases t with r | ⟨p, o, c, rfl, _, _, h⟩
      · cases r; rfl
      · cases c <;> cases h
    subst e; cases ru
    exact PySem.P.repr_of_none ⟨.str _, H, I.tok _, ⟨_, rfl⟩, by
      have q' := rq_val R (.str _) q
      rw [show (D.non).py.shown = ("None" : Str) from PyData.shown_none] at q'
      exact q'⟩
  | bl b =>
    have e := t.bl
    subst e; cases ru
    exact PySem.P.repr_of_bool ⟨.str _, H, I.tok _, ⟨_, rfl⟩, by
      have q' := rq_val R (.str _) q
      rw [show (D.bl b).py.shown = (if b then "True" else "False" : Str) from PyData.shown_bool b] at q'
      exact q'⟩
  | int i =>
    have e := t.int
    subst e
    obtain ⟨t, rfl⟩ := ru
    have hs : PyData.showable (.int i) = true ∧ decide ((D.int i).py.shown.length ≤ 16777216) = true := Bool.and_eq_true_iff.mp h2
    exact PySem.P.repr_of_int (by simpa [PyData.showable] using hs.1) ⟨.str _, H, I.tok _, ⟨_, rfl⟩, by
      have q' := rq_val R (.str _) q
      rw [show (D.int i).py.shown = ((toString i : String) : Str) from PyData.shown_int i] at q'
      exact q'⟩
  | str x =>
    have e := t.str
    subst e
    obtain ⟨t, rfl⟩ := ru
    have hs : PyData.showable (.str x) = true ∧ decide ((D.str x).py.shown.length ≤ 16777216) = true := Bool.and_eq_true_iff.mp h2
    have e2 : (D.str x).py.shown = reprText x := PyData.shown_str x
    rw [e2] at hs q
    exact PySem.P.repr_of_str ⟨.str _, H, I.tok _, ⟨_, rfl⟩, rq_val R (.str _) q⟩ (by rw [sizeLine_eq]; exact of_decide_eq_true hs.2)
  | tup xs =>
    obtain ⟨p, vs, e, _, _⟩ := t.tup
    subst e; cases ru
    exact repr_D hr I R t rfl h1 h2 q
  | lst xs =>
    obtain ⟨p, vs, e, _, _⟩ := t.lst R.ext.sub
    subst e; cases ru
    exact repr_D hr I R t rfl h1 h2 q
  | dct t kvs => simp [D.ok] at h1
  | dk => simp [D.ok] at h1
end
end DL
namespace DL
open PySem PySem.Spec PyProof.Rows L2
section
variable {prog : Program} {w : World} {A : Around} {E : Value → Shared → Prop} {s : Shared}
theorem meets_enumerate_newB1 {v : Value} {o : Obj} {H : Heap → Prop} (B : Begins v o H) :
    Meets (Builtin.«enumerate.__new__» ⟨[.type "enumerate", v], []⟩) (fun _ R s => H s.heap ∧
      R (.ok (.ret (.ref (s.heap.push o).objs.size))) { s with heap := (s.heap.push o).push { cls := .type "enumerate", data := .fields #[.none, .bool false, .ref s.heap.objs.size, rawInt 0, .none, .none] } }) :=
  .of_wp fun prog w A R s h => by
    obtain ⟨hp, g, d, tk, os⟩ := s; obtain ⟨h1, h⟩ := h
    have hsub := sub_enumerate
    have q1 : ∀ {A' : Around} {E : Value → Shared → Prop} {Q : Value → Shared → Prop}, Q (.ref hp.objs.size) ⟨hp.push o, g, d, tk, os⟩ → wpAny (model prog w) A' (pyIter v) Q E ⟨hp, g, d, tk, os⟩ :=
      fun q => B.iter prog w _ _ ⟨hp, g, d, tk, os⟩ _ h1 q
    wp_walk using q1
    refine wpAny_stack_any fun st => wpAny_pure ?_
    split
    · rename_i c _ _ _ _ _
      cases (c == Value.type "enumerate")
      · wp_walk using q1
        exact ⟨_, rfl, h⟩
      · wp_walk using q1
        exact ⟨_, rfl, h⟩
    · wp_walk using q1
      exact ⟨_, rfl, h⟩
theorem enum_begins1 {v : Value} {o : Obj} {H : Heap → Prop} {Q : Value → Shared → Prop} (B : Begins v o H) (h1 : H s.heap)
    (h : ∀ h', IsEnum h' (s.heap.objs.size + 1) s.heap.objs.size 0 .none → h'.get? s.heap.objs.size = some o → h'.objs.size = s.heap.objs.size + 2 →
      (∀ b o, s.heap.get? b = some o → h'.get? b = some o) → Q (.ref (s.heap.objs.size + 1)) { s with heap := h' }) :
    wpAny (model prog w) A (call (.type "enumerate") [v]) Q E s := by
  refine callType_new F.called_enumerate (by decide) (F.typeCall_enumerate_1 _) (F.newCall_enumerate_1 _) (fun obj => F.args_object_init_2 obj _) F.entry_enumerate_new
    (meets_enumerate_newB1 B) ⟨h1, ?_⟩
  have hz : (s.heap.push o).objs.size = s.heap.objs.size + 1 := Heap.size_push ..
  show _ ∧ _
  rw [hz]
  have he : IsEnum ((s.heap.push o).push { cls := .type "enumerate", data := .fields #[.none, .bool false, .ref s.heap.objs.size, rawInt 0, .none, .none] }) (s.heap.objs.size + 1) s.heap.objs.size 0 .none := by
    have := Heap.get?_push_size (s.heap.push o) (o := { cls := .type "enumerate", data := .fields #[.none, .bool false, .ref s.heap.objs.size, rawInt 0, .none, .none] }) rfl
    rw [hz] at this; exact this
  refine ⟨⟨_, he, rfl⟩, h _ he (Heap.get?_push_of_some _ (Heap.get?_push_size _ B.free)) (by rw [Heap.size_push, hz]) fun b o x => Heap.get?_push_of_some _ (Heap.get?_push_of_some _ x)⟩
end
def IteT (K : PySem.W.Frag) (a : Addr) : It :=
  ⟨fun i H => ∃ xs x, SqT K H a xs ∧ xs[i]? = some x, fun i H v H' => ∃ T x, v = .ref T ∧ H T = none ∧ H' = upd H T (.tup [.int (i : Nat), x]) ∧ ∀ xs, SqT K H a xs → xs[i]? = some x, fun i H => ∃ xs, SqT K H a xs ∧ xs.length = i⟩
theorem turn_enumT {P : Program} {w : World} {K : PySem.W.Frag} {elts : List Expr} {kk : Nat} {tpos : Pos} (a e it : Addr) :
    Turn P w K (.Tuple elts kk tpos) (IteT K a) [e, it] e (fun i h => (∃ old, IsEnum h e it ((i : Nat) : Int) old) ∧ h.IsTupleIter it a i ∧ e ≠ it ∧ e ≠ a ∧ it ≠ a) where
  mem := by simp
  obj := fun i h st b hb => by
    obtain ⟨⟨old, he⟩, ⟨o, ho, hc, hd⟩, _⟩ := st
    have e' : b = e ∨ b = it := by simpa using hb
    rcases e' with z | z
    · rw [z]; exact ⟨_, he, fun v q => nomatch q⟩
    · rw [z]; exact ⟨o, ho, fun v q => by rw [hd] at q; cases q⟩
  keep := fun i h h' st k => let ⟨⟨old, he⟩, hi, hne⟩ := st; ⟨⟨old, k e (by simp) _ he⟩, hi.at fun o q => k it (by simp) o q, hne⟩
  item := by
    intro X hP hw hK hc i pins s σ H E I hf st hg
    subst hP hw hK
    obtain ⟨⟨old, he⟩, hit, hne, hea, hia⟩ := st
    obtain ⟨xs, x, hq, hx⟩ := hg
    obtain ⟨its, rv, p, hz⟩ := I.tuple hq
    obtain ⟨u, hu, ru⟩ := rv.get hx
    have hel : e < s.heap.objs.size := Heap.lt_size he
    have hil : it < s.heap.objs.size := by obtain ⟨_, q, _⟩ := hit; exact Heap.lt_size q
    have W := GoesN.enumFrom (elts := elts) (x1 := kk) (pos := tpos) (0 : Int) (Draws.tuple (prog := X.prog) (w := X.w) (A := X.A.in1) (I.ok.hd hc) it a (Ne.symm hia) its.toArray) e hne (by simp [hne, hea]) (by simp)
    refine W.goes i s (fun v s2 => ∃ x H', Inv X pins σ H' s2 ∧ RelV x v ∧ (IteT X.K a).yld i H x H' ∧ ((∃ old, IsEnum s2.heap e it ((i + 1 : Nat) : Int) old) ∧ s2.heap.IsTupleIter it a (i + 1) ∧ e ≠ it ∧ e ≠ a ∧ it ≠ a) ∧ ∀ b ∈ [e, it], H' b = none) E ?_ ?_ ?_
    · have : i < its.length := (List.getElem?_eq_some_iff.mp hu).1
      simpa using this
    · exact ⟨⟨old, by rw [Int.zero_add]; exact he⟩, hit, p⟩
    · rintro v h' tk ⟨T, t, y, rfl, hn, hy, hT⟩ ⟨⟨old', he'⟩, hit', _⟩ hk htk
      have ey : y = u := by
        have e1 : its[i]? = some y := by simpa using hy
        rw [hu] at e1; cases e1; rfl
      subst ey
      have new : ObjOk X.prog X.w (upd H T (.tup [.int (i : Nat), x])) h' T (.tup [.int (i : Nat), x]) := by
        refine ⟨by show 2 ≤ sizeLine; decide, [.int ((i : Nat) : Int) t, y], .cons ⟨_, rfl⟩ (.cons ru .nil), ?_⟩
        have e0 : (0 : Int) + ((i : Nat) : Int) = ((i : Nat) : Int) := Int.zero_add _
        rw [e0] at hT
        exact hT
      have I1 : Inv X pins σ (upd H T (.tup [.int (i : Nat), x])) { s with heap := h', toks := tk } := I.turnedNew (ch := [e, it]) hk hf hn new
      refine ⟨.ref T, _, I1, rfl, ⟨T, x, rfl, I.hok.fresh hn, rfl, fun ys hy => by rw [I.tuple_inj hy hq]; exact hx⟩, ⟨⟨old', by rw [Int.zero_add] at he'; exact he'⟩, hit', hne, hea, hia⟩, fun b hb => ?_⟩
      have hb' : b < s.heap.objs.size := by
        have e' : b = e ∨ b = it := by simpa using hb
        rcases e' with z | z
        · rw [z]; exact hel
        · rw [z]; exact hil
      rw [upd_ne (Nat.ne_of_lt (Nat.lt_of_lt_of_le hb' hn))]
      exact (hf b hb).1
  done := by
    intro X hP hw hK hc i pins s σ H E I hf st hg
    subst hP hw hK
    obtain ⟨⟨old, he⟩, hit, hne, hea, hia⟩ := st
    obtain ⟨xs, hq, hx⟩ := hg
    obtain ⟨its, rv, p, hz⟩ := I.tuple hq
    obtain ⟨f0, f1, f2, f3, f4, f5⟩ := hf it (by simp)
    have hl := rv.length
    have hle : i = its.toArray.size := by simp; omega
    have he0 : IsEnum s.heap e it ((0 : Int) + ((i : Nat) : Int)) old := by rw [Int.zero_add]; exact he
    exact wpAny_pyNext_enum_endD (Draws.tuple (prog := X.prog) (w := X.w) (A := X.A.in1) (I.ok.hd hc) it a (Ne.symm hia) its.toArray) he0 ⟨by rw [← hle]; exact hit, p⟩ fun h' eb => ⟨rfl, I.turned (t' := s.toks) (fun b o hb q => eb b o hb q) f0 f1 f3 f4 f5⟩
  self := fun A i s Q E st h => let ⟨⟨_, he⟩, _⟩ := st; wpAny_pyIter_enum he h
section
variable {X : Cx} {tg : Expr}
theorem pi_enumT {e : Expr} {ta : TA} {p pos tpos : Pos} {elts : List Expr} {kk : Nat} (hg : Gl X "enumerate") (hm : X.mg "enumerate" = none) (ha : PA X [e] ta) (hs : starEach [e] X.env = [(false, eval e X.env)] := by rfl) :
    PI X (.Tuple elts kk tpos) (.Call (.Name "enumerate" p) [e] [] pos) (fun σ H R => ta σ H fun vs H1 => ∃ a, vs = [.ref a] ∧ ((∃ xs, SqL X.K H1 a xs ∧ R (Ite X.K a) H1) ∨ ∃ xs, SqT X.K H1 a xs ∧ R (IteT X.K a) H1)) := by
  refine ⟨fun pins s σ H R I h => ?_⟩
  refine Call_ (ld_blt I hg hm boot_enumerate (PyProof.Rows.callWith_type1 (thn (ha.run pos pins s σ H _ I h) fun us s1 ⟨vs, H1, I1, r1, q1⟩ => ?_) hs rfl))
  obtain ⟨a, ex, hh⟩ := q1
  subst ex
  cases r1 with
  | cons r rr =>
    cases rr
    cases r
    have fp : ∀ b ∈ [s1.heap.objs.size + 1, s1.heap.objs.size], FpOk X pins H1 b := fun b hb => by
      have e' : b = s1.heap.objs.size + 1 ∨ b = s1.heap.objs.size := by simpa using hb
      have hle : s1.heap.objs.size ≤ b := by
        rcases e' with z | z
        · rw [z]; exact Nat.le_add_right _ _
        · rw [z]; exact Nat.le_refl _
      exact I1.fpOk hle (I1.hok.fresh hle)
    rcases hh with ⟨xs, hq, q⟩ | ⟨xs, hq, q⟩
    · obtain ⟨its, rv, p', hz⟩ := I1.list hq
      refine call_enumerate_list p'.isList fun h' he hit hsz hk => wpAny_pyIter_enum he ?_
      exact ⟨s1.heap.objs.size + 1, [s1.heap.objs.size + 1, s1.heap.objs.size], _, _, H1, rfl, I1.kept (t' := s1.toks) hk, turn_enum a (s1.heap.objs.size + 1) s1.heap.objs.size, ⟨⟨.none, he⟩, hit, Nat.succ_ne_self _⟩, fp, q⟩
    · obtain ⟨its, rv, p', hz⟩ := I1.tuple hq
      have hlt : a < s1.heap.objs.size := p'.lt
      refine enum_begins1 (begins_tuple a its.toArray) p' fun h' he hit hsz hk => wpAny_pyIter_enum he ?_
      exact ⟨s1.heap.objs.size + 1, [s1.heap.objs.size + 1, s1.heap.objs.size], _, _, H1, rfl, I1.kept (t' := s1.toks) hk, turn_enumT a (s1.heap.objs.size + 1) s1.heap.objs.size,
        ⟨⟨.none, he⟩, ⟨_, hit, rfl, rfl⟩, Nat.succ_ne_self _, Nat.ne_of_gt (Nat.lt_succ_of_lt hlt), Nat.ne_of_gt hlt⟩, fp, q⟩
theorem pi_seq {l : Expr} {tl : TE} (hl : PE X l tl) : PI X tg l (fun σ H R => tl σ H fun x H1 => ∃ a, x = .ref a ∧ ((∃ xs, SqL X.K H1 a xs ∧ R (Itl X.K a) H1) ∨ ∃ xs, SqT X.K H1 a xs ∧ R (Itt X.K a) H1)) := by
  refine ⟨fun pins s σ H R I h => ?_⟩
  refine thn (hl.run pins s σ H _ I h) fun v s1 ⟨x, H1, I1, r1, q1⟩ => ?_
  obtain ⟨a, e, hh⟩ := q1
  subst e
  cases r1
  have fp : ∀ b ∈ [s1.heap.objs.size], FpOk X pins H1 b := fun b hb => by
    have e : b = s1.heap.objs.size := by simpa using hb
    subst e
    exact I1.fpOk (Nat.le_refl _) (I1.hok.fresh (Nat.le_refl _))
  rcases hh with ⟨xs, hq, q⟩ | ⟨xs, hq, q⟩
  · obtain ⟨its, rv, p, hz⟩ := I1.list hq
    refine wpAny_pyIter_list p.isList ?_
    exact ⟨s1.heap.objs.size, [s1.heap.objs.size], _, _, H1, rfl, I1.kept (t' := s1.toks) fun b o e => Heap.get?_push_of_some _ e, turn_list a _, ⟨_, Heap.get?_push_size _ rfl, rfl, rfl⟩, fp, q⟩
  · obtain ⟨its, rv, p, hz⟩ := I1.tuple hq
    refine wpAny_pyIter_tuple (show s1.heap.IsTuple a its.toArray from p) ?_
    exact ⟨s1.heap.objs.size, [s1.heap.objs.size], _, _, H1, rfl, I1.kept (t' := s1.toks) fun b o e => Heap.get?_push_of_some _ e, turn_tuple a _, ⟨_, Heap.get?_push_size _ rfl, rfl, rfl⟩, fp, q⟩
end
abbrev DI := DS → (List D → DS → Prop) → Prop
structure ItOk (k : Dk) (J : It) (F : Hp) (items : List D) : Prop where
  goes : ∀ i H, i < items.length → Same F H → J.go i H
  stops : ∀ H, Same F H → J.stop items.length H
  yields : ∀ i H x H2, i < items.length → Same F H → J.yld i H x H2 → ∃ d, items[i]? = some d ∧ ((H2 = H ∧ Rp k F x d) ∨ (∃ T xs ds, x = .ref T ∧ H T = none ∧ H2 = upd H T (.tup xs) ∧ d = .tup ds ∧ Rps k F xs ds) ∨ (H2 = H ∧ ∃ T xs ds, x = .ref T ∧ H T = some (.tup xs) ∧ d = .tup ds ∧ Rps k F xs ds))
def RQI (g : Gh) (σ : St) (F : Hp) (R : It → Hp → Prop) (items : List D) (δ' : DS) : Prop := ∀ J H' F', Same F F' → Rl g δ' σ H' F' → ItOk g.dk J F' items → R J H'
def LI (g : Gh) (t : DI) : TI := fun σ H R => ∃ δ F, Rl g δ σ H F ∧ t δ (RQI g σ F R)
structure PId (X : Cx) (tg it : Expr) (t : DI) : Prop where
  mono : MonoE t
  run : ∀ g, PI X tg it (LI g t)
def seqOf : D → Option (List D)
  | .tup xs => some xs
  | .lst xs => some xs
  | _ => none
theorem Rp.seq {K : PySem.W.Frag} {k : Dk} {F H : Hp} {v : V} {d : D} {ds : List D} (r : Rp k F v d) (e : seqOf d = some ds) (s : Same F H) :
    ∃ a xs, v = .ref a ∧ Rps k F xs ds ∧ ((F a = some (.lst xs) ∧ d = .lst ds) ∨ (F a = some (.tup xs) ∧ d = .tup ds)) := by
  cases d <;> simp only [seqOf] at e <;> cases e
  · cases r with
    | tup h1 h2 => exact ⟨_, _, rfl, h2, .inr ⟨h1, rfl⟩⟩
  · cases r with
    | lst h1 h2 => exact ⟨_, _, rfl, h2, .inl ⟨h1, rfl⟩⟩
section
variable {X : Cx} {tg : Expr}
theorem getN {xs : List V} {ds : List D} {k : Dk} {F : Hp} {i : Nat} (r : Rps k F xs ds) (hi : i < ds.length) : ∃ x d, xs[i]? = some x ∧ ds[i]? = some d ∧ Rp k F x d := by
  obtain ⟨y, h1, h2⟩ := r.get (List.getElem?_eq_getElem hi)
  exact ⟨y, _, h1, List.getElem?_eq_getElem hi, h2⟩
def dSeqI (t : DE) : DI := fun δ Q => t δ fun d δ' => ∃ ds, seqOf d = some ds ∧ Q ds δ'
theorem pid_seq {e : Expr} {t : DE} (h : PV X e t) : PId X tg e (dSeqI t) := by
  refine ⟨fun δ Q Q' k q => h.mono _ _ _ (fun d δ' ⟨ds, e, q⟩ => ⟨ds, e, k _ _ q⟩) q, fun g => PI.mono (pi_seq (h.run g)) fun σ H R ⟨δ, F, R0, q⟩ => ⟨δ, F, R0, h.mono _ _ _ (fun d δ' ⟨ds, e, q⟩ v H1 F1 s1 R1 r => ?_) q⟩⟩
  obtain ⟨a, xs, rfl, rr, hh⟩ := Rp.seq (K := X.K) r e R1.ext.sub
  rcases hh with ⟨hF, rfl⟩ | ⟨hF, rfl⟩
  · refine ⟨a, rfl, .inl ⟨xs, .of (R1.ext.sub _ _ hF), q _ H1 F1 s1 R1 ⟨fun i H hi s => ?_, fun H s => ?_, fun i H x H2 hi s y => ?_⟩⟩⟩
    · obtain ⟨x, d, h1, _, _⟩ := getN rr hi
      exact ⟨xs, x, .of (s _ _ hF), h1⟩
    · exact ⟨xs, .of (s _ _ hF), by rw [rr.length]; exact Nat.le_refl _⟩
    · obtain ⟨e2, y⟩ := y
      obtain ⟨x', d, h1, h2, h3⟩ := getN rr hi
      have e3 := y xs (.of (s _ _ hF))
      rw [h1] at e3; cases e3
      exact ⟨d, h2, .inl ⟨e2, h3⟩⟩
  · refine ⟨a, rfl, .inr ⟨xs, .of (R1.ext.sub _ _ hF), q _ H1 F1 s1 R1 ⟨fun i H hi s => ?_, fun H s => ?_, fun i H x H2 hi s y => ?_⟩⟩⟩
    · obtain ⟨x, d, h1, _, _⟩ := getN rr hi
      exact ⟨xs, x, .of (s _ _ hF), h1⟩
    · exact ⟨xs, .of (s _ _ hF), by rw [rr.length]; exact Nat.le_refl _⟩
    · obtain ⟨e2, y⟩ := y
      obtain ⟨x', d, h1, h2, h3⟩ := getN rr hi
      have e3 := y xs (.of (s _ _ hF))
      rw [h1] at e3; cases e3
      exact ⟨d, h2, .inl ⟨e2, h3⟩⟩
def enumD (n : Nat) : List D → List D
  | [] => []
  | d :: r => .tup [.int (n : Nat), d] :: enumD (n + 1) r
theorem enumD_length : ∀ (n : Nat) (ds : List D), (enumD n ds).length = ds.length
  | _, [] => rfl
  | n, d :: r => congrArg (· + 1) (enumD_length (n + 1) r)
theorem enumD_get : ∀ (n : Nat) (ds : List D) (i : Nat) (d : D), ds[i]? = some d → (enumD n ds)[i]? = some (.tup [.int ((n + i : Nat) : Int), d])
  | _, [], _, _, h => by simp at h
  | n, d :: r, 0, e, h => by simp at h; subst h; simp [enumD]
  | n, d :: r, i + 1, e, h => by
    have q := enumD_get (n + 1) r i e (by simpa using h)
    have e1 : n + 1 + i = n + (i + 1) := by omega
    rw [e1] at q
    simpa [enumD] using q
def dEnumI (t : DE) : DI := fun δ Q => t δ fun d δ' => ∃ ds, seqOf d = some ds ∧ Q (enumD 0 ds) δ'
theorem pid_enum {e : Expr} {t : DE} {p pos tpos : Pos} {elts : List Expr} {kk : Nat} (h : PV X e t) (hg : Gl X "enumerate") (hm : X.mg "enumerate" = none) (hs : starEach [e] X.env = [(false, eval e X.env)] := by rfl)
    (hs2 : starEach [e] X.env = (false, eval e X.env) :: starEach [] X.env := by rfl) : PId X (.Tuple elts kk tpos) (.Call (.Name "enumerate" p) [e] [] pos) (dEnumI t) := by
  refine ⟨fun δ Q Q' k q => h.mono _ _ _ (fun d δ' ⟨ds, e, q⟩ => ⟨ds, e, k _ _ q⟩) q, fun g => PI.mono (pi_enumT hg hm (pa_cons (h.run g) pa_nil hs2) hs) fun σ H R ⟨δ, F, R0, q⟩ => ⟨δ, F, R0, h.mono _ _ _ (fun d δ' ⟨ds, e, q⟩ v H1 F1 s1 R1 r => ?_) q⟩⟩
  obtain ⟨a, xs, rfl, rr, hh⟩ := Rp.seq (K := X.K) r e R1.ext.sub
  have fin : ∀ (i : Nat) (H : Hp) (v : V) (H2 : Hp) (T : Addr) (x : V), i < (enumD 0 ds).length → v = .ref T → H T = none → H2 = upd H T (.tup [.int (i : Nat), x]) → xs[i]? = some x →
      ∃ d, (enumD 0 ds)[i]? = some d ∧ ((H2 = H ∧ Rp g.dk F1 v d) ∨ (∃ T xs ds, v = .ref T ∧ H T = none ∧ H2 = upd H T (.tup xs) ∧ d = .tup ds ∧ Rps g.dk F1 xs ds) ∨ (H2 = H ∧ ∃ T xs ds, v = .ref T ∧ H T = some (.tup xs) ∧ d = .tup ds ∧ Rps g.dk F1 xs ds)) := fun i H v H2 T x hi ev hT e2 hx => by
    rw [enumD_length] at hi
    obtain ⟨x', d, h1, h2, h3⟩ := getN rr hi
    rw [hx] at h1; cases h1
    refine ⟨_, enumD_get 0 ds i d h2, .inr (.inl ⟨T, _, _, ev, hT, e2, rfl, ?_⟩)⟩
    rw [Nat.zero_add]
    exact .cons (.int _) (.cons h3 .nil)
  rcases hh with ⟨hF, rfl⟩ | ⟨hF, rfl⟩
  · refine ⟨a, rfl, .inl ⟨xs, .of (R1.ext.sub _ _ hF), q _ H1 F1 s1 R1 ⟨fun i H hi s => ?_, fun H s => ?_, fun i H v H2 hi s y => ?_⟩⟩⟩
    · rw [enumD_length] at hi
      obtain ⟨x, d, h1, _, _⟩ := getN rr hi
      exact ⟨xs, x, .of (s _ _ hF), h1⟩
    · exact ⟨xs, .of (s _ _ hF), by rw [rr.length, enumD_length]; exact Nat.le_refl _⟩
    · obtain ⟨T, x, ev, hT, e2, hx⟩ := y
      exact fin i H v H2 T x hi ev hT e2 (hx xs (.of (s _ _ hF)))
  · refine ⟨a, rfl, .inr ⟨xs, .of (R1.ext.sub _ _ hF), q _ H1 F1 s1 R1 ⟨fun i H hi s => ?_, fun H s => ?_, fun i H v H2 hi s y => ?_⟩⟩⟩
    · rw [enumD_length] at hi
      obtain ⟨x, d, h1, _, _⟩ := getN rr hi
      exact ⟨xs, x, .of (s _ _ hF), h1⟩
    · exact ⟨xs, .of (s _ _ hF), by rw [rr.length, enumD_length]⟩
    · obtain ⟨T, x, ev, hT, e2, hx⟩ := y
      exact fin i H v H2 T x hi ev hT e2 (hx xs (.of (s _ _ hF)))
def rngD (lo : Int) (n : Nat) : List D := (List.range n).map fun i => .int (lo + (i : Nat))
theorem rngD_length (lo : Int) (n : Nat) : (rngD lo n).length = n := by simp [rngD]
theorem rngD_get {lo : Int} {n i : Nat} (h : i < n) : (rngD lo n)[i]? = some (.int (lo + (i : Nat))) := by simp [rngD, h]
theorem itOk_range {k : Dk} {F : Hp} (lo : Int) (n : Nat) : ItOk k (Itr lo n) F (rngD lo n) :=
  ⟨fun i H hi _ => by rw [rngD_length] at hi; exact hi, fun H _ => by rw [rngD_length]; exact Nat.le_refl _, fun i H x H2 hi _ y => by
    rw [rngD_length] at hi
    obtain ⟨e2, rfl⟩ := y
    exact ⟨_, rngD_get hi, .inl ⟨e2, .int _⟩⟩⟩
def dRng1 (t : DE) : DI := fun δ Q => t δ fun d δ' => ∃ j, d = .int j ∧ -(2 ^ 62) ≤ j ∧ j < 2 ^ 62 ∧ Q (rngD 0 j.toNat) δ'
def dRng2 (t u : DE) : DI := fun δ Q => t δ fun d δ1 => u δ1 fun e δ2 => ∃ i j, d = .int i ∧ e = .int j ∧ (-(2 ^ 62) ≤ i ∧ i < 2 ^ 62 ∧ -(2 ^ 62) ≤ j ∧ j < 2 ^ 62) ∧ Q (rngD i (j - i).toNat) δ2
theorem pid_range1 {e : Expr} {t : DE} {p pos : Pos} (h : PV X e t) (hg : Gl X "range") (hm : X.mg "range" = none) (hs : starEach [e] X.env = [(false, eval e X.env)] := by rfl)
    (hs2 : starEach [e] X.env = (false, eval e X.env) :: starEach [] X.env := by rfl) : PId X tg (.Call (.Name "range" p) [e] [] pos) (dRng1 t) := by
  refine ⟨fun δ Q Q' k q => h.mono _ _ _ (fun d δ' ⟨j, e, h1, h2, q⟩ => ⟨j, e, h1, h2, k _ _ q⟩) q, fun g => PI.mono (pi_range1 hg hm (pa_cons (h.run g) pa_nil hs2) hs) fun σ H R ⟨δ, F, R0, q⟩ => ⟨δ, F, R0, h.mono _ _ _ (fun d δ' ⟨j, e, h1, h2, q⟩ v H1 F1 s1 R1 r => ?_) q⟩⟩
  subst e; cases r
  exact ⟨j, rfl, h1, h2, q _ H1 F1 s1 R1 (itOk_range 0 _)⟩
end
end DL
namespace DL
open PySem PySem.Spec PyProof.Rows L2
inductive Pat where
  | nm (i : Nat)
  | tp (ps : List Pat)
mutual
def gPat (K : PySem.W.Frag) : Pat → TG
  | .nm i => gName i
  | .tp ps => gTup K ps.length (gPats K ps)
def gPats (K : PySem.W.Frag) : List Pat → TGs
  | [] => gNil
  | p :: r => gCons (gPat K p) (gPats K r)
end
mutual
def Pat.ix : Pat → List Nat
  | .nm i => [i]
  | .tp ps => Pat.ixs ps
def Pat.ixs : List Pat → List Nat
  | [] => []
  | p :: r => p.ix ++ Pat.ixs r
end
mutual
def dPat : Pat → D → DS → (DS → Prop) → Prop
  | .nm i, d, δ, K => K (δ.set i (some (.val d)))
  | .tp ps, .tup ds, δ, K => dPats ps ds δ K
  | .tp _, _, _, _ => False
def dPats : List Pat → List D → DS → (DS → Prop) → Prop
  | [], [], δ, K => K δ
  | p :: r, d :: ds, δ, K => dPat p d δ fun δ' => dPats r ds δ' K
  | _, _, _, _ => False
end
def Keep (vs : List Nat) (σ σ' : St) : Prop := σ'.length = σ.length ∧ ∀ i, i ∉ vs → σ'[i]? = σ[i]?
theorem Keep.refl {vs : List Nat} {σ : St} : Keep vs σ σ := ⟨rfl, fun _ _ => rfl⟩
theorem Keep.trans {vs : List Nat} {σ σ1 σ2 : St} (a : Keep vs σ σ1) (b : Keep vs σ1 σ2) : Keep vs σ σ2 := ⟨b.1.trans a.1, fun i h => (b.2 i h).trans (a.2 i h)⟩
theorem wipe_get (σ : St) : ∀ (vs : List Nat) (i : Nat), (wipe σ vs)[i]? = if i ∈ vs then (σ[i]?).map (fun _ => none) else σ[i]?
  | [], i => by simp [wipe]
  | v :: vs, i => by
    unfold wipe
    by_cases hi : v = i
    · subst hi
      rw [List.getElem?_set, if_pos rfl]
      simp only [List.mem_cons, true_or, if_true, wipe_length]
      split
      · rename_i h; simp [h]
      · rename_i h; simp [List.getElem?_eq_none (Nat.le_of_not_lt h)]
    · rw [List.getElem?_set_ne hi, wipe_get σ vs i]
      have : (i ∈ v :: vs) ↔ i ∈ vs := by simp [Ne.symm hi]
      simp only [this]
theorem Keep.wipe {vs : List Nat} {σ σ' : St} (k : Keep vs σ σ') : wipe σ' vs = wipe σ vs := by
  apply List.ext_getElem?
  intro i
  rw [wipe_get, wipe_get]
  split
  · by_cases h : i < σ.length
    · rw [List.getElem?_eq_getElem h, List.getElem?_eq_getElem (by rw [k.1]; exact h)]; rfl
    · rw [List.getElem?_eq_none (Nat.le_of_not_lt h), List.getElem?_eq_none (by rw [k.1]; exact Nat.le_of_not_lt h)]
  · rename_i h; exact k.2 i h
mutual
theorem dPat_ok {K : PySem.W.Frag} {g : Gh} {H F : Hp} {vs : List Nat} {Q : St → Hp → Prop} : ∀ (p : Pat) (d : D) (v : V) (δ : DS) (σ : St) (k : DS → Prop), (∀ i ∈ p.ix, i ∈ vs) → dPat p d δ k → Rl g δ σ H F → Rp g.dk F v d →
    (∀ δ' σ', Rl g δ' σ' H F → Keep vs σ σ' → k δ' → Q σ' H) → gPat K p v σ H Q
  | .nm i, d, v, δ, σ, k, hv, h, R, r, q => by
    simp only [dPat] at h
    simp only [gPat]
    refine q _ _ (R.setVal r) ⟨List.length_set, fun j hj => List.getElem?_set_ne fun e => hj ?_⟩ h
    subst e
    exact hv i (by simp [Pat.ix])
  | .tp ps, .tup ds, v, δ, σ, k, hv, h, R, r, q => by
    simp only [dPat] at h
    simp only [gPat]
    cases r with
    | tup hF rr =>
      have hl : ps.length = ds.length := dPats_len ps ds δ k h
      exact ⟨_, _, rfl, .of (R.ext.sub _ _ hF), by rw [rr.length, hl], dPats_ok ps ds _ δ σ k (fun i hi => hv i (by simpa [Pat.ix] using hi)) h R rr q⟩
  | .tp _, .non, _, _, _, _, _, h, _, _, _ => by simp [dPat] at h
  | .tp _, .bl _, _, _, _, _, _, h, _, _, _ => by simp [dPat] at h
  | .tp _, .int _, _, _, _, _, _, h, _, _, _ => by simp [dPat] at h
  | .tp _, .str _, _, _, _, _, _, h, _, _, _ => by simp [dPat] at h
  | .tp _, .lst _, _, _, _, _, _, h, _, _, _ => by simp [dPat] at h
  | .tp _, .dct _ _, _, _, _, _, _, h, _, _, _ => by simp [dPat] at h
  | .tp _, .dk, _, _, _, _, _, h, _, _, _ => by simp [dPat] at h
theorem dPats_ok {K : PySem.W.Frag} {g : Gh} {H F : Hp} {vs : List Nat} {Q : St → Hp → Prop} : ∀ (ps : List Pat) (ds : List D) (xs : List V) (δ : DS) (σ : St) (k : DS → Prop), (∀ i ∈ Pat.ixs ps, i ∈ vs) → dPats ps ds δ k → Rl g δ σ H F → Rps g.dk F xs ds →
    (∀ δ' σ', Rl g δ' σ' H F → Keep vs σ σ' → k δ' → Q σ' H) → gPats K ps xs σ H Q
  | [], [], _, δ, σ, k, hv, h, R, r, q => by
    cases r
    simp only [dPats] at h
    simp only [gPats]
    exact ⟨rfl, q _ _ R Keep.refl h⟩
  | p :: ps, d :: ds, _, δ, σ, k, hv, h, R, r, q => by
    cases r with
    | cons r1 r2 =>
      simp only [dPats] at h
      simp only [gPats]
      refine ⟨_, _, rfl, dPat_ok p d _ δ σ _ (fun i hi => hv i (by simp [Pat.ixs, hi])) h R r1 fun δ' σ' R' k1 h' => ?_⟩
      exact dPats_ok ps ds _ δ' σ' k (fun i hi => hv i (by simp [Pat.ixs, hi])) h' R' r2 fun δ2 σ2 R2 k2 h2 => q _ _ R2 (k1.trans k2) h2
  | [], _ :: _, _, _, _, _, _, h, _, _, _ => by simp [dPats] at h
  | _ :: _, [], _, _, _, _, _, h, _, _, _ => by simp [dPats] at h
theorem dPats_len : ∀ (ps : List Pat) (ds : List D) (δ : DS) (k : DS → Prop), dPats ps ds δ k → ps.length = ds.length
  | [], [], _, _, _ => rfl
  | p :: ps, d :: ds, δ, k, h => by
    simp only [dPats] at h
    obtain ⟨δ', h'⟩ := dPat_some p d δ _ h
    have := dPats_len ps ds δ' k h'
    simp [this]
  | [], _ :: _, _, _, h => by simp [dPats] at h
  | _ :: _, [], _, _, h => by simp [dPats] at h
theorem dPat_some : ∀ (p : Pat) (d : D) (δ : DS) (k : DS → Prop), dPat p d δ k → ∃ δ', k δ'
  | .nm i, d, δ, k, h => ⟨_, by simpa [dPat] using h⟩
  | .tp ps, .tup ds, δ, k, h => dPats_some ps ds δ k (by simpa [dPat] using h)
  | .tp _, .non, _, _, h => by simp [dPat] at h
  | .tp _, .bl _, _, _, h => by simp [dPat] at h
  | .tp _, .int _, _, _, h => by simp [dPat] at h
  | .tp _, .str _, _, _, h => by simp [dPat] at h
  | .tp _, .lst _, _, _, h => by simp [dPat] at h
  | .tp _, .dct _ _, _, _, h => by simp [dPat] at h
  | .tp _, .dk, _, _, h => by simp [dPat] at h
theorem dPats_some : ∀ (ps : List Pat) (ds : List D) (δ : DS) (k : DS → Prop), dPats ps ds δ k → ∃ δ', k δ'
  | [], [], δ, k, h => ⟨δ, by simpa [dPats] using h⟩
  | p :: ps, d :: ds, δ, k, h => by
    simp only [dPats] at h
    obtain ⟨δ', h'⟩ := dPat_some p d δ _ h
    exact dPats_some ps ds δ' k h'
  | [], _ :: _, _, _, h => by simp [dPats] at h
  | _ :: _, [], _, _, h => by simp [dPats] at h
end
section
variable {X : Cx} {pos : Pos}
def dNext : DSm := fun E δ => E.nx δ
def dSeq (t u : DSm) : DSm := fun E δ => t { E with nx := u E } δ
variable {st : Stmt} {rest : List Stmt} {t u : DSm}
theorem psd_nil : PSds X [] dNext := ⟨fun g => PSs.mono pss_nil fun D' σ H ⟨δ, F, E, R, L, q⟩ => L.nx δ σ H F (Same.refl _) R q⟩
theorem psd_cons (h1 : PSd X st t) (h2 : PSds X rest u) : PSds X (st :: rest) (dSeq t u) :=
  ⟨fun g => PSs.mono (pss_cons (h1.run g) (h2.run g)) fun D' σ H ⟨δ, F, E, R, L, q⟩ => ⟨δ, F, { E with nx := u E }, R, ⟨fun δ' σ' H' F' s R' q => ⟨δ', F', E, R', L.mono s, q⟩, L.bk, L.ct, L.rt⟩, q⟩⟩
theorem psd_one (h1 : PSd X st t) : PSds X [st] t := ⟨fun g => pss_one (h1.run g)⟩
def dBreak : DSm := fun E δ => E.bk δ
def dCont : DSm := fun E δ => E.ct δ
variable {e : Expr} {te : DE}
def dDrop (te : DE) : DSm := fun E δ => te δ fun _ δ' => E.nx δ'
theorem psd_expr (he : PV X e te) (hs : swapsWith e none pos.line X.env = pure false := by rfl) : PSd X (.Expr e pos) (dDrop te) :=
  ⟨fun g => PS.mono (ps_expr (he.run g) hs) fun D' σ H ⟨δ, F, E, R, L, q⟩ => ⟨δ, F, R, he.mono _ _ _ (fun d δ' q v H' F' s R' r => L.nx δ' σ H' F' s R' q) q⟩⟩
def dRet (te : DE) : DSm := fun E δ => te δ fun d _ => E.rt d
theorem psd_ret (he : PV X e te) : PSd X (.Return (some e) pos) (dRet te) :=
  ⟨fun g => PS.mono (ps_ret (he.run g)) fun D' σ H ⟨δ, F, E, R, L, q⟩ => ⟨δ, F, R, he.mono _ _ _ (fun d δ' q v H' F' s R' r => L.rt d v δ' σ H' F' s R' r q) q⟩⟩
def dRetN : DSm := fun E δ => E.rt .non
def dIf (c : DT) (t u : DSm) : DSm := fun E δ => c δ fun b δ' => if b = true then t E δ' else u E δ'
theorem psd_if {c : Expr} {a b : List Stmt} {tc : DT} (hc : PTd X c tc) (ha : PSds X a t) (hb : PSds X b u) : PSd X (.If c a b pos) (dIf tc t u) :=
  ⟨fun g => PS.mono (ps_if (hc.run g) (ha.run g) (hb.run g)) fun D' σ H ⟨δ, F, E, R, L, q⟩ => ⟨δ, F, R, hc.mono _ _ _ (fun k δ' q H' F' s R' => mono_ite (fun q => ⟨δ', F', E, R', L.mono s, q⟩) (fun q => ⟨δ', F', E, R', L.mono s, q⟩) q) q⟩⟩
def dSet (i : Nat) (te : DE) : DSm := fun E δ => te δ fun d δ' => E.nx (δ'.set i (some (.val d)))
theorem psd_set {i : Nat} {x : Str} {pos' : Pos} (hN : X.N.Nodup) (he : PV X e te) (hi : X.N[i]? = some x := by rfl) (hx : Loc X.env.scope x := by first | exact .inl rfl | exact .inr rfl) (hs : swapsWith e (some (.Name x pos')) pos.line X.env = pure false := by rfl)
    (hf : X.fn x = true ∨ X.env.scope.names.lookup x = some .local := by first | exact .inl rfl | exact .inr rfl | assumption) : PSd X (.Assign [.Name x pos'] e pos) (dSet i te) :=
  ⟨fun g => PS.mono (ps_set hN hi hx (he.run g) hs hf) fun D' σ H ⟨δ, F, E, R, L, q⟩ => ⟨δ, F, R, he.mono _ _ _ (fun d δ' q v H' F' s R' r => L.nx _ _ H' F' s (R'.setVal r) q) q⟩⟩
variable {tl : DL'}
def dSetL (i : Nat) (tl : DL') : DSm := fun E δ => tl δ fun c δ' => E.nx (δ'.set i (some (.own c)))
theorem asgL {g : Gh} {i : Nat} (m : MonoE tl) {D' : Ends} {σ : St} {H : Hp} (h : LS g (dSetL i tl) D' σ H) : tAsg (LL g tl) (gName i) D' σ H := by
  obtain ⟨δ, F, E, R, L, q⟩ := h
  exact ⟨δ, F, R, m _ _ _ (fun c δ' q p o H' F' s R' hp r hf hb ap => L.nx _ _ H' F' s (R'.setOwn hp r hf hb ap) q) q⟩
theorem psd_setL {i : Nat} {x : Str} {pos' : Pos} (hN : X.N.Nodup) (he : PL X e tl) (hi : X.N[i]? = some x := by rfl) (hx : Loc X.env.scope x := by first | exact .inl rfl | exact .inr rfl) (hs : swapsWith e (some (.Name x pos')) pos.line X.env = pure false := by rfl)
    (hf : X.fn x = true ∨ X.env.scope.names.lookup x = some .local := by first | exact .inl rfl | exact .inr rfl | assumption) : PSd X (.Assign [.Name x pos'] e pos) (dSetL i tl) :=
  ⟨fun g => PS.mono (ps_set hN hi hx (he.run g) hs hf) fun D' σ H h => asgL he.mono h⟩
def dSetP (p : Pat) (te : DE) : DSm := fun E δ => te δ fun d δ' => dPat p d δ' E.nx
theorem psd_setP {p : Pat} {tg : Expr} (he : PV X e te) (hg : PG X tg (gPat X.K p)) (hs : swapsWithSole [tg] e pos.line X.env = pure false := by rfl) (hw : swappedStores [tg] e X.env = pure none := by rfl)
    (h1 : (assignEach [tg] X.env).map (·.2) = [assign tg X.env] := by rfl) : PSd X (.Assign [tg] e pos) (dSetP p te) :=
  ⟨fun g => PS.mono (ps_asg (he.run g) hg hs hw h1) fun D' σ H ⟨δ, F, E, R, L, q⟩ => ⟨δ, F, R, he.mono _ _ _ (fun d δ' q v H' F' s R' r => dPat_ok p d v δ' σ _ (vs := p.ix) (fun i h => h) q R' r fun δ2 σ2 R2 _ q2 => L.nx _ _ _ _ s R2 q2) q⟩⟩
theorem pg_nm {i : Nat} {x : Str} (hN : X.N.Nodup) (hi : X.N[i]? = some x := by rfl) (hx : Loc X.env.scope x := by first | exact .inl rfl | exact .inr rfl) (hf : X.fn x = true ∨ X.env.scope.names.lookup x = some .local := by first | exact .inl rfl | exact .inr rfl | assumption) :
    PG X (.Name x pos) (gPat X.K (.nm i)) := by
  have h := pg_name (pos := pos) hN hi hx hf
  exact h
theorem pgs_nil' : PGs X [] (gPats X.K []) := pgs_nil
theorem pgs_cons' {e : Expr} {es : List Expr} {p : Pat} {ps : List Pat} (h1 : PG X e (gPat X.K p)) (h2 : PGs X es (gPats X.K ps)) (hs : (assignEach (e :: es) X.env).map (·.2) = assign e X.env :: (assignEach es X.env).map (·.2) := by rfl) : PGs X (e :: es) (gPats X.K (p :: ps)) := pgs_cons h1 h2 hs
theorem pg_tp {es : List Expr} {k : Nat} {ps : List Pat} (hc : X.calm = true) (h : PGs X es (gPats X.K ps)) (hn : (assignEach es X.env).length = ps.length := by rfl) (hst : (assignEach es X.env).findIdx? (·.1) = none := by rfl) : PG X (.Tuple es k pos) (gPat X.K (.tp ps)) :=
  pg_tup hc h hn hst
def Gh.guard (g : Gh) (p : Addr) (o : HO) : Gh := { g with B := upd g.B p o }
theorem Rl.guard {g : Gh} {δ : DS} {σ : St} {H F : Hp} (R : Rl g δ σ H F) {p : Addr} {o : HO} (hp : H p = some o) (hf : F p = none) (ap : Apart δ σ p) : Rl (g.guard p o) δ σ H F := by
  refine ⟨⟨R.ext.old, R.ext.sub, fun a u e n => ?_, fun a u e => ?_, R.ext.fdk, fun a d => ?_, R.ext.dko⟩, R.len, R.val, fun i c e => ?_, R.dif⟩
  · have e' : upd g.B p o a = some u := e
    by_cases h : a = p
    · subst h; rw [upd_same] at e'; cases e'; exact hp
    · rw [upd_ne h] at e'; exact R.ext.base a u e' n
  · rcases R.ext.new a u e with q | q | q
    · exact .inl q
    · refine .inr (.inl ?_)
      show upd g.B p o a = none
      rw [upd_ne (ne_of_none e hf)]; exact q
    · exact .inr (.inr q)
  · show upd g.B p o a ≠ none
    by_cases h : a = p
    · subst h; rw [upd_same]; simp
    · rw [upd_ne h]; exact R.ext.bdk a d
  · obtain ⟨q, u, e1, hq, r, f, b⟩ := R.own i c e
    have hne : q ≠ p := fun z => by subst z; exact ap i c e e1
    exact ⟨q, u, e1, hq, r, f, by show upd g.B p o q = none; rw [upd_ne hne]; exact b⟩
theorem Rl.unguard {g : Gh} {δ : DS} {σ : St} {H F : Hp} {p : Addr} {o : HO} (R : Rl (g.guard p o) δ σ H F) (hb : g.B p = none) (h0 : g.F0 p = none) (nd : ¬ isDk g.dk p) (bd : ∀ a, isDk g.dk a → g.B a ≠ none) (nt : ∀ ys, o ≠ .tup ys) :
    Rl g δ σ H F ∧ H p = some o ∧ F p = none ∧ Apart δ σ p := by
  have hp : H p = some o := R.ext.base p o upd_same nd
  have hf : F p = none := by
    cases e : F p with
    | none => rfl
    | some u =>
      rcases R.ext.new p u e with q | q | ⟨ys, rfl⟩
      · rw [show g.F0 p = some u from q] at h0; cases h0
      · have q' : upd g.B p o p = none := q
        rw [upd_same] at q'; cases q'
      · have z := R.ext.sub p _ e
        rw [hp] at z
        exact absurd (Option.some.inj z) (nt ys)
  refine ⟨⟨⟨R.ext.old, R.ext.sub, fun a u e n => R.ext.base a u ?_ n, fun a u e => ?_, R.ext.fdk, bd, R.ext.dko⟩, R.len, R.val, fun i c e => ?_, R.dif⟩, hp, hf, fun i c e h => ?_⟩
  · show upd g.B p o a = some u
    rw [upd_ne (ne_of_none e hb)]; exact e
  · rcases R.ext.new a u e with q | q | q
    · exact .inl q
    · refine .inr (.inl ?_)
      have q' : upd g.B p o a = none := q
      rw [upd_ne (ne_of_none e hf)] at q'; exact q'
    · exact .inr (.inr q)
  · obtain ⟨q, u, e1, hq, r, f, b⟩ := R.own i c e
    have b' : upd g.B p o q = none := b
    refine ⟨q, u, e1, hq, r, f, ?_⟩
    by_cases h : q = p
    · subst h; rw [upd_same] at b'; cases b'
    · rw [upd_ne h] at b'; exact b'
  · obtain ⟨q, u, e1, hq, r, f, b⟩ := R.own i c e
    rw [e1] at h; cases h
    have b' : upd g.B p o p = none := b
    rw [upd_same] at b'; cases b'
inductive Rh where
  | v (t : DE)
  | o (t : DL')
def Rh.ev : Rh → DS → (Sl → DS → Prop) → Prop
  | .v t => fun δ Q => t δ fun d δ' => Q (.val d) δ'
  | .o t => fun δ Q => t δ fun c δ' => Q (.own c) δ'
inductive PR (X : Cx) (e : Expr) : Rh → Prop where
  | v {t : DE} : PV X e t → PR X e (.v t)
  | o {t : DL'} : PL X e t → PR X e (.o t)
theorem PR.mono {e : Expr} {r : Rh} (h : PR X e r) : MonoE r.ev := by
  cases h with
  | v h => exact fun δ Q Q' k q => h.mono _ _ _ (fun d δ' q => k _ _ q) q
  | o h => exact fun δ Q Q' k q => h.mono _ _ _ (fun d δ' q => k _ _ q) q
def SlOk (g : Gh) (δ : DS) (σ : St) (H F : Hp) (v : V) : Sl → Prop
  | .val d => Rp g.dk F v d
  | .own c => ∃ p o, v = .ref p ∧ H p = some o ∧ CtOk g.dk F o c ∧ F p = none ∧ g.B p = none ∧ Apart δ σ p
def LR (g : Gh) (r : Rh) : TE := fun σ H Q => ∃ δ F, Rl g δ σ H F ∧ r.ev δ fun s δ' => ∀ v H' F', Same F F' → Rl g δ' σ H' F' → SlOk g δ' σ H' F' v s → Q v H'
theorem PR.run {e : Expr} {r : Rh} (h : PR X e r) (g : Gh) : PE X e (LR g r) := by
  cases h with
  | v h => exact PE.mono (h.run g) fun σ H Q ⟨δ, F, R, q⟩ => ⟨δ, F, R, q⟩
  | o h => exact PE.mono (h.run g) fun σ H Q ⟨δ, F, R, q⟩ => ⟨δ, F, R, h.mono _ _ _ (fun c δ' q p o H' F' s R' hp r hf hb ap => q _ H' F' s R' ⟨p, o, rfl, hp, r, hf, hb, ap⟩) q⟩
theorem Rl.setSl {g : Gh} {δ : DS} {σ : St} {H F : Hp} (R : Rl g δ σ H F) {i : Nat} {v : V} {s : Sl} (h : SlOk g δ σ H F v s) : Rl g (δ.set i (some s)) (σ.set i (some v)) H F := by
  cases s with
  | val d => exact R.setVal h
  | own c =>
    obtain ⟨p, o, rfl, hp, r, hf, hb, ap⟩ := h
    exact R.setOwn hp r hf hb ap
def dPar (i j : Nat) (a b : Rh) : DSm := fun E δ => a.ev δ fun s δ1 => b.ev δ1 fun s' δ2 => E.nx ((δ2.set i (some s)).set j (some s'))
theorem apart_set {δ : DS} {σ : St} {p : Addr} {i : Nat} {s : Sl} {v : V} (ap : Apart δ σ p) (hn : ∀ c, s = .own c → v ≠ .ref p) (hl : δ.length = σ.length) : Apart (δ.set i (some s)) (σ.set i (some v)) p := fun j c h => by
  by_cases hj : i = j
  · subst hj
    rw [List.getElem?_set, if_pos rfl] at h
    split at h
    · rename_i hi
      rw [List.getElem?_set_self (by rw [← hl]; exact hi)]
      cases h
      intro e
      cases e
      exact hn c rfl rfl
    · cases h
  · rw [List.getElem?_set_ne hj] at h ⊢
    exact ap j c h
theorem psd_par {i j : Nat} {x y : Str} {a b : Expr} {ra rb : Rh} {px py pt : Pos} {kt k2 pt2} (hc : X.calm = true) (hN : X.N.Nodup) (hij : i ≠ j) (ha : PR X a ra) (hb : PR X b rb) (hi : X.N[i]? = some x := by rfl) (hj : X.N[j]? = some y := by rfl)
    (hx : X.env.scope.names.lookup x = some .local := by rfl) (hy : X.env.scope.names.lookup y = some .local := by rfl)
    (hw : swappedStores [.Tuple [.Name x px, .Name y py] kt pt] (.Tuple [a, b] k2 pt2) X.env = pure (some [x, y]) := by rfl)
    (hs : swapsWithSole [.Tuple [.Name x px, .Name y py] kt pt] (.Tuple [a, b] k2 pt2) pos.line X.env = pure false := by rfl)
    (hs1 : starEach [a, b] X.env = (false, eval a X.env) :: starEach [b] X.env := by rfl) (hs2 : starEach [b] X.env = (false, eval b X.env) :: starEach [] X.env := by rfl) :
    PSd X (.Assign [.Tuple [.Name x px, .Name y py] kt pt] (.Tuple [a, b] k2 pt2) pos) (dPar i j ra rb) := by
  refine ⟨fun g => ⟨fun pins s σ H D' I q => ?_⟩⟩
  have hPA : PA X [a, b] (fun σ H Q => LR g ra σ H fun v H1 => ∃ g', LR g' rb σ H1 fun w H2 => Q [v, w] H2) := by
    refine ⟨fun pos pins s σ H Q I h => ?_⟩
    have h0 : PA X [a, b] (tCons (LR g ra) (tCons (fun σ H Q => ∃ g', LR g' rb σ H Q) tNil)) := by
      refine pa_cons (ha.run g) (pa_cons ⟨fun pins s σ H Q I ⟨g', q⟩ => (hb.run g').run pins s σ H Q I q⟩ pa_nil hs2) hs1
    exact h0.run pos pins s σ H Q I h
  refine (ps_par hc hN hi hj hij hx hy hPA hw hs).run pins s σ H D' I ?_
  obtain ⟨δ, F, E, R, L, q⟩ := q
  refine ⟨δ, F, R, ha.mono _ _ _ (fun s1 δ1 q v H1 F1 sm R1 ok1 => ?_) q⟩
  cases s1 with
  | val d =>
    refine ⟨g, δ1, F1, R1, hb.mono _ _ _ (fun s2 δ2 q w H2 F2 sm2 R2 ok2 => ⟨v, w, rfl, L.nx _ _ H2 F2 (sm.trans sm2) ?_ q⟩) q⟩
    refine (R2.setVal (Rp.mono sm2 ok1)).setSl ?_
    cases s2 with
    | val d => exact ok2
    | own c =>
      obtain ⟨p, o, rfl, hp, r, hf, hb', ap⟩ := ok2
      exact ⟨p, o, rfl, hp, r, hf, hb', apart_set ap (fun c e => nomatch e) R2.len⟩
  | own c1 =>
    obtain ⟨p, o, rfl, hp, r, hf, hb1, ap⟩ := ok1
    have nd := R1.notDk hb1
    have h0 : g.F0 p = none := by
      cases e : g.F0 p with
      | none => rfl
      | some u => rw [R1.ext.old p u e] at hf; cases hf
    refine ⟨g.guard p o, δ1, F1, R1.guard hp hf ap, hb.mono _ _ _ (fun s2 δ2 q w H2 F2 sm2 R2 ok2 => ⟨_, w, rfl, L.nx _ _ H2 F2 (sm.trans sm2) ?_ q⟩) q⟩
    obtain ⟨R3, hp2, hf2, ap2⟩ := R2.unguard hb1 h0 nd R1.ext.bdk r.noTup
    refine (R3.setOwn hp2 (r.mono sm2) hf2 hb1 ap2).setSl ?_
    cases s2 with
    | val d => exact ok2
    | own c =>
      obtain ⟨q', o', rfl, hq, rr, hf', hb', ap'⟩ := ok2
      have hb2 : upd g.B p o q' = none := hb'
      have hne : q' ≠ p := fun e => by subst e; rw [upd_same] at hb2; cases hb2
      rw [upd_ne hne] at hb2
      exact ⟨q', o', rfl, hq, rr, hf', hb2, apart_set ap' (fun c e z => by cases z; exact hne rfl) R3.len⟩
def dForL (p : Pat) (tb : DSm) (E : DEnds) : List D → DS → Prop
  | [], δ => E.nx δ
  | d :: r, δ => dPat p d δ fun δ' => tb { E with nx := dForL p tb E r, ct := dForL p tb E r, bk := E.nx } δ'
def dFor (ti : DI) (p : Pat) (tb : DSm) : DSm := fun E δ => ti δ fun items δ' => dForL p tb E items δ'
def tellF (F H : Hp) (bs : List Addr) : Hp := fun a => if (F a).isSome = true then F a else if a ∈ bs then H a else none
section
variable {g : Gh} {δ : DS} {σ : St} {H F : Hp}
theorem tellF_old {bs : List Addr} {a : Addr} {o : HO} (e : F a = some o) : tellF F H bs a = some o := by
  unfold tellF; rw [e]; rfl
theorem tellF_new {bs : List Addr} {a : Addr} {o : HO} (e : tellF F H bs a = some o) : F a = some o ∨ (F a = none ∧ a ∈ bs ∧ H a = some o) := by
  unfold tellF at e
  cases h : F a with
  | some u => rw [h] at e; exact .inl e
  | none =>
    rw [h] at e
    by_cases c : a ∈ bs
    · rw [if_neg (by simp), if_pos c] at e; exact .inr ⟨rfl, c, e⟩
    · rw [if_neg (by simp), if_neg c] at e; cases e
theorem tellF_off {bs : List Addr} {a : Addr} (e : F a = none) (c : a ∈ bs → H a = none) : tellF F H bs a = none := by
  unfold tellF
  rw [e, if_neg (by simp)]
  split
  · exact c ‹_›
  · rfl
theorem Rl.tell (R : Rl g δ σ H F) (bs : List Addr) (hb : ∀ b ∈ bs, ∃ xs, H b = some (.tup xs)) : Same F (tellF F H bs) ∧ Rl g δ σ H (tellF F H bs) ∧ ∀ b ∈ bs, tellF F H bs b = H b := by
  have s : Same F (tellF F H bs) := fun a o e => tellF_old e
  refine ⟨s, ⟨⟨R.ext.old.trans s, fun a o e => ?_, R.ext.base, fun a o e => ?_, fun a d => ?_, R.ext.bdk, R.ext.dko⟩, R.len, fun i d e => ?_, fun i c e => ?_, R.dif⟩, fun b hbb => ?_⟩
  · rcases tellF_new e with q | ⟨_, _, q⟩
    · exact R.ext.sub a o q
    · exact q
  · rcases tellF_new e with q | ⟨_, c, q⟩
    · exact R.ext.new a o q
    · obtain ⟨xs, q'⟩ := hb a c
      rw [q] at q'
      exact .inr (.inr ⟨xs, Option.some.inj q'⟩)
  · refine tellF_off (R.ext.fdk a d) fun c => ?_
    obtain ⟨xs, q⟩ := hb a c
    rcases d with ⟨a0, a1, a2, e, d⟩ | ⟨q', hq⟩
    · obtain ⟨_, _, _, h0, h1, h2, _⟩ := R.ext.dko.deck a0 a1 a2 e
      rcases d with rfl | rfl | rfl
      · rw [q] at h0; cases h0
      · rw [q] at h1; cases h1
      · rw [q] at h2; cases h2
    · obtain ⟨t, e, _⟩ := R.ext.dko.tabs _ hq
      simp only at e
      rw [q] at e; cases e
  · obtain ⟨v, e1, r⟩ := R.val i d e
    exact ⟨v, e1, r.mono s⟩
  · obtain ⟨p, o, e1, hp, r, hf, hbn⟩ := R.own i c e
    refine ⟨p, o, e1, hp, r.mono s, tellF_off hf fun c => ?_, hbn⟩
    obtain ⟨xs, q⟩ := hb p c
    rw [hp] at q
    exact absurd (Option.some.inj q) (r.noTup xs)
  · obtain ⟨xs, q⟩ := hb b hbb
    cases h : F b with
    | some u => rw [tellF_old h, R.ext.sub b u h]
    | none => unfold tellF; rw [h, if_neg (by simp), if_pos hbb]
end
theorem item_ok {g : Gh} {δ : DS} {σ : St} {H F F1 H2 : Hp} {x : V} {d : D} (R : Rl g δ σ H F) (s : Same F1 F)
    (h : (H2 = H ∧ Rp g.dk F1 x d) ∨ (∃ T xs ds, x = .ref T ∧ H T = none ∧ H2 = upd H T (.tup xs) ∧ d = .tup ds ∧ Rps g.dk F1 xs ds) ∨ (H2 = H ∧ ∃ T xs ds, x = .ref T ∧ H T = some (.tup xs) ∧ d = .tup ds ∧ Rps g.dk F1 xs ds)) : ∃ F2, Same F F2 ∧ Rl g δ σ H2 F2 ∧ Rp g.dk F2 x d := by
  rcases h with ⟨rfl, r⟩ | ⟨T, xs, ds, rfl, hT, rfl, rfl, r⟩ | ⟨rfl, T, xs, ds, rfl, hT, rfl, r⟩
  · exact ⟨F, Same.refl _, R, Rp.mono s r⟩
  · obtain ⟨R', s'⟩ := R.mkF (.tup xs) hT
    exact ⟨_, s', R', .tup upd_same (r.mono (s.trans s'))⟩
  · obtain ⟨s', R', tl⟩ := R.tell [T] fun b hb => ⟨xs, by rw [List.mem_singleton.mp hb]; exact hT⟩
    exact ⟨_, s', R', .tup (by rw [tl T (by simp), hT]) (r.mono (s.trans s'))⟩
theorem psd_for {tg iter : Expr} {body : List Stmt} {ti : DI} {p : Pat} {tb : DSm} (hp : PassesOwn (model X.prog X.w) X.A X.env X.xe) (hc : X.calm = true) (hi : PId X tg iter ti) (hg : PG X tg (gPat X.K p)) (hb : PSds X body tb)
    (hs : ∀ x, foldedSetIterable iter X.env x = pure x := by intro _; rfl) : PSd X (.For tg iter body [] pos) (dFor ti p tb) := by
  refine ⟨fun g => PS.mono (ps_for hp hc (hi.run g) hg (hb.run g) hs) fun D' σ H ⟨δ, F, E, R, L, q⟩ => ⟨δ, F, R, hi.mono _ _ _ (fun items δ1 q J H1 F1 s1 R1 ok => ?_) q⟩⟩
  have W : Walk J items.length (fun H => Same F1 H) (fun i H x H2 => ∃ d, items[i]? = some d ∧ ((H2 = H ∧ Rp g.dk F1 x d) ∨ (∃ T xs ds, x = .ref T ∧ H T = none ∧ H2 = upd H T (.tup xs) ∧ d = .tup ds ∧ Rps g.dk F1 xs ds) ∨ (H2 = H ∧ ∃ T xs ds, x = .ref T ∧ H T = some (.tup xs) ∧ d = .tup ds ∧ Rps g.dk F1 xs ds))) :=
    ⟨fun i H hi s => ok.goes i H hi s, fun H s => ok.stops H s, fun i H x H2 hi s y => ok.yields i H x H2 hi s y⟩
  refine for_it W (fun i σ H => ∃ δ' F', Same F1 F' ∧ Rl g δ' σ H F' ∧ dForL p tb E (items.drop i) δ') ⟨δ1, F1, Same.refl _, R1, q⟩ (fun i σ H _ ⟨δ', F', s, R', _⟩ => s.trans R'.ext.sub) ?_ ?_
  · rintro i x σ' H0 H2 hil ⟨δ', F', s, R', q⟩ ⟨d, hd, hy⟩
    rw [List.drop_eq_getElem_cons hil] at q
    have ed : items[i] = d := by
      rw [List.getElem?_eq_getElem hil] at hd; exact Option.some.inj hd
    rw [ed] at q
    obtain ⟨F2, s2, R2, r2⟩ := item_ok R' s hy
    refine dPat_ok p d x δ' σ' _ (vs := p.ix) (fun i h => h) q R2 r2 fun δ3 σ3 R3 _ q3 => ?_
    have L2 := L.mono (s1.trans (s.trans s2))
    refine ⟨δ3, F2, { E with nx := dForL p tb E (items.drop (i + 1)), ct := dForL p tb E (items.drop (i + 1)), bk := E.nx }, R3, ⟨fun δ4 σ4 H4 F4 s4 R4 q4 => ⟨δ4, F4, (s.trans s2).trans s4, R4, q4⟩, fun δ4 σ4 H4 F4 s4 R4 q4 => L2.nx δ4 σ4 H4 F4 s4 R4 q4, fun δ4 σ4 H4 F4 s4 R4 q4 => ⟨δ4, F4, (s.trans s2).trans s4, R4, q4⟩, L2.rt⟩, q3⟩
  · rintro σ' H0 ⟨δ', F', s, R', q⟩
    rw [List.drop_length] at q
    exact L.nx _ _ _ _ (s1.trans s) R' q
def dWhile (c : DT) (tb : DSm) : DSm := fun E δ => ∃ W : Nat → DS → Prop, (∃ m, W m δ) ∧ ∀ m δ, W m δ → c δ fun b δ1 => if b = true then tb { E with nx := fun δ' => ∃ m', m' < m ∧ W m' δ', ct := fun δ' => ∃ m', m' < m ∧ W m' δ', bk := E.nx } δ1 else E.nx δ1
theorem psd_while {c : Expr} {body : List Stmt} {tc : DT} {tb : DSm} (hp : PassesOwn (model X.prog X.w) X.A X.env X.xe) (hc : PTd X c tc) (hb : PSds X body tb) : PSd X (.While c body [] pos) (dWhile tc tb) := by
  refine ⟨fun g => PS.mono (ps_while hp (hc.run g) (hb.run g)) fun D' σ H ⟨δ, F, E, R, L, W, ⟨m0, w0⟩, turn⟩ => ⟨fun m σ H => ∃ δ' F', Same F F' ∧ Rl g δ' σ H F' ∧ W m δ', ⟨m0, δ, F, Same.refl _, R, w0⟩, fun m σ1 H1 ⟨δ1, F1, s1, R1, w1⟩ => ?_⟩⟩
  refine ⟨δ1, F1, R1, hc.mono _ _ _ (fun b δ2 q H2 F2 s2 R2 => mono_ite (fun q => ?_) (fun q => L.nx _ _ _ _ (s1.trans s2) R2 q) q) (turn m δ1 w1)⟩
  have L2 := L.mono (s1.trans s2)
  refine ⟨fun σ3 H3 => ∃ m', m' < m ∧ ∃ δ' F', Same F F' ∧ Rl g δ' σ3 H3 F' ∧ W m' δ', fun σ' H' ⟨m', hm, δ', F', s, R', w⟩ => ⟨m', hm, δ', F', s, R', w⟩, δ2, F2, { E with nx := fun δ' => ∃ m', m' < m ∧ W m' δ', ct := fun δ' => ∃ m', m' < m ∧ W m' δ', bk := E.nx }, R2,
    ⟨fun δ4 σ4 H4 F4 s4 R4 ⟨m', hm, w⟩ => ⟨m', hm, δ4, F4, (s1.trans s2).trans s4, R4, w⟩, fun δ4 σ4 H4 F4 s4 R4 q4 => L2.nx δ4 σ4 H4 F4 s4 R4 q4, fun δ4 σ4 H4 F4 s4 R4 ⟨m', hm, w⟩ => ⟨m', hm, δ4, F4, (s1.trans s2).trans s4, R4, w⟩, L2.rt⟩, q⟩
def wipeD (δ : DS) : List Nat → DS
  | [] => δ
  | v :: vs => (wipeD δ vs).set v none
def kv (δ : DS) (i : Nat) : Option Sl := match δ[i]? with
  | some (some (.val d)) => some (.val d)
  | _ => none
def restore (δ1 δ2 : DS) : List Nat → DS
  | [] => δ2
  | v :: vs => (restore δ1 δ2 vs).set v (kv δ1 v)
theorem restore_length (δ1 δ2 : DS) : ∀ vs, (restore δ1 δ2 vs).length = δ2.length
  | [] => rfl
  | v :: vs => by unfold restore; rw [List.length_set, restore_length δ1 δ2 vs]
theorem restore_get (δ1 δ2 : DS) : ∀ (vs : List Nat) (i : Nat) (s : Sl), (restore δ1 δ2 vs)[i]? = some (some s) → (i ∈ vs ∧ ∃ d, s = .val d ∧ δ1[i]? = some (some (.val d))) ∨ (i ∉ vs ∧ δ2[i]? = some (some s))
  | [], i, s, h => .inr ⟨by simp, h⟩
  | v :: vs, i, s, h => by
    unfold restore at h
    by_cases hi : v = i
    · subst hi
      rw [List.getElem?_set, if_pos rfl] at h
      split at h
      · have h' : kv δ1 v = some s := Option.some.inj h
        unfold kv at h'
        split at h'
        · cases h'
          exact .inl ⟨by simp, _, rfl, by assumption⟩
        · cases h'
      · cases h
    · rw [List.getElem?_set_ne hi] at h
      rcases restore_get δ1 δ2 vs i s h with ⟨h1, h2⟩ | ⟨h1, h2⟩
      · exact .inl ⟨by simp [h1], h2⟩
      · exact .inr ⟨by simp [h1, Ne.symm hi], h2⟩
theorem Rl.wipeD {g : Gh} {δ : DS} {σ : St} {H F : Hp} (R : Rl g δ σ H F) : ∀ vs, Rl g (wipeD δ vs) (wipe σ vs) H F
  | [] => R
  | v :: vs => by
    unfold DL.wipeD wipe
    exact (Rl.wipeD R vs).wipe1 v
theorem wipe_wipe (σ : St) (vs : List Nat) : wipe (wipe σ vs) vs = wipe σ vs := by
  apply List.ext_getElem?
  intro i
  rw [wipe_get, wipe_get]
  split
  · cases σ[i]? <;> rfl
  · rfl
theorem Apart.wipeD {δ : DS} {σ : St} {p : Addr} (ap : Apart δ σ p) : ∀ vs, Apart (DL.wipeD δ vs) (wipe σ vs) p
  | [] => ap
  | v :: vs => fun i c h1 h2 => by
    unfold DL.wipeD at h1
    unfold wipe at h2
    by_cases hi : v = i
    · subst hi
      rw [List.getElem?_set, if_pos rfl] at h1
      split at h1 <;> cases h1
    · rw [List.getElem?_set_ne hi] at h1 h2
      exact Apart.wipeD ap vs i c h1 h2
theorem Rl.restore {g : Gh} {δ1 δ2 : DS} {σ : St} {H1 F1 H2 F2 : Hp} {vs : List Nat} (R1 : Rl g δ1 σ H1 F1) (R2 : Rl g δ2 (wipe σ vs) H2 F2) (s : Same F1 F2) : Rl g (restore δ1 δ2 vs) σ H2 F2 := by
  have out : ∀ i, i ∉ vs → (wipe σ vs)[i]? = σ[i]? := fun i h => by rw [wipe_get, if_neg h]
  have hown : ∀ (i : Nat) (c : Ct), (DL.restore δ1 δ2 vs)[i]? = some (some (.own c)) → i ∉ vs ∧ δ2[i]? = some (some (.own c)) := fun i c h => by
    rcases restore_get δ1 δ2 vs i _ h with ⟨_, d, e, _⟩ | h'
    · cases e
    · exact h'
  refine ⟨R2.ext, by rw [restore_length, R2.len, wipe_length], fun i d h => ?_, fun i c h => ?_, fun i j c c' p h1 h2 h3 h4 => ?_⟩
  · rcases restore_get δ1 δ2 vs i _ h with ⟨_, d', e, h'⟩ | ⟨hi, h'⟩
    · cases e
      obtain ⟨v, e1, r⟩ := R1.val i d h'
      exact ⟨v, e1, r.mono s⟩
    · obtain ⟨v, e1, r⟩ := R2.val i d h'
      rw [out i hi] at e1
      exact ⟨v, e1, r⟩
  · obtain ⟨hi, h'⟩ := hown i c h
    obtain ⟨p, o, e1, r⟩ := R2.own i c h'
    rw [out i hi] at e1
    exact ⟨p, o, e1, r⟩
  · obtain ⟨hi, h1'⟩ := hown i c h1
    obtain ⟨hj, h2'⟩ := hown j c' h2
    exact R2.dif i j c c' p h1' h2' (by rw [out i hi]; exact h3) (by rw [out j hj]; exact h4)
def dCompL (p : Pat) (tt : DT) (te : DE) (vs : List Nat) (K : List D → DS → Prop) : List D → DS → List D → Prop
  | [], δ, acc => K acc δ
  | d :: r, δ, acc => dPat p d δ fun δ1 => tt δ1 fun b δ2 => if b = true then te δ2 fun y δ3 => acc.length < 1000000 ∧ dCompL p tt te vs K r (wipeD δ3 vs) (acc ++ [y]) else dCompL p tt te vs K r (wipeD δ2 vs) acc
def dComp (ti : DI) (p : Pat) (tt : DT) (te : DE) (vs : List Nat) : DL' := fun δ Q => ti δ fun items δ1 => dCompL p tt te vs (fun acc δ2 => Q (.l acc) (restore δ1 δ2 vs)) items (wipeD δ1 vs) []
theorem dPat_mono {K K' : DS → Prop} (h : ∀ δ, K δ → K' δ) : ∀ (p : Pat) (d : D) (δ : DS), dPat p d δ K → dPat p d δ K'
  | .nm i, d, δ, q => by simp only [dPat] at q ⊢; exact h _ q
  | .tp ps, .tup ds, δ, q => by simp only [dPat] at q ⊢; exact dPats_mono h ps ds δ q
  | .tp _, .non, _, h => by simp [dPat] at h
  | .tp _, .bl _, _, h => by simp [dPat] at h
  | .tp _, .int _, _, h => by simp [dPat] at h
  | .tp _, .str _, _, h => by simp [dPat] at h
  | .tp _, .lst _, _, h => by simp [dPat] at h
  | .tp _, .dct _ _, _, h => by simp [dPat] at h
  | .tp _, .dk, _, h => by simp [dPat] at h
where dPats_mono {K K' : DS → Prop} (h : ∀ δ, K δ → K' δ) : ∀ (ps : List Pat) (ds : List D) (δ : DS), dPats ps ds δ K → dPats ps ds δ K'
  | [], [], δ, q => by simp only [dPats] at q ⊢; exact h _ q
  | p :: ps, d :: ds, δ, q => by simp only [dPats] at q ⊢; exact dPat_mono (fun δ' q => dPats_mono h ps ds δ' q) p d δ q
  | [], _ :: _, _, h => by simp [dPats] at h
  | _ :: _, [], _, h => by simp [dPats] at h
theorem dCompL_mono {p : Pat} {tt : DT} {te : DE} {vs : List Nat} {K K' : List D → DS → Prop} (mt : MonoE tt) (me : MonoE te) (h : ∀ a δ, K a δ → K' a δ) : ∀ (items : List D) (δ : DS) (acc : List D), dCompL p tt te vs K items δ acc → dCompL p tt te vs K' items δ acc
  | [], δ, acc, q => h _ _ q
  | d :: r, δ, acc, q => dPat_mono (fun δ1 q => mt _ _ _ (fun b δ2 q => mono_ite (fun q => me _ _ _ (fun y δ3 q => ⟨q.1, dCompL_mono mt me h r _ _ q.2⟩) q) (fun q => dCompL_mono mt me h r _ _ q) q) q) p d δ q
theorem monoComp {ti : DI} {p : Pat} {tt : DT} {te : DE} {vs : List Nat} (mi : MonoE ti) (mt : MonoE tt) (me : MonoE te) : MonoE (dComp ti p tt te vs) := fun δ Q Q' h q =>
  mi _ _ _ (fun items δ1 q => dCompL_mono mt me (fun a δ2 q => h _ _ q) items _ _ q) q
structure PTsd (X : Cx) (ifs : List Expr) (t : DT) : Prop where
  mono : MonoE t
  run : ∀ g, PTs X ifs (LT g t)
def dYes : DT := fun δ Q => Q true δ
theorem PTs.mono {ifs : List Expr} {t t' : TT} (h : PTs X ifs t) (i : ∀ σ H Q, t' σ H Q → t σ H Q) : PTs X ifs t' := ⟨fun pins s σ H Q I q => h.run pins s σ H Q I (i σ H Q q)⟩
theorem ptsd_nil : PTsd X [] dYes := ⟨fun δ Q Q' h q => h _ _ q, fun g => PTs.mono pts_nil fun σ H Q ⟨δ, F, R, q⟩ => q H F (Same.refl _) R⟩
theorem ptsd_one {c : Expr} {t : DT} (h : PTd X c t) : PTsd X [c] t := ⟨h.mono, fun g => pts_one (h.run g)⟩
theorem le_comp {K : PySem.W.Frag} {g : Gh} {ti : DI} {p : Pat} {tt : DT} {te : DE} {vs : List Nat} (mi : MonoE ti) (mt : MonoE tt) (me : MonoE te) (hv : ∀ i ∈ p.ix, i ∈ vs) {σ : St} {H : Hp} {Q : VK} (h : LL g (dComp ti p tt te vs) σ H Q) :
    tLc (LI g ti) (gPat K p) (fun σ H Q => ∃ g', LT g' tt σ H Q) (fun σ H Q => ∃ g', LE g' te σ H Q) vs σ H Q := by
  obtain ⟨δ, F, R, q⟩ := h
  refine ⟨δ, F, R, mi _ _ _ (fun items δ1 q J H1 F1 s1 R1 ok Dp hD => ?_) q⟩
  have W : Walk J items.length (fun H => Same F1 H) (fun i H x H2 => ∃ d, items[i]? = some d ∧ ((H2 = H ∧ Rp g.dk F1 x d) ∨ (∃ T xs ds, x = .ref T ∧ H T = none ∧ H2 = upd H T (.tup xs) ∧ d = .tup ds ∧ Rps g.dk F1 xs ds) ∨ (H2 = H ∧ ∃ T xs ds, x = .ref T ∧ H T = some (.tup xs) ∧ d = .tup ds ∧ Rps g.dk F1 xs ds))) :=
    ⟨fun i H hi s => ok.goes i H hi s, fun H s => ok.stops H s, fun i H x H2 hi s y => ok.yields i H x H2 hi s y⟩
  have hb1 : g.B Dp = none := R1.ext.bnone hD
  have nd : ¬ isDk g.dk Dp := R1.ext.notDk hD
  have h0 : g.F0 Dp = none := by
    cases e : g.F0 Dp with
    | none => rfl
    | some u => have := R1.ext.old Dp u e; rw [R1.ext.fnone hD] at this; cases this
  have lift : ∀ {δ' : DS} {σ' : St} {H' F' : Hp} {acc : List V}, Rl g δ' σ' H' F' → H' Dp = some (.lst acc) → F' Dp = none → Apart δ' σ' Dp → Rl (g.guard Dp (.lst acc)) δ' σ' H' F' := fun R hp hf ap => R.guard hp hf ap
  have nt : ∀ (T : Addr) (H' : Hp) (acc : List V), H' Dp = some (.lst acc) → H' T = none → Dp ≠ T := fun T H' acc h1 h2 e => by subst e; rw [h1] at h2; cases h2
  refine lc_it W (g := gPat K p) (tt := fun σ H Q => ∃ g', LT g' tt σ H Q) (te := fun σ H Q => ∃ g', LE g' te σ H Q) (vs := vs) (σ := σ) (D := Dp) (Qd := fun H => Q (.ref Dp) H) (fun i H => ∃ δ' F' acc ds, Same F1 F' ∧ Rl g δ' (wipe σ vs) H F' ∧ H Dp = some (.lst acc) ∧ Rps g.dk F' acc ds ∧ F' Dp = none ∧ Apart δ' (wipe σ vs) Dp ∧ dCompL p tt te vs (fun acc δ2 => RQL g σ F Q (.l acc) (restore δ1 δ2 vs)) (items.drop i) δ' ds)
    ⟨wipeD δ1 vs, F1, [], [], Same.refl _, (R1.lay _ hD).wipeD vs, upd_same, .nil, R1.ext.fnone hD, (R1.apart hD).wipeD vs, q⟩ (fun i H _ ⟨δ', F', acc, ds, s, R', _⟩ => s.trans R'.ext.sub) ?_ ?_
  · rintro i x H0 H2 hil ⟨δ', F', acc, ds, s, R', hp, ra, hf, ap, q⟩ ⟨d, hd, hy⟩
    rw [List.drop_eq_getElem_cons hil] at q
    have ed : items[i] = d := by
      rw [List.getElem?_eq_getElem hil] at hd; exact Option.some.inj hd
    rw [ed] at q
    obtain ⟨F2, s2, R2, r2⟩ := item_ok (R'.guard hp hf ap) s hy
    refine dPat_ok p d x δ' _ _ hv q R2 r2 fun δ3 σ3 R3 k3 q3 => ⟨?_, g.guard Dp (.lst acc), δ3, F2, R3, mt _ _ _ (fun b δ4 q4 H4 F4 s4 R4 => mono_ite (fun q4 => ?_) (fun q4 => ?_) q4) q3⟩
    · rw [k3.wipe, wipe_wipe]
    · refine ⟨g.guard Dp (.lst acc), δ4, F4, R4, me _ _ _ (fun y δ5 q5 v H5 F5 s5 R5 r5 => ?_) q4⟩
      obtain ⟨R6, hp6, hf6, ap6⟩ := R5.unguard hb1 h0 nd R1.ext.bdk (fun _ z => nomatch z)
      have s6 := (s2.trans s4).trans s5
      refine ⟨acc, hp6, by rw [(ra.mono s6).length, sizeLine_eq]; have := q5.1; omega, wipeD δ5 vs, F5, acc ++ [v], ds ++ [y], s.trans s6, ?_, upd_same, (ra.mono s6).append (.cons r5 .nil), hf6, ?_, q5.2⟩
      · have R7 : Rl g δ5 σ3 (upd H5 Dp (.lst (acc ++ [v]))) F5 := ⟨R6.ext.put hb1 hf6 (lst_noCode hp6), R6.len, R6.val, fun i c e => by
          obtain ⟨q, u, e1, hq, rest⟩ := R6.own i c e
          have hne : q ≠ Dp := fun z => by subst z; exact ap6 i c e e1
          exact ⟨q, u, e1, by rw [upd_ne hne]; exact hq, rest⟩, R6.dif⟩
        have R8 := R7.wipeD vs
        rw [k3.wipe, wipe_wipe] at R8
        exact R8
      · have a8 := ap6.wipeD vs
        rw [k3.wipe, wipe_wipe] at a8
        exact a8
    · obtain ⟨R6, hp6, hf6, ap6⟩ := R4.unguard hb1 h0 nd R1.ext.bdk (fun _ z => nomatch z)
      have s6 := s2.trans s4
      refine ⟨wipeD δ4 vs, F4, acc, ds, s.trans s6, ?_, hp6, ra.mono s6, hf6, ?_, q4⟩
      · have R8 := R6.wipeD vs
        rw [k3.wipe, wipe_wipe] at R8
        exact R8
      · have a8 := ap6.wipeD vs
        rw [k3.wipe, wipe_wipe] at a8
        exact a8
  · rintro H0 ⟨δ', F', acc, ds, s, R', hp, ra, hf, ap, q⟩
    rw [List.drop_length] at q
    have q' : RQL g σ F Q (.l ds) (restore δ1 δ' vs) := q
    refine q' Dp _ H0 F' (s1.trans s) (R1.restore R' s) hp ⟨acc, rfl, ra⟩ hf hb1 fun i c h e => ?_
    rcases restore_get δ1 δ' vs i _ h with ⟨_, d, e', _⟩ | ⟨hi, h'⟩
    · cases e'
    · exact ap i c h' (by rw [wipe_get, if_neg hi]; exact e)
end
end DL
namespace DL
open PySem PySem.Spec PyProof.Rows L2
section
variable {X : Cx} {pos : Pos}
section
variable {elt tg iter : Expr} {ifs : List Expr} {scope : Scope} {own : List (Str × Nat)} {vs : List Nat} {ti : DI} {p : Pat} {tt : DT} {te : DE}
theorem pl_comp (hc : X.calm = true) (hN : X.N.Nodup) (hi : PId X tg iter ti) (ok : BlkOk X.N X.env.scope scope own)
    (hg : ∀ (s : Shared) (H : Hp) (C : Addr) (cl : List (Str × Addr)) (fp : List Addr), PG (X.blk s H scope (compEnvC scope cl C X.env) fp) tg (gPat X.K p))
    (ht : ∀ (s : Shared) (H : Hp) (C : Addr) (cl : List (Str × Addr)) (fp : List Addr), PTsd (X.blk s H scope (compEnvC scope cl C X.env) fp) ifs tt)
    (he : ∀ (s : Shared) (H : Hp) (C : Addr) (cl : List (Str × Addr)) (fp : List Addr), PV (X.blk s H scope (compEnvC scope cl C X.env) fp) elt te)
    (hvs : own.map (·.2) = vs := by rfl) (hv : ∀ i ∈ p.ix, i ∈ vs := by simp [Pat.ix, Pat.ixs]) (hs : ∀ x, foldedSetIterable iter X.env x = pure x := by intro _; rfl) : PL X (.ListComp elt [⟨tg, iter, ifs, 0⟩] scope pos) (dComp ti p tt te vs) := by
  subst hvs
  have mt := (ht X.s_0 X.H_0 (0 : Nat) [] []).mono
  have me := (he X.s_0 X.H_0 (0 : Nat) [] []).mono
  refine ⟨monoComp hi.mono mt me, fun g => PE.mono (pe_lc (g := gPat X.K p) (tt := fun σ H Q => ∃ g', LT g' tt σ H Q) (te := fun σ H Q => ∃ g', LE g' te σ H Q) hc hN (hi.run g) ok hg (fun s H C cl fp => ⟨fun pins s' σ H' Q I ⟨g', q⟩ => ((ht s H C cl fp).run g').run pins s' σ H' Q I q⟩) (fun s H C cl fp => ⟨fun pins s' σ H' Q I ⟨g', q⟩ => ((he s H C cl fp).run g').run pins s' σ H' Q I q⟩) hs) fun σ H Q h => le_comp hi.mono mt me hv h⟩
theorem psd_setLc {i : Nat} {y : Str} {py spos : Pos} (hc : X.calm = true) (hN : X.N.Nodup) (hi : PId X tg iter ti) (ok : BlkOk X.N X.env.scope scope own)
    (hg : ∀ (s : Shared) (H : Hp) (C : Addr) (cl : List (Str × Addr)) (fp : List Addr), PG (X.blk s H scope (compEnvC scope cl C X.env) fp) tg (gPat X.K p))
    (ht : ∀ (s : Shared) (H : Hp) (C : Addr) (cl : List (Str × Addr)) (fp : List Addr), PTsd (X.blk s H scope (compEnvC scope cl C X.env) fp) ifs tt)
    (he : ∀ (s : Shared) (H : Hp) (C : Addr) (cl : List (Str × Addr)) (fp : List Addr), PV (X.blk s H scope (compEnvC scope cl C X.env) fp) elt te)
    (hsw : swapsWith (.ListComp elt [⟨tg, iter, ifs, 0⟩] scope pos) (some (.Name y py)) spos.line X.env = pure true)
    (hy : X.N[i]? = some y := by rfl) (hyl : X.env.scope.names.lookup y = some .local := by rfl)
    (hvs : own.map (·.2) = vs := by rfl) (hv : ∀ i ∈ p.ix, i ∈ vs := by simp [Pat.ix, Pat.ixs]) (hs : ∀ x, foldedSetIterable iter X.env x = pure x := by intro _; rfl) : PSd X (.Assign [.Name y py] (.ListComp elt [⟨tg, iter, ifs, 0⟩] scope pos) spos) (dSetL i (dComp ti p tt te vs)) := by
  subst hvs
  have mt := (ht X.s_0 X.H_0 (0 : Nat) [] []).mono
  have me := (he X.s_0 X.H_0 (0 : Nat) [] []).mono
  refine ⟨fun g => PS.mono (ps_setLc (g := gPat X.K p) (tt := fun σ H Q => ∃ g', LT g' tt σ H Q) (te := fun σ H Q => ∃ g', LE g' te σ H Q) hc hN hy hyl hsw (hi.run g) ok hg (fun s H C cl fp => ⟨fun pins s' σ H' Q I ⟨g', q⟩ => ((ht s H C cl fp).run g').run pins s' σ H' Q I q⟩) (fun s H C cl fp => ⟨fun pins s' σ H' Q I ⟨g', q⟩ => ((he s H C cl fp).run g').run pins s' σ H' Q I q⟩) hs) fun D' σ H h => ?_⟩
  exact le_comp hi.mono mt me hv (show LL g (dComp ti p tt te (own.map (·.2))) σ H fun x H1 => D'.nx (σ.set i (some x)) H1 from by
    obtain ⟨δ, F, E, R, L, q⟩ := h
    exact ⟨δ, F, R, monoComp hi.mono mt me _ _ _ (fun c δ' q p o H' F' s R' hp r hf hb ap => L.nx _ _ H' F' s (R'.setOwn hp r hf hb ap) q) q⟩)
end
section
variable {e : Expr} {te : DE} {i : Nat} {x : Str} {p apos cpos : Pos}
def ownL (δ : DS) (i : Nat) (K : List D → Prop) : Prop := ∃ ds, δ[i]? = some (some (.own (.l ds))) ∧ K ds
theorem Rl.ownL {g : Gh} {δ : DS} {σ : St} {H F : Hp} (R : Rl g δ σ H F) {ds : List D} (h : δ[i]? = some (some (.own (.l ds)))) : ∃ p xs, σ[i]? = some (some (.ref p)) ∧ H p = some (.lst xs) ∧ Rps g.dk F xs ds := by
  obtain ⟨p, o, e1, hp, ⟨xs, rfl, r⟩, _⟩ := R.own i _ h
  exact ⟨p, xs, e1, hp, r⟩
def dAppend (i : Nat) (te : DE) : DE := fun δ Q => ownL δ i fun _ => te δ fun d δ' => ownL δ' i fun ds => ds.length < 1000000 ∧ Q .non (δ'.set i (some (.own (.l (ds ++ [d])))))
theorem pv_append (he : PV X e te) (hN : X.N[i]? = some x := by rfl) (hv : Vis X.env.scope x := by first | exact Or.inl rfl | exact Or.inr (Or.inl rfl) | exact Or.inr (Or.inr rfl)) (hd : (x == ("__debug__" : Str)) = false := by decide)
    (hcd : (x == ("__classdict__" : Str)) = false := by decide)
    (hbase : attributeBase (.Name x p) "append" X.env (eval (.Name x p) X.env) = eval (.Name x p) X.env := by rfl)
    (hfew : ((backTo cpos (starEach [e] X.env)).all (fun x => !x.1) && (backToKw cpos (keywordEach [] X.env)).all (fun x => x.1.isSome)
      && decide (([e] : List Expr).length + ([] : List Keyword).length + (if ([] : List Keyword).isEmpty then 0 else 1) < 30)) = true := by rfl)
    (hline : (apos.endLine == cpos.line) = true := by rfl) (hs : starEach [e] X.env = (false, eval e X.env) :: starEach [] X.env := by rfl) :
    PV X (.Call (.Attribute (.Name x p) "append" apos) [e] [] cpos) (dAppend i te) := by
  refine ⟨fun δ Q Q' k ⟨ds, e, q⟩ => ⟨ds, e, he.mono _ _ _ (fun d δ' ⟨ds, e, l, q⟩ => ⟨ds, e, l, k _ _ q⟩) q⟩, fun g => PE.mono (pe_bm PySem.F.plainAttrs_list PySem.F.slot_list_append PySem.F.type_list_append mt_append (pv i hN hv hd hcd) (pa_cons (he.run g) pa_nil hs) hbase hfew hline hs) fun σ H Q ⟨δ, F, R, ds, hi, q⟩ => ?_⟩
  obtain ⟨a, xs, e1, hp, r⟩ := R.ownL hi
  refine ⟨_, e1, .inl ⟨rfl, _, .of hp⟩, δ, F, R, he.mono _ _ _ (fun d δ' ⟨ds', hi', l, q⟩ v H' F' s R' rv => ?_) q⟩
  obtain ⟨a', xs', e2, hp', r'⟩ := R'.ownL hi'
  rw [e1] at e2; cases e2
  refine ⟨a, xs', v, rfl, rfl, hp', by rw [r'.length, sizeLine_eq]; omega, ?_⟩
  exact q _ _ F' s (R'.write hi' e1 ⟨_, rfl, r'.append (.cons rv .nil)⟩) .non
def dExtend (i : Nat) (te : DE) : DE := fun δ Q => ownL δ i fun _ => te δ fun d δ' => ∃ es, d = .lst es ∧ ownL δ' i fun ds => ds.length + es.length < 1000000 ∧ Q .non (δ'.set i (some (.own (.l (ds ++ es)))))
def dPop (i : Nat) : DE := fun δ Q => ownL δ i fun ds => ∃ d, ds[ds.length - 1]? = some d ∧ Q d (δ.set i (some (.own (.l ds.dropLast))))
theorem Rps.dropLast {k : Dk} {F : Hp} {v : List V} {d : List D} (r : Rps k F v d) : Rps k F v.dropLast d.dropLast := by
  rw [List.dropLast_eq_take, List.dropLast_eq_take, r.length]
  exact r.take _
def dPopAt (i : Nat) (te : DE) : DE := fun δ Q => ownL δ i fun _ => te δ fun d δ' => ∃ n, d = .int n ∧ ownL δ' i fun ds => ∃ j y, ixN ds.length n = some j ∧ ds.length < 1000000 ∧ ds[j]? = some y ∧ Q y (δ'.set i (some (.own (.l (ds.eraseIdx j)))))
theorem pv_popAt (he : PV X e te) (hN : X.N[i]? = some x := by rfl) (hv : Vis X.env.scope x := by first | exact Or.inl rfl | exact Or.inr (Or.inl rfl) | exact Or.inr (Or.inr rfl)) (hd : (x == ("__debug__" : Str)) = false := by decide)
    (hcd : (x == ("__classdict__" : Str)) = false := by decide)
    (hbase : attributeBase (.Name x p) "pop" X.env (eval (.Name x p) X.env) = eval (.Name x p) X.env := by rfl)
    (hfew : ((backTo cpos (starEach [e] X.env)).all (fun x => !x.1) && (backToKw cpos (keywordEach [] X.env)).all (fun x => x.1.isSome)
      && decide (([e] : List Expr).length + ([] : List Keyword).length + (if ([] : List Keyword).isEmpty then 0 else 1) < 30)) = true := by rfl)
    (hline : (apos.endLine == cpos.line) = true := by rfl) (hs : starEach [e] X.env = (false, eval e X.env) :: starEach [] X.env := by rfl) :
    PV X (.Call (.Attribute (.Name x p) "pop" apos) [e] [] cpos) (dPopAt i te) := by
  refine ⟨fun δ Q Q' k ⟨ds, e, q⟩ => ⟨ds, e, he.mono _ _ _ (fun d δ' ⟨n, en, ds, e, j, y, h1, h2, h3, q⟩ => ⟨n, en, ds, e, j, y, h1, h2, h3, k _ _ q⟩) q⟩, fun g => PE.mono (pe_bm PySem.F.plainAttrs_list PySem.F.slot_list_pop PySem.F.type_list_pop mt_popAt (pv i hN hv hd hcd) (pa_cons (he.run g) pa_nil hs) hbase hfew hline hs) fun σ H Q ⟨δ, F, R, ds, hi, q⟩ => ?_⟩
  obtain ⟨a, xs, e1, hp, r⟩ := R.ownL hi
  refine ⟨_, e1, .inl ⟨rfl, _, .of hp⟩, δ, F, R, he.mono _ _ _ (fun d δ' ⟨n, en, ds', hi', j, y, h1, h2, h3, q⟩ v H' F' s R' rv => ?_) q⟩
  subst en
  cases rv
  obtain ⟨a', xs', e2, hp', r'⟩ := R'.ownL hi'
  rw [e1] at e2; cases e2
  obtain ⟨z, hz, rz⟩ := r'.get h3
  obtain ⟨g1, g2, g3, g4⟩ := ixN_seq h1
  refine ⟨a, xs', n, j, z, rfl, rfl, hp', by omega, by omega, by rw [r'.length]; exact g1, hz, ?_⟩
  exact q _ _ F' s (R'.write hi' e1 ⟨_, rfl, r'.eraseIdx j⟩) rz
def dSetIx (i : Nat) (tk te : DE) : DSm := fun E δ => te δ fun d δ1 => (∃ s, δ1[i]? = some (some s)) ∧ tk δ1 fun k δ2 => ∃ n, k = .int n ∧ ownL δ2 i fun ds => ∃ j, ixN ds.length n = some j ∧ E.nx (δ2.set i (some (.own (.l (ds.set j d)))))
end
def startD (N : List Str) (ds : List D) : DS := ds.map (fun d => some (.val d)) ++ List.replicate (N.length - ds.length) none
theorem startD_val {N : List Str} {ds : List D} {i : Nat} {s : Sl} (h : (startD N ds)[i]? = some (some s)) : ∃ d, s = .val d ∧ ds[i]? = some d := by
  unfold startD at h
  by_cases hi : i < ds.length
  · rw [List.getElem?_append_left (by simpa using hi), List.getElem?_map] at h
    cases e : ds[i]? with
    | none => rw [e] at h; cases h
    | some d => rw [e] at h; cases h; exact ⟨d, rfl, rfl⟩
  · rw [List.getElem?_append_right (by simpa using hi), List.getElem?_replicate] at h
    split at h <;> cases h
theorem rl_start {k : Dk} {F H : Hp} {N : List Str} {vs : List V} {ds : List D} (s : Same F H) (f : ∀ a, isDk k a → F a = none) (dk : DkOk k H) (r : Rps k F vs ds) (hl : vs.length ≤ N.length) :
    Rl ⟨k, F, H⟩ (startD N ds) (L2.start N vs) H F := by
  have hlen := r.length
  refine ⟨Ext.start s f dk, ?_, fun i d h => ?_, fun i c h => ?_, fun i j c c' p h => ?_⟩
  · simp only [startD, L2.start, List.length_append, List.length_map, List.length_replicate]
    omega
  · obtain ⟨d', e, hd⟩ := startD_val h
    cases e
    obtain ⟨y, hy, ry⟩ := r.get hd
    refine ⟨y, ?_, ry⟩
    have hi : i < vs.length := (List.getElem?_eq_some_iff.mp hy).1
    unfold L2.start
    rw [List.getElem?_append_left (by simpa using hi), List.getElem?_map, hy]; rfl
  · obtain ⟨d', e, _⟩ := startD_val h
    cases e
  · obtain ⟨d', e, _⟩ := startD_val h
    cases e
def endD (K : D → Prop) : DEnds := ⟨fun _ => K .non, K, fun _ => False, fun _ => False⟩
section
variable {P : Program} {w : World} {K : PySem.W.Frag} {mg : Str → Option Value} {base : Heap}
theorem fn_d {x qual : Str} {st : Stmt} {f : Addr} {fd : FuncData} {N ps : List Str} {k : Nat} {sp : DSp} {body : DSm} (F : Fun K x qual st f fd) (S : FnScope N ps (defScope st)) (hlen : ∀ ds Q, sp ds Q → ds.length = ps.length)
    (hb : ∀ (cdv : Value) (A : Around) (outer : List Env) (s : Shared) (H : Hp) (E : XK), RoomG k (A.deeper (envOfC qual (defScope st) s.heap.objs.size f cdv)) → PSds (cxOf CX0 P w K mg base N qual (defScope st) f cdv A outer s H E).nox (defBody st) body)
    (hok : ∀ ds Q, sp ds Q → body (endD Q) (startD N ds)) : FnG P w K mg base CX0 (k + 1) f fd ps (LSp sp) := by
  refine okG F S (fun vs H Q E ⟨dk, F, ds, _, _, _, r, h⟩ => by rw [r.length]; exact hlen _ _ h) fun cdv A outer s H vs Q E hr h => ?_
  obtain ⟨dk, F, ds, s1, f1, d1, r, h⟩ := h
  refine ⟨_, (hb cdv A outer s H E hr).run ⟨dk, F, H⟩, startD N ds, F, endD fun d => ∀ v H' F', Ext dk F H F' H' → Rp dk F' v d → Q v H', rl_start s1 f1 d1 r ?_, ⟨fun δ' σ' H' F' s R q => ?_, fun _ _ _ _ _ _ q => q.elim, fun _ _ _ _ _ _ q => q.elim, fun d v δ' σ' H' F' s R rv q => q v H' F' R.ext rv⟩, hok _ _ h⟩
  · have e := congrArg List.length S.pre
    rw [List.length_take] at e
    have e2 := hlen _ _ h
    rw [r.length]; omega
  · exact q .non H' F' R.ext .non
structure Fn (P : Program) (w : World) (K : PySem.W.Frag) (mg : Str → Option Value) (base : Heap) (k : Nat) (x : Str) (ps : List Str) (sp : DSp) : Prop where
  ex : ∃ f fd, mg x = some (.ref f) ∧ PySem.W.keepIn K (.ref f) = true ∧ Binds K fd ps [] ∧ FnG P w K mg base CX0 k f fd ps (LSp sp)
  ms : MonoSp sp
def Df (K : PySem.W.Frag) (mg : Str → Option Value) (x : Str) (st : Stmt) (ps : List Str) : Prop := ∃ f fd, mg x = some (.ref f) ∧ Fun K x x st f fd ∧ Binds K fd ps []
theorem fn_mk {x : Str} {st : Stmt} {N ps : List Str} {k : Nat} {sp : DSp} {body : DSm} (D0 : Df K mg x st ps) (S : FnScope N ps (defScope st)) (ms : MonoSp sp) (hlen : ∀ ds Q, sp ds Q → ds.length = ps.length)
    (hb : ∀ (f : Addr) (cdv : Value) (A : Around) (outer : List Env) (s : Shared) (H : Hp) (E : XK), RoomG k (A.deeper (envOfC x (defScope st) s.heap.objs.size f cdv)) → PSds (cxOf CX0 P w K mg base N x (defScope st) f cdv A outer s H E).nox (defBody st) body)
    (hok : ∀ ds Q, sp ds Q → body (endD Q) (startD N ds)) : Fn P w K mg base (k + 1) x ps sp := by
  obtain ⟨f, fd, h1, F, B⟩ := D0
  exact ⟨⟨f, fd, h1, F.kp, B, fn_d F S hlen (fun cdv A outer s H E hr => hb f cdv A outer s H E hr) hok⟩, ms⟩
end
section
variable {X : Cx} {pos : Pos} {k : Nat} {ps : List Str} {sp : DSp} {x : Str} {p : Pos} {e : Expr} {es : List Expr} {a : DA}
theorem pv_fn (G : Fn X.prog X.w X.K X.mg X.base k x ps sp) (hr : RoomG k X.A) (ha : PAd X (e :: es) a) (hg : Gl X x := by rfl) (hdb : (x == ("__debug__" : Str)) = false := by decide)
    (he : starEach (e :: es) X.env = (false, eval e X.env) :: starEach es X.env := by rfl) (hpl : (backTo pos (starEach es X.env)).any (·.1) = false := by rfl) : PV X (.Call (.Name x p) (e :: es) [] pos) (dCall sp a) := by
  obtain ⟨f, fd, h1, h2, h3, h4⟩ := G.ex
  exact pv_call h4 G.ms hr hg h1 h2 h3 ha hdb he hpl
end
end
end DL
namespace DL
open PySem PySem.Spec PyProof.Rows L2
def rInt1 : List V → Hp → VK → Prop := fun xs H Q => (∃ i, xs = [.int i] ∧ Q (.int i) H) ∨ ∃ k, xs = [.bl k] ∧ Q (.int (if k then 1 else 0)) H
def rLenS (K : PySem.W.Frag) : List V → Hp → VK → Prop := fun xs H Q => ∃ p ys, xs = [.ref p] ∧ (SqL K H p ys ∨ SqT K H p ys) ∧ Q (.int ys.length) H
abbrev tI (n : Int) : TE := tC (.int n)
def tAt (K : PySem.W.Frag) (t u : TE) : TE := tOp (rIxL K) t u
def tInt (t : TE) : TE := tCB rInt1 (tCons t tNil)
def tModW (t u : TE) : TE := tOp (rI (fun _ j => 0 < j) fun i j => .int (i % j)) t u
def t_draw (K : PySem.W.Frag) : TS :=
  tSeq (tIfS (tTest (tOp (rNeD K) (tAt K (tVar 0) (tI 0)) (tLst tNil)))
     (tSeq (tAsg (tAt K (tAt K (tVar 0) (tI 0)) (tI 0)) (gName 2))
     (tSeq (tAsg (tOp (rI CDivW fun i j => .int (i / j)) (tVar 2) (tVar 1)) (gSub (tAt K (tVar 0) (tI 0)) (tI 0) rSetL))
     (tSeq (tIfS (tTest (tOp rEq (tAt K (tAt K (tVar 0) (tI 0)) (tI 0)) (tI 0))) (tDrop (tBM K "list" rPopAt (tAt K (tVar 0) (tI 0)) (tCons (tI 0) tNil))) tNext)
     (tRet (tModW (tInt (tVar 2)) (tVar 1))))))
     tNext)
  (tSeq (tAsg (tOp (rI0 fun i j => .int (i + j)) (tAt K (tVar 0) (tI 2)) (tI 1)) (gSub (tVar 0) (tI 2) rSetL))
  (tSeq (tAsg (tAt K (tAt K (tVar 0) (tI 1)) (tModW (tInt (tAt K (tVar 0) (tI 2))) (tCB (rLenS K) (tCons (tAt K (tVar 0) (tI 1)) tNil)))) (gName 3))
  (tSeq (tAsg (tModW (tInt (tOp (rI0 fun i j => .int (i + j)) (tModW (tInt (tVar 3)) (tI 4294966297)) (tOp (rI CMul fun i j => .int (i * j)) (tI 1640531527) (tAt K (tVar 0) (tI 2))))) (tI 4294966297)) (gName 4))
  (tSeq (tAsg (tModW (tInt (tOp (rI0 fun i j => .int (i + j)) (tOp (rI CMul fun i j => .int (i * j)) (tVar 4) (tVar 4)) (tOp (rI CMul fun i j => .int (i * j)) (tI 122949823) (tAt K (tVar 0) (tI 2))))) (tI 4294966237)) (gName 4))
  (tRet (tModW (tOp (rI CDiv fun i j => .int (i / j)) (tModW (tInt (tOp (rI CMul fun i j => .int (i * j)) (tVar 4) (tVar 4))) (tI 4294966187)) (tI 1024)) (tVar 1)))))))
def sp_draw : DSp := fun ds K => ∃ m : Int, ds = [.dk, .int m] ∧ 0 < m ∧ m < 10000000000000000000000000000000000000000 ∧ ∀ i : Int, 0 ≤ i → i < m → K (.int i)
theorem ms_draw : MonoSp sp_draw := fun ds K K' h ⟨m, e, h1, h2, q⟩ => ⟨m, e, h1, h2, fun i a b => h _ (q i a b)⟩
theorem len_draw : ∀ ds Q, sp_draw ds Q → ds.length = 2 := fun ds Q ⟨m, e, _⟩ => by rw [e]; rfl
theorem ints_dp {K : PySem.W.Frag} {H : Hp} : ∀ ns : List Int, DpAll K H (ns.map V.int) (ns.map PyData.int)
  | [] => .nil
  | n :: r => .cons (.int n) (ints_dp r)
theorem ints_shaped (ns : List Int) : SeqAt.shaped (.list (ns.map PyData.int)) = true := by
  have h1 : ∀ ns : List Int, PyData.canLayAll0 (ns.map PyData.int) = true := by
    intro ns; induction ns with
    | nil => simp [PyData.canLayAll0]
    | cons n r ih => simp [PyData.canLayAll0, PyData.canLay0, ih]
  have h2 : ∀ ns : List Int, PyData.depthAll (ns.map PyData.int) = 0 := by
    intro ns; induction ns with
    | nil => simp [PyData.depthAll]
    | cons n r ih => simp [PyData.depthAll, PyData.depth, ih]
  simp [SeqAt.shaped, PyData.canLay0, PyData.depth, h1, h2]
theorem eqvAll_nil (ns : List Int) : PyData.eqv (.list (ns.map PyData.int)) (.list []) = ns.isEmpty := by
  cases ns <;> simp [PyData.eqv, PyData.eqvAll]
theorem t_draw_ok {K : PySem.W.Frag} {vs : List V} {H : Hp} {Q : VK} {E : XK} (h : LSp sp_draw vs H Q E) : t_draw K { nx := fun _ H' => Q .non H', rt := Q } (L2.start ["deck", "many", "rest", "cell", "mixed"] vs) H := by
  obtain ⟨k, F, ds, sm, fd, dk, r, m, rfl, hm0, hm1, q⟩ := h
  cases r with
  | cons r1 r2 =>
    cases r2 with
    | cons r2 r3 =>
      cases r3
      cases r2
      cases r1 with
      | dk ek =>
        rename_i a0 a1 a2
        obtain ⟨bigs, cells, c, h0, h1, h2, n10, n20, n12, hpos, hne, hl, hlb⟩ := dk.deck a0 a1 a2 ek
        have isdk : ∀ a, (a = a0 ∨ a = a1 ∨ a = a2) → isDk k a := fun a d => .inl ⟨a0, a1, a2, ek, d⟩
        have tne : ∀ p ∈ TabT.T, p.1 ≠ a0 ∧ p.1 ≠ a1 := fun p hp => by
          obtain ⟨ps, e, _⟩ := dk.tabs p hp
          refine ⟨fun z => ?_, fun z => ?_⟩
          · rw [z, h0] at e; cases e
          · rw [z, h1] at e; cases e
        have cne : ∀ a q, H a = some (LamX.CodeO a q) → a ≠ a0 ∧ a ≠ a1 := fun a q e => by
          refine ⟨fun z => lst_noCode (p := a) (by rw [z]; exact h0) q e, fun z => lst_noCode (p := a) (by rw [z]; exact h1) q e⟩
        have st : L2.start ["deck", "many", "rest", "cell", "mixed"] [V.ref a0, V.int m] = [some (.ref a0), some (.int m), none, none, none] := rfl
        rw [st]
        have f0 : F a0 = none := fd _ (isdk _ (.inl rfl))
        have f1 : F a1 = none := fd _ (isdk _ (.inr (.inl rfl)))
        have f2 : F a2 = none := fd _ (isdk _ (.inr (.inr rfl)))
        have fin : ∀ (i : Int) (H' : Hp) (bigs' : List Int) (c' : Int), 0 ≤ i → i < m → H' a0 = some (.lst [.ref a1, .ref a2, .int c']) → H' a1 = some (.lst (bigs'.map V.int)) → H' a2 = some (.lst (cells.map V.int)) → (∀ b ∈ bigs', 0 < b) → bigs'.length ≤ 100 →
            (∀ a o, a ≠ a0 → a ≠ a1 → H a = some o → H' a = some o) → Q (.int i) H' := fun i H' bigs' c' hi0 hi1 g0 g1 g2 hp' hb' keep => by
          refine q i hi0 hi1 (.int i) H' F ⟨Same.refl _, fun a o e => keep a o (fun z => ?_) (fun z => ?_) (sm a o e), fun a o e n => keep a o (fun z => n (isdk a (.inl z))) (fun z => n (isdk a (.inr (.inl z)))) e, fun a o e => .inl e, fd, fun a d => dk.there d, ?_⟩ (.int i)
          · rw [z, f0] at e; cases e
          · rw [z, f1] at e; cases e
          · refine ⟨fun b0 b1 b2 e => ?_, fun p hp => ?_⟩
            · rw [ek] at e; cases e
              exact ⟨bigs', cells, c', g0, g1, g2, n10, n20, n12, hp', hne, hl, hb'⟩
            · obtain ⟨ps, e1, e2, e3⟩ := dk.tabs p hp
              obtain ⟨t0, t1⟩ := tne p hp
              refine ⟨ps, keep _ _ t0 t1 e1, e2, fun pos cv hc => ?_⟩
              obtain ⟨cc, e4, e5⟩ := e3 pos cv hc
              obtain ⟨t0, t1⟩ := cne _ _ e5
              exact ⟨cc, e4, keep _ _ t0 t1 e5⟩
        have i0 : atI ([.ref a1, .ref a2, .int c] : List V) 0 = some (.ref a1) := atI_nat (j := 0) rfl
        have i2 : atI ([.ref a1, .ref a2, .int c] : List V) 2 = some (.int c) := atI_nat (j := 2) rfl
        refine ⟨_, rfl, a0, _, 0, _, rfl, rfl, .of h0, i0, Nat.zero_le _, fun p np => ?_⟩
        have np0 : a0 ≠ p := ne_of_none h0 np
        have np1 : a1 ≠ p := ne_of_none h1 np
        have np2 : a2 ≠ p := ne_of_none h2 np
        have g0 : (upd H p (.lst [])) a0 = some (.lst [.ref a1, .ref a2, .int c]) := by rw [upd_ne np0]; exact h0
        have g1 : (upd H p (.lst [])) a1 = some (.lst (bigs.map V.int)) := by rw [upd_ne np1]; exact h1
        have g2 : (upd H p (.lst [])) a2 = some (.lst (cells.map V.int)) := by rw [upd_ne np2]; exact h2
        have kp : ∀ a o, H a = some o → (upd H p (.lst [])) a = some o := fun a o e => by rw [upd_ne (ne_of_none e np)]; exact e
        generalize hH1 : upd H p (.lst []) = H1 at g0 g1 g2 kp ⊢
        have gp : H1 p = some (.lst []) := by rw [← hH1, upd_same]
        refine ⟨_, _, .lst (.of g1) (ints_dp bigs), .lst (.of gp) .nil, ints_shaped bigs, by simp [SeqAt.shaped, PyData.canLay0, PyData.canLayAll0, PyData.depth, PyData.depthAll], _, rfl, ?_⟩
        rw [eqvAll_nil]
        cases bigs with
        | cons b bs =>
          refine iteT ?_
          have hb0 : 0 < b := hpos b (by simp)
          have j0 : atI ((b :: bs).map V.int) 0 = some (.int b) := atI_nat (j := 0) rfl
          refine ⟨_, rfl, a0, _, 0, _, rfl, rfl, .of g0, i0, a1, _, 0, _, rfl, rfl, .of g1, j0, ?_⟩
          refine ⟨_, rfl, _, rfl, b, m, rfl, rfl, ?_, _, rfl, a0, _, 0, _, rfl, rfl, .of g0, i0, a1, _, 0, 0, rfl, rfl, g1, by simp [ixN], ?_⟩
          · exact wide_div (b := 4000) hm0 (by omega) (by decide) (by decide)
          have k1 : ((b :: bs).map V.int).set 0 (V.int (b / m)) = ((b / m) :: bs).map V.int := rfl
          rw [k1]
          generalize hH2 : upd H1 a1 (.lst (((b / m) :: bs).map V.int)) = H2
          have u0 : H2 a0 = some (.lst [.ref a1, .ref a2, .int c]) := by rw [← hH2, upd_ne n10.symm]; exact g0
          have u1 : H2 a1 = some (.lst (((b / m) :: bs).map V.int)) := by rw [← hH2, upd_same]
          have u2 : H2 a2 = some (.lst (cells.map V.int)) := by rw [← hH2, upd_ne n12.symm]; exact g2
          have uk : ∀ a o, a ≠ a1 → H a = some o → H2 a = some o := fun a o na e => by rw [← hH2, upd_ne na]; exact kp a o e
          have j1 : atI (((b / m) :: bs).map V.int) 0 = some (.int (b / m)) := atI_nat (j := 0) rfl
          have rest : ∀ (H' : Hp) (bigs' : List Int), H' a0 = some (.lst [.ref a1, .ref a2, .int c]) → H' a1 = some (.lst (bigs'.map V.int)) → H' a2 = some (.lst (cells.map V.int)) → (∀ b ∈ bigs', 0 < b) → bigs'.length ≤ 100 → (∀ a o, a ≠ a0 → a ≠ a1 → H a = some o → H' a = some o) →
              tRet (tModW (tInt (tVar 2)) (tVar 1)) { nx := fun _ H' => Q .non H', rt := Q } [some (.ref a0), some (.int m), some (.int b), none, none] H' := fun H' bigs' w0 w1 w2 wp wl wk => by
            refine ⟨_, rfl, .inl ⟨b, rfl, _, rfl, b, m, rfl, rfl, hm0, ?_⟩⟩
            exact fin _ H' bigs' c (Int.emod_nonneg _ (by omega)) (Int.emod_lt_of_pos _ hm0) w0 w1 w2 wp wl wk
          refine ⟨_, rfl, a0, _, 0, _, rfl, rfl, .of u0, i0, a1, _, 0, _, rfl, rfl, .of u1, j1, rfl, _, rfl, ?_⟩
          by_cases hz : b / m = 0
          · rw [hz] at u1 ⊢
            refine iteT ?_
            refine ⟨_, rfl, a0, _, 0, _, rfl, rfl, .of u0, i0, .inl ⟨rfl, _, .of u1⟩, ?_⟩
            refine ⟨a1, _, 0, 0, _, rfl, rfl, u1, by decide, by decide, (ixN_seq (by simp [ixN])).1, rfl, ?_⟩
            refine rest _ bs (by rw [upd_ne n10.symm]; exact u0) upd_same (by rw [upd_ne n12.symm]; exact u2) (fun x hx => hpos x (by simp [hx])) ?_ fun a o na1 na2 e => by rw [upd_ne na2]; exact uk a o na2 e
            · have := hlb; simp at this; omega
          · have hd : decide (V.int (b / m) = V.int 0) = false := decide_eq_false fun e => hz (V.int.inj e)
            rw [hd]
            refine iteF ?_
            refine rest H2 ((b / m) :: bs) u0 u1 u2 (fun x hx => ?_) hlb fun a o _ na2 e => uk a o na2 e
            rcases List.mem_cons.mp hx with rfl | hx
            · have : 0 ≤ b / m := Int.ediv_nonneg (by omega) (by omega)
              omega
            · exact hpos x (by simp [hx])
        | nil =>
          refine iteF ?_
          have l0 : ∀ z : Int, atI ([.ref a1, .ref a2, .int z] : List V) 1 = some (.ref a2) := fun z => atI_nat (j := 1) rfl
          have l2 : ∀ z : Int, atI ([.ref a1, .ref a2, .int z] : List V) 2 = some (.int z) := fun z => atI_nat (j := 2) rfl
          refine ⟨_, rfl, a0, _, 2, _, rfl, rfl, .of g0, i2, c, 1, rfl, rfl, _, rfl, a0, _, 2, 2, rfl, rfl, g0, rfl, ?_⟩
          have k1 : ([.ref a1, .ref a2, .int c] : List V).set 2 (V.int (c + 1)) = [.ref a1, .ref a2, .int (c + 1)] := rfl
          rw [k1]
          generalize hH2 : upd H1 a0 (.lst [.ref a1, .ref a2, .int (c + 1)]) = H2
          have u0 : H2 a0 = some (.lst [.ref a1, .ref a2, .int (c + 1)]) := by rw [← hH2, upd_same]
          have u1 : H2 a1 = some (.lst (([] : List Int).map V.int)) := by rw [← hH2, upd_ne n10]; exact g1
          have u2 : H2 a2 = some (.lst (cells.map V.int)) := by rw [← hH2, upd_ne n20]; exact g2
          have uk : ∀ a o, a ≠ a0 → H a = some o → H2 a = some o := fun a o na e => by rw [← hH2, upd_ne na]; exact kp a o e
          have hcl : 0 < (cells.length : Int) := by
            have : cells.length ≠ 0 := fun e => hne (List.eq_nil_of_length_eq_zero e)
            omega
          have hj : ∃ (j : Nat) (z : Int), (c + 1) % ((cells.map V.int).length : Int) = (j : Int) ∧ (cells.map V.int)[j]? = some (.int z) := by
            have h1 := Int.emod_nonneg (c + 1) (show (cells.length : Int) ≠ 0 by omega)
            have h2 := Int.emod_lt_of_pos (c + 1) hcl
            refine ⟨((c + 1) % (cells.length : Int)).toNat, cells[((c + 1) % (cells.length : Int)).toNat]'(by omega), ?_, ?_⟩
            · rw [List.length_map]; omega
            · rw [List.getElem?_map, List.getElem?_eq_getElem (by omega)]; rfl
          obtain ⟨j, z, hj, hz⟩ := hj
          refine ⟨_, rfl, a0, _, 1, _, rfl, rfl, .of u0, l0 _, _, rfl, a0, _, 2, _, rfl, rfl, .of u0, l2 _, .inl ⟨c + 1, rfl, _, rfl, a0, _, 1, _, rfl, rfl, .of u0, l0 _, a2, _, rfl, .inl (.of u2), c + 1, _, rfl, rfl, ?_, ?_⟩⟩
          · rw [List.length_map]; exact hcl
          refine ⟨a2, _, _, .int z, rfl, rfl, .of u2, by rw [hj]; exact atI_nat hz, ?_⟩
          refine ⟨_, rfl, .inl ⟨z, rfl, z, 4294966297, rfl, rfl, (show (0 : Int) < 4294966297 by decide), _, rfl, a0, _, 2, _, rfl, rfl, .of u0, l2 _, 1640531527, c + 1, rfl, rfl, .inl ⟨by decide, by decide⟩, _, _, rfl, rfl, .inl ⟨_, rfl, _, 4294966297, rfl, rfl, (show (0 : Int) < 4294966297 by decide), ?_⟩⟩⟩
          have hx : ∀ x : Int, 0 ≤ x % 4294966297 ∧ x % 4294966297 < 4294966297 := fun x => ⟨Int.emod_nonneg _ (by decide), Int.emod_lt_of_pos _ (by decide)⟩
          have hx2 : ∀ x : Int, 0 ≤ x % 4294966237 ∧ x % 4294966237 < 4294966237 := fun x => ⟨Int.emod_nonneg _ (by decide), Int.emod_lt_of_pos _ (by decide)⟩
          obtain ⟨y0, y1⟩ := hx (z % 4294966297 + 1640531527 * (c + 1))
          have my : ∀ y : Int, 0 ≤ y → y < 4294966297 → CMul y y := fun y h0 h1 => .inl ⟨by omega, by omega⟩
          refine ⟨_, rfl, _, rfl, _, _, rfl, rfl, my _ y0 y1, _, rfl, a0, _, 2, _, rfl, rfl, .of u0, l2 _, 122949823, c + 1, rfl, rfl, .inl ⟨by decide, by decide⟩, _, _, rfl, rfl, .inl ⟨_, rfl, _, 4294966237, rfl, rfl, (show (0 : Int) < 4294966237 by decide), ?_⟩⟩
          obtain ⟨x0, x1⟩ := hx2 ((z % 4294966297 + 1640531527 * (c + 1)) % 4294966297 * ((z % 4294966297 + 1640531527 * (c + 1)) % 4294966297) + 122949823 * (c + 1))
          refine ⟨_, rfl, _, rfl, _, _, rfl, rfl, my _ x0 (by omega), .inl ⟨_, rfl, _, 4294966187, rfl, rfl, (show (0 : Int) < 4294966187 by decide), _, 1024, rfl, rfl, ⟨(show (0 : Int) < 1024 by decide), (show (1024 : Int) < 1073741824 by decide)⟩, _, rfl, _, m, rfl, rfl, hm0, ?_⟩⟩
          exact fin _ H2 [] (c + 1) (Int.emod_nonneg _ (by omega)) (Int.emod_lt_of_pos _ hm0) u0 u1 u2 (fun _ h => nomatch h) (Nat.zero_le _) fun a o na _ e => uk a o na e
def rAbs : List V → Hp → VK → Prop := fun xs H Q => ∃ i, xs = [.int i] ∧ Q (.int (if i < 0 then -i else i)) H
def t_deck (K : PySem.W.Frag) : TS :=
  tSeq (tAsg (tLc (iList K (tSl (rSlL K) (tVar 0) tNoPart (tPart (tI 63)))) (gName 2) tYes (tCB rAbs (tCons (tVar 2) tNil)) [2]) (gName 1))
  (tRet (tLst (tCons (tLc (iList K (tVar 1)) (gName 2) (tTest (tOp (rI0 fun i j => .bl (decide (j ≤ i))) (tVar 2) (tOp (rI CPow fun i j => .int (i ^ j.toNat)) (tI 10) (tI 18)))) (tVar 2) [2])
    (tCons (tOp rCat (tVar 1) (tLst (tCons (tOp (rI0 fun i j => .int (i + j)) (tI 11249) (tCB (rLenS K) (tCons (tVar 1) tNil))) tNil))) (tCons (tI 0) tNil)))))
def spDeck (K : PySem.W.Frag) : Sp := fun vs H Q _ => ∃ (a : Addr) (ns : List Int), vs = [.ref a] ∧ SqL K H a (ns.map V.int) ∧ ns.length ≤ 63 ∧ LamX.Tabs TabT.T H ∧
  ∀ H' a0 a1 a2, Same H H' → H a0 = none → H a1 = none → H a2 = none → DkOk (some (a0, a1, a2)) H' → Q (.ref a0) H'
theorem cut63 {ns : List Int} (h : ns.length ≤ 63) : cutV (ns.map V.int) none (some 63) = ns.map V.int := by
  unfold cutV
  rw [HT.sIx_none, show HT.sIx (ns.map V.int).length (ns.map V.int).length (some 63) = min 63 (ns.map V.int).length from HT.sIx_nat _ _ 63, List.drop_zero]
  exact List.take_of_length_le (by rw [List.length_map]; omega)
theorem line1000 {n : Nat} (h : n ≤ 1000) : n ≤ sizeLine := by rw [sizeLine_eq]; omega
theorem line1000' {n : Nat} (h : n ≤ 1000) : n < sizeLine := by rw [sizeLine_eq]; omega
theorem mapGet {ns : List Int} {i : Nat} {x : V} (h : (ns.map V.int)[i]? = some x) : ∃ n, x = .int n ∧ ns[i]? = some n := by
  rw [List.getElem?_map] at h
  cases e : ns[i]? with
  | none => rw [e] at h; cases h
  | some n => rw [e] at h; cases h; exact ⟨n, rfl, rfl⟩
theorem t_deck_ok {K : PySem.W.Frag} {vs : List V} {H : Hp} {Q : VK} {E : XK} (h : spDeck K vs H Q E) : t_deck K { nx := fun _ H' => Q .non H', rt := Q } (L2.start ["script", "cells", "cell"] vs) H := by
  obtain ⟨a, ns, rfl, hS, hl, hTb, q⟩ := h
  have st : L2.start ["script", "cells", "cell"] [V.ref a] = [some (.ref a), none, none] := rfl
  rw [st]
  refine ⟨_, rfl, 63, rfl, a, _, rfl, hS, fun p np => ?_⟩
  rw [cut63 hl]
  have s1 : Same H (upd H p (.lst (ns.map V.int))) := same_upd np
  refine ⟨p, rfl, ⟨_, .of upd_same⟩, fun D nD => ?_⟩
  have nDp : p ≠ D := ne_of_none upd_same nD
  have s2 : Same (upd H p (.lst (ns.map V.int))) (upd (upd H p (.lst (ns.map V.int))) D (.lst [])) := same_upd nD
  refine lc_list (K := K) (a := p) (xs := ns.map V.int) (fun i H1 => Same H H1 ∧ H1 p = some (.lst (ns.map V.int)) ∧ H1 D = some (.lst (((ns.take i).map fun n : Int => if n < 0 then -n else n).map V.int)))
    ⟨s1.trans s2, by rw [upd_ne nDp]; exact upd_same, upd_same⟩ (fun i H1 _ h => .of h.2.1) ?_ ?_
  · rintro i x H1 hx ⟨sm, ep, eD⟩
    obtain ⟨n, rfl, hn⟩ := mapGet hx
    refine ⟨rfl, _, rfl, n, rfl, _, eD, line1000' ?_, fun b o e => ?_, ?_, ?_⟩
    · simp; omega
    · have hb := sm b o e
      have hne : b ≠ D := fun z => by subst z; rw [s1 b o e] at nD; cases nD
      rw [upd_ne hne]; exact hb
    · rw [upd_ne nDp]; exact ep
    · rw [upd_same, List.take_add_one, hn]
      simp
  rintro H1 ⟨sm, ep, eD⟩
  rw [List.length_map, List.take_length] at eD
  generalize hcs : (ns.map fun n : Int => if n < 0 then -n else n) = cs at eD
  have hcl : cs.length ≤ 63 := by rw [← hcs, List.length_map]; exact hl
  have nD0 : H D = none := s1.free nD
  refine ⟨_, rfl, D, rfl, ⟨_, .of eD⟩, fun D1 nD1 => ?_⟩
  have nDD : D ≠ D1 := ne_of_none eD nD1
  have nD10 : H D1 = none := sm.free nD1
  refine lc_list (K := K) (a := D) (xs := cs.map V.int) (fun i H2 => Same H H2 ∧ H2 D = some (.lst (cs.map V.int)) ∧ H2 D1 = some (.lst (((cs.take i).filter fun n : Int => decide ((10 : Int) ^ 18 ≤ n)).map V.int)))
    ⟨sm.trans (same_upd nD1), by rw [upd_ne nDD]; exact eD, upd_same⟩ (fun i H1 _ h => .of h.2.1) ?_ ?_
  · rintro i x H2 hx ⟨sm2, ec, eD1⟩
    obtain ⟨n, rfl, hn⟩ := mapGet hx
    refine ⟨rfl, _, rfl, 10, 18, rfl, rfl, ⟨by decide, by decide, by decide⟩, n, _, rfl, rfl, _, rfl, ?_⟩
    have hlen : (((cs.take i).filter fun n : Int => decide ((10 : Int) ^ 18 ≤ n)).map V.int).length ≤ 63 := by
      rw [List.length_map]
      exact Nat.le_trans (List.length_filter_le _ _) (by rw [List.length_take]; omega)
    by_cases hc : (10 : Int) ^ 18 ≤ n
    · have e1 : decide ((10 : Int) ^ (18 : Int).toNat ≤ n) = true := decide_eq_true hc
      rw [e1]
      refine iteT ⟨_, rfl, _, eD1, line1000' (by omega), fun b o e => ?_, ?_, ?_⟩
      · have hne : b ≠ D1 := ne_of_none e nD10
        rw [upd_ne hne]; exact sm2 b o e
      · rw [upd_ne nDD]; exact ec
      · have e2 : ([n].filter fun n : Int => decide ((10 : Int) ^ 18 ≤ n)) = [n] := by rw [List.filter_cons, decide_eq_true hc]; rfl
        rw [upd_same, List.take_add_one, hn, List.filter_append, Option.toList_some, e2, List.map_append]
        rfl
    · have e1 : decide ((10 : Int) ^ (18 : Int).toNat ≤ n) = false := decide_eq_false hc
      rw [e1]
      refine iteF ⟨sm2, ec, ?_⟩
      have e2 : ([n].filter fun n : Int => decide ((10 : Int) ^ 18 ≤ n)) = [] := by rw [List.filter_cons, decide_eq_false hc]; rfl
      rw [List.take_add_one, hn, List.filter_append, Option.toList_some, e2, List.append_nil]
      exact eD1
  rintro H2 ⟨sm2, ec, eD1⟩
  rw [List.length_map, List.take_length] at eD1
  refine ⟨_, rfl, _, rfl, D, _, rfl, .inl (.of ec), 11249, _, rfl, rfl, line1000 (show 1 ≤ 1000 by decide), fun T nT => ?_⟩
  have nDT : D ≠ T := ne_of_none ec nT
  refine ⟨D, T, _, _, rfl, rfl, by rw [upd_ne nDT]; exact ec, upd_same, ?_, fun D2 nD2 => ?_⟩
  · refine line1000 ?_
    simp; omega
  have nTD2 : T ≠ D2 := ne_of_none upd_same nD2
  have c2 : (upd H2 T (.lst [.int (11249 + ((cs.map V.int).length : Int))])) D = some (.lst (cs.map V.int)) := by rw [upd_ne nDT]; exact ec
  have nD1T : D1 ≠ T := ne_of_none eD1 nT
  have c3 : (upd H2 T (.lst [.int (11249 + ((cs.map V.int).length : Int))])) D1 = some (.lst ((cs.filter fun n : Int => decide ((10 : Int) ^ 18 ≤ n)).map V.int)) := by rw [upd_ne nD1T]; exact eD1
  have nD1D2 : D1 ≠ D2 := ne_of_none c3 nD2
  have nT0 : H T = none := sm2.free nT
  have sT : Same H2 (upd H2 T (.lst [.int (11249 + ((cs.map V.int).length : Int))])) := same_upd nT
  have nD20 : H D2 = none := (sm2.trans sT).free nD2
  refine ⟨line1000 (show 3 ≤ 1000 by decide), fun D3 nD3 => ?_⟩
  have c4 : (upd (upd H2 T (.lst [.int (11249 + ((cs.map V.int).length : Int))])) D2 (.lst (cs.map V.int ++ [.int (11249 + ((cs.map V.int).length : Int))]))) D1 = some (.lst ((cs.filter fun n : Int => decide ((10 : Int) ^ 18 ≤ n)).map V.int)) := by rw [upd_ne nD1D2]; exact c3
  have nD1D3 : D1 ≠ D3 := ne_of_none c4 nD3
  have nD2D3 : D2 ≠ D3 := ne_of_none upd_same nD3
  have sA : Same H2 (upd (upd H2 T (.lst [.int (11249 + ((cs.map V.int).length : Int))])) D2 (.lst (cs.map V.int ++ [.int (11249 + ((cs.map V.int).length : Int))]))) := sT.trans (same_upd nD2)
  refine q _ D3 D1 D2 ((sm2.trans sA).trans (same_upd nD3)) ((sm2.trans sA).free nD3) nD10 nD20 ⟨fun b0 b1 b2 e => ?_, hTb.ext ((sm2.trans sA).trans (same_upd nD3))⟩
  cases e
  refine ⟨cs.filter fun n : Int => decide ((10 : Int) ^ 18 ≤ n), cs ++ [11249 + (cs.length : Int)], 0, upd_same, by rw [upd_ne nD1D3]; exact c4, ?_, nD1D3, nD2D3, nD1D2, fun b hb => ?_, by simp, by simp; omega, Nat.le_trans (List.length_filter_le _ _) (by omega)⟩
  · rw [upd_ne nD2D3, upd_same, List.map_append, List.length_map]
    rfl
  · have := (List.mem_filter.mp hb).2
    have := of_decide_eq_true this
    have h18 : (0 : Int) < 10 ^ 18 := by decide
    omega
theorem len_deck {K : PySem.W.Frag} : ∀ vs H Q E, spDeck K vs H Q E → vs.length = 1 := fun vs H Q E ⟨a, ns, e, _⟩ => by rw [e]; rfl
def spLaw (K : PySem.W.Frag) : Sp := fun vs H Q _ => ∃ (a : Addr) (ns : List Int), vs = [.ref a] ∧ SqL K H a (ns.map V.int) ∧ ns.length ≤ 63 ∧ LamX.Tabs TabT.T H ∧ ∀ H', Q (.bl true) H'
theorem len_law {K : PySem.W.Frag} : ∀ vs H Q E, spLaw K vs H Q E → vs.length = 1 := fun vs H Q E ⟨a, ns, e, _⟩ => by rw [e]; rfl
def endLaw : DEnds := ⟨fun _ => False, fun d => d = .bl true, fun _ => False, fun _ => False⟩
def startLaw (n : Nat) : DS := none :: some (.val .dk) :: List.replicate n none
section
variable {P : Program} {w : World} {K : PySem.W.Frag} {mg : Str → Option Value} {base : Heap}
structure FnDeck (P : Program) (w : World) (K : PySem.W.Frag) (mg : Str → Option Value) (base : Heap) : Prop where
  ex : ∃ f fd, mg "_law_deck" = some (.ref f) ∧ PySem.W.keepIn K (.ref f) = true ∧ Binds K fd ["script"] [] ∧ FnG P w K mg base CX0 1 f fd ["script"] (spDeck K)
theorem law_d {st : Stmt} {f : Addr} {fd : FuncData} {N : List Str} {k n : Nat} {rest : List Stmt} {body : DSm} {p1 p2 p3 p4 p5 : Pos} (F : Fun K "law" "law" st f fd) (S : FnScope ("script" :: "deck" :: N) ["script"] (defScope st)) (G : FnDeck P w K mg base) (hn : N.length = n)
    (hst : defBody st = .Assign [.Name "deck" p1] (.Call (.Name "_law_deck" p2) [.Name "script" p3] [] p4) p5 :: rest)
    (hb : ∀ (cdv : Value) (A : Around) (outer : List Env) (s : Shared) (H : Hp) (E : XK), RoomG (k + 1) (A.deeper (envOfC "law" (defScope st) s.heap.objs.size f cdv)) →
      (∀ te, PE (cxOf CX0 P w K mg base ("script" :: "deck" :: N) "law" (defScope st) f cdv A outer s H E).nox (.Call (.Name "_law_deck" p2) [.Name "script" p3] [] p4) te → PS (cxOf CX0 P w K mg base ("script" :: "deck" :: N) "law" (defScope st) f cdv A outer s H E).nox (.Assign [.Name "deck" p1] (.Call (.Name "_law_deck" p2) [.Name "script" p3] [] p4) p5) (tAsg te (gName 1))) ∧
      (FnDeck P w K mg base → ∃ f' fd', FnG P w K mg base CX0 1 f' fd' ["script"] (spDeck K) ∧ PE (cxOf CX0 P w K mg base ("script" :: "deck" :: N) "law" (defScope st) f cdv A outer s H E).nox (.Call (.Name "_law_deck" p2) [.Name "script" p3] [] p4) (tCall (spDeck K) [] E0 (tCons (tVar 0) tNil))) ∧
      PSds (cxOf CX0 P w K mg base ("script" :: "deck" :: N) "law" (defScope st) f cdv A outer s H E).nox rest body)
    (hok : body endLaw (startLaw n)) : FnG P w K mg base CX0 (k + 2) f fd ["script"] (spLaw K) := by
  refine okG F S len_law fun cdv A outer s H vs Q E hr h => ?_
  obtain ⟨h1, h2, h3⟩ := hb cdv A outer s H E hr
  obtain ⟨a, ns, rfl, hS, hl, hTb, q⟩ := h
  obtain ⟨f', fd', _, h2⟩ := h2 G
  rw [hst]
  refine ⟨_, pss_cons (h1 _ h2) (PSs.mono (t' := fun D' σ H => ∃ g, LS g body D' σ H) ⟨fun pins s' σ H' D' I ⟨g, q⟩ => (h3.run g).run pins s' σ H' D' I q⟩ fun _ _ _ h => h), ?_⟩
  have e0 : L2.start ("script" :: "deck" :: N) [V.ref a] = some (.ref a) :: none :: List.replicate n none := by
    show [some (V.ref a)] ++ List.replicate (N.length + 2 - 1) none = _
    rw [hn, show n + 2 - 1 = n + 1 by omega, List.replicate_succ]; rfl
  rw [e0]
  refine ⟨_, rfl, a, ns, rfl, hS, hl, hTb, fun H' a0 a1 a2 sm n0 n1 n2 dk => ?_⟩
  refine ⟨⟨some (a0, a1, a2), fun _ => none, H'⟩, startLaw n, fun _ => none, endLaw, ?_, ⟨fun _ _ _ _ _ _ q => q.elim, fun _ _ _ _ _ _ q => q.elim, fun _ _ _ _ _ _ q => q.elim, fun d v δ' σ' H2 F' _ R r e => ?_⟩, hok⟩
  · refine ⟨Ext.start (fun _ _ e => nomatch e) (fun _ _ => rfl) dk, by simp [startLaw], fun i d h => ?_, fun i c h => ?_, fun i j c c' p h => ?_⟩
    · match i, h with
      | 0, h => cases h
      | 1, h =>
        cases h
        exact ⟨_, rfl, .dk rfl⟩
      | i + 2, h =>
        have h' : (List.replicate n (none : Option Sl))[i]? = some (some (.val d)) := h
        rw [List.getElem?_replicate] at h'
        split at h' <;> cases h'
    · match i, h with
      | 0, h => cases h
      | 1, h => cases h
      | i + 2, h =>
        have h' : (List.replicate n (none : Option Sl))[i]? = some (some (.own c)) := h
        rw [List.getElem?_replicate] at h'
        split at h' <;> cases h'
    · match i, h with
      | 0, h => cases h
      | 1, h => cases h
      | i + 2, h =>
        have h' : (List.replicate n (none : Option Sl))[i]? = some (some (.own c)) := h
        rw [List.getElem?_replicate] at h'
        split at h' <;> cases h'
  · have e' : d = .bl true := e
    subst e'
    cases r
    exact q H2
end
end DL
namespace DL
open PySem PySem.Spec PyProof.Rows L2
theorem for_run {p : Pat} {tb : DSm} {E : DEnds} {items : List D} {δ : DS} (I : Nat → DS → Prop) (h0 : I 0 δ)
    (hs : ∀ i d δ, items[i]? = some d → I i δ → ∀ nx : DS → Prop, (∀ δ', I (i + 1) δ' → nx δ') → dPat p d δ fun δ' => tb { E with nx := nx, ct := nx, bk := E.nx } δ')
    (hd : ∀ δ, I items.length δ → E.nx δ) : dForL p tb E items δ := by
  have key : ∀ (r : List D) (i : Nat) (δ : DS), items.drop i = r → i ≤ items.length → I i δ → dForL p tb E r δ := by
    intro r
    induction r with
    | nil =>
      intro i δ e hi h
      have : i = items.length := by
        have := congrArg List.length e
        simp at this; omega
      subst this
      exact hd δ h
    | cons d r ih =>
      intro i δ e hi h
      have hlt : i < items.length := by
        have := congrArg List.length e
        simp at this; omega
      have hd' : items[i]? = some d := by
        have := congrArg (fun l => l[0]?) e
        simpa using this
      have hr : items.drop (i + 1) = r := by
        rw [← List.drop_drop, e]; rfl
      exact hs i d δ hd' h _ fun δ' h' => ih (i + 1) δ' hr hlt h'
  exact key items 0 δ rfl (Nat.zero_le _) h0
inductive Fa2 {α β : Type} (R : α → β → Prop) : List α → List β → Prop where
  | nil : Fa2 R [] []
  | cons {a b l m} : R a b → Fa2 R l m → Fa2 R (a :: l) (b :: m)
theorem Fa2.length {α β : Type} {R : α → β → Prop} {l : List α} {m : List β} (h : Fa2 R l m) : l.length = m.length := by
  induction h with
  | nil => rfl
  | cons _ _ ih => simp [ih]
theorem comp_run {p : Pat} {tt : DT} {te : DE} {vs : List Nat} {K : List D → DS → Prop} {δ0 : DS} (R : D → Option D → Prop) : ∀ (items : List D) (acc : List D), acc.length + items.length < 1000000 →
    (∀ d, d ∈ items → ∀ C : Option D → DS → Prop, (∀ o, R d o → C o δ0) → dPat p d δ0 fun δ1 => tt δ1 fun b δ2 => if b = true then te δ2 fun y δ3 => C (some y) (wipeD δ3 vs) else C none (wipeD δ2 vs)) →
    (∀ os, Fa2 R items os → K (acc ++ os.filterMap id) δ0) → dCompL p tt te vs K items δ0 acc
  | [], acc, hl, h, q => by
    have := q [] .nil
    show K acc δ0
    simpa using this
  | d :: r, acc, hl, h, q => by
    have hl' : acc.length + (r.length + 1) < 1000000 := hl
    refine h d (by simp) (fun o δ' => match o with
      | some y => acc.length < 1000000 ∧ dCompL p tt te vs K r δ' (acc ++ [y])
      | none => dCompL p tt te vs K r δ' acc) fun o ho => ?_
    cases o with
    | some y => exact ⟨by omega, comp_run R r (acc ++ [y]) (by simp; omega) (fun d hd => h d (by simp [hd])) fun os hos => by simpa using q (some y :: os) (.cons ho hos)⟩
    | none => exact comp_run R r acc (by omega) (fun d hd => h d (by simp [hd])) fun os hos => by simpa using q (none :: os) (.cons ho hos)
theorem comp_enc {α : Type} {p : Pat} {tt : DT} {te : DE} {vs : List Nat} {K : List D → DS → Prop} {δ0 : DS} (enc : α → D) (f : α → Option D) {l : List α} (hl : l.length < 1000000)
    (h : ∀ a, a ∈ l → ∀ C : Option D → DS → Prop, C (f a) δ0 → dPat p (enc a) δ0 fun δ1 => tt δ1 fun b δ2 => if b = true then te δ2 fun y δ3 => C (some y) (wipeD δ3 vs) else C none (wipeD δ2 vs))
    (q : K (l.filterMap f) δ0) : dCompL p tt te vs K (l.map enc) δ0 [] := by
  have key : ∀ (r : List α) (acc : List D), acc.length + r.length < 1000000 → (∀ a, a ∈ r → a ∈ l) → K (acc ++ r.filterMap f) δ0 → dCompL p tt te vs K (r.map enc) δ0 acc := by
    intro r
    induction r with
    | nil => intro acc _ _ q; show K acc δ0; simpa using q
    | cons a r ih =>
      intro acc hl' hm q
      have hl2 : acc.length + (r.length + 1) < 1000000 := hl'
      refine h a (hm a (by simp)) (fun o δ' => match o with
        | some y => acc.length < 1000000 ∧ dCompL p tt te vs K (r.map enc) δ' (acc ++ [y])
        | none => dCompL p tt te vs K (r.map enc) δ' acc) ?_
      cases e : f a with
      | some y => exact ⟨by omega, ih (acc ++ [y]) (by simp; omega) (fun b hb => hm b (by simp [hb])) (by simpa [e] using q)⟩
      | none => exact ih acc (by omega) (fun b hb => hm b (by simp [hb])) (by simpa [e] using q)
  exact key l [] (by simpa using hl) (fun a h => h) (by simpa using q)
theorem enumD_map {α : Type} (enc : α → D) : ∀ (l : List α) (n : Nat), enumD n (l.map enc) = (l.zipIdx n).map fun x => .tup [.int (x.2 : Nat), enc x.1]
  | [], n => rfl
  | a :: r, n => by
    show D.tup [.int (n : Nat), enc a] :: enumD (n + 1) (r.map enc) = _
    rw [enumD_map enc r (n + 1)]; rfl
theorem for_enc {α : Type} {p : Pat} {tb : DSm} {E : DEnds} {δ : DS} (enc : α → D) {l : List α} (I : List α → List α → DS → Prop) (h0 : I [] l δ)
    (hs : ∀ pre a post δ, pre ++ a :: post = l → I pre (a :: post) δ → ∀ nx : DS → Prop, (∀ δ', I (pre ++ [a]) post δ' → nx δ') → dPat p (enc a) δ fun δ' => tb { E with nx := nx, ct := nx, bk := E.nx } δ')
    (hd : ∀ δ, I l [] δ → E.nx δ) : dForL p tb E (l.map enc) δ := by
  have key : ∀ (post pre : List α) (δ : DS), pre ++ post = l → I pre post δ → dForL p tb E (post.map enc) δ := by
    intro post
    induction post with
    | nil => intro pre δ e h; rw [List.append_nil] at e; subst e; exact hd δ h
    | cons d r ih => intro pre δ e h; exact hs pre d r δ e h _ fun δ' h' => ih (pre ++ [d]) δ' (by rw [List.append_assoc]; exact e) h'
  exact key l [] δ rfl h0
theorem for_rng {p : Pat} {tb : DSm} {E : DEnds} {δ : DS} {lo : Int} {n : Nat} (I : Nat → DS → Prop) (h0 : I 0 δ)
    (hs : ∀ i δ, i < n → I i δ → ∀ nx : DS → Prop, (∀ δ', I (i + 1) δ' → nx δ') → dPat p (.int (lo + (i : Nat))) δ fun δ' => tb { E with nx := nx, ct := nx, bk := E.nx } δ')
    (hd : ∀ δ, I n δ → E.nx δ) : dForL p tb E (rngD lo n) δ := by
  refine for_run I h0 (fun i d δ hd h nx hnx => ?_) fun δ h => hd δ (by rw [rngD_length] at h; exact h)
  have hi : i < n := by
    have := (List.getElem?_eq_some_iff.mp hd).1
    rw [rngD_length] at this; exact this
  rw [rngD_get hi] at hd
  cases hd
  exact hs i δ hi h nx hnx
theorem comp_map {α : Type} {p : Pat} {tt : DT} {te : DE} {vs : List Nat} {K : List D → DS → Prop} {δ0 : DS} (enc : α → D) (f : α → D) {l : List α} (hl : l.length < 1000000)
    (h : ∀ a, a ∈ l → ∀ C : Option D → DS → Prop, C (some (f a)) δ0 → dPat p (enc a) δ0 fun δ1 => tt δ1 fun b δ2 => if b = true then te δ2 fun y δ3 => C (some y) (wipeD δ3 vs) else C none (wipeD δ2 vs))
    (q : K (l.map f) δ0) : dCompL p tt te vs K (l.map enc) δ0 [] :=
  comp_enc enc (fun a => some (f a)) hl h (by rw [List.filterMap_eq_map'] <;> exact q)
section
variable {K : PySem.W.Frag} {h : Heap} {mg : Str → Option Value}
theorem df_mk (X : K.In h) (G : h.Ns mainGlobals mg) {x : Str} {st : Stmt} {ps : List Str} {f : Addr} {oc kV doc pm cdv ct : Value} {od an : Option Addr} {osl : Array (Option Value)}
    (a : PySem.W.nsIn K mainGlobals x = some (some (.ref f))) (l : K.lookup f = some ⟨oc, od, .func (PySem.W.fnOf x x (defArgs st) (defBody st) (defScope st) .none kV doc pm an cdv ct), osl⟩) (c : PySem.W.codeIn K cdv x = true) (k : PySem.W.keepIn K (.ref f) = true)
    (hb : ∀ (kV doc pm : Value) (an : Option Addr) (cdv ct : Value) (us : List Value), us.length = ps.length → bindArgs (PySem.W.fnOf x x (defArgs st) (defBody st) (defScope st) .none kV doc pm an cdv ct) ⟨us, []⟩ = pure (ps.zip us)) : Df K mg x st ps := by
  have F := fun_mk (st := st) l c k
  exact ⟨f, _, PySem.W.mg_of X G a, F, F.binds hb⟩
theorem cst_mk (X : K.In h) (G : h.Ns mainGlobals mg) {x : Str} {i : Int} {t : Tok} (a : PySem.W.nsIn K mainGlobals x = some (some (.int i t))) : ∃ t, mg x = some (.int i t) := ⟨t, PySem.W.mg_of X G a⟩
def DfX (_ : K.In h) (mg : Str → Option Value) (x : Str) (st : Stmt) (ps : List Str) : Prop := Df K mg x st ps
end
theorem law_callT {P : Program} {w : World} {K : PySem.W.Frag} {mg mb : Str → Option Value} {k : Nat} {fa a : Addr} {cs : List (Addr × Addr)} {fd : FuncData} {x : Str} {sp : Sp} {s₁ : Shared} {vs : List Value} {ns : List Int}
    (KX : K.In s₁.heap) (hns : s₁.heap.Ns mainGlobals mg) (hb : s₁.heap.Ns builtinsNs mb) (hbb : ∀ x : Str, x ≠ "__name__" → mb x = bootBuiltins x) (hlim : s₁.heap.NoLimit) (hg : s₁.gens = #[])
    (tb : ∀ p ∈ cs, s₁.heap.get? p.2 = some { cls := .none, data := .fields #[] }) (tk : ∀ p ∈ cs, K.lookup p.2 = none) (tc : ∀ p ∈ cs, PySem.W.CodeHd s₁.heap p.1 p.2)
    (mn : ∃ (bm : Addr) (ob : Obj), mg "__builtins__" = some (.ref bm) ∧ bm ≠ builtinsNs ∧ s₁.heap.get? bm = some ob ∧ ob.cls = .type "module" ∧ ob.dict = some builtinsNs ∧ ob.data = .plain)
    (ha : s₁.heap.get? a = some { cls := .type "list", data := .seq vs.toArray }) (hi : IntsAre vs ns) (hl : ns.length ≤ sizeLine) (hr : RoomG k callerA)
    (F : ∀ base : Heap, K.In base → base.Ns mainGlobals mg → (∀ p ∈ cs, LamX.TabB base mg p.1 p.2) → FnG P w K mg base CX0 k fa fd [x] sp) (hbind : ∀ (s : Shared) (u : Value), BindsTo s fd ⟨[u], []⟩ [(x, u)])
    (hsp : ∀ H : Hp, (∀ p ∈ cs, H p.2 = some (.tbl #[])) → SqL K H a (ns.map V.int) → sp [.ref a] H (fun v _ => v = .bl true) fun _ _ _ => False) :
    codeAny (model P w) callerA (.call (.ref fa) ⟨[.ref a], []⟩) (fun r s' => r = .ok (.ret (.bool true)) ∧ OldK s₁.heap s'.heap ∧ s'.os = s₁.os ∧ AllBare s'.gens) s₁ := by
  have rel := vals_ints hi
  have script : ∀ p ∈ cs, p.2 ≠ a := fun p hp z => by
    have h := tb p hp
    rw [z, ha] at h; cases h
  have go : ∀ H : Hp, (∀ b u, H b = some u → (b = a ∧ u = .frz { cls := .type "list", data := .seq vs.toArray } (.lst (ns.map V.int))) ∨ ((∃ p ∈ cs, p.2 = b) ∧ u = .tbl #[])) → (∀ p ∈ cs, H p.2 = some (.tbl #[])) → SqL K H a (ns.map V.int) → HOk P w H s₁.heap → (∀ u, H a = some u → K.lookup a = none) →
      codeAny (model P w) callerA (.call (.ref fa) ⟨[.ref a], []⟩) (fun r s' => r = .ok (.ret (.bool true)) ∧ OldK s₁.heap s'.heap ∧ s'.os = s₁.os ∧ AllBare s'.gens) s₁ := by
    intro H only tabs hS hok hK
    have far : ∀ {b : Addr} {o : Obj}, s₁.heap.get? b = some o → (∀ xs n, o.data ≠ .seq xs n) → o.data ≠ .fields #[] → (hidT s₁.heap H).get? b = some o := fun {b o} e n1 n2 => by
      refine hidT_get e ?_
      cases q : H b with
      | none => rfl
      | some u =>
        rcases only b u q with ⟨rfl, _⟩ | ⟨⟨p, hp, rfl⟩, _⟩
        · rw [ha] at e; cases e
          exact absurd rfl (n1 _ _)
        · rw [tb p hp] at e; cases e
          exact absurd rfl n2
    have nsB : ∀ {b : Addr} {m : Str → Option Value}, s₁.heap.Ns b m → (hidT s₁.heap H).Ns b m := by
      rintro b m ⟨o, es, ep, e, d, r⟩
      exact ⟨o, es, ep, far e (fun xs n z => by rw [d] at z; cases z) (fun z => by rw [d] at z; cases z), d, r⟩
    have kB : K.In (hidT s₁.heap H) := by
      intro b o e
      refine hidT_get (KX b o e) ?_
      cases q : H b with
      | none => rfl
      | some u =>
        rcases only b u q with ⟨rfl, _⟩ | ⟨⟨p, hp, rfl⟩, _⟩
        · rw [hK u q] at e; cases e
        · rw [tk p hp] at e; cases e
    have M : Mod K mg (hidT s₁.heap H) := ⟨kB, nsB hns, ⟨mb, nsB hb, hbb⟩, by obtain ⟨mc, m1, m2⟩ := hlim; exact ⟨mc, nsB m1, m2⟩⟩
    have e0 : Env0 P w K mg (hidT s₁.heap H) callerA [] s₁ H := ⟨rfl, M, fun b o e => of_hidT e, Nat.le_of_eq (hidT_size _ _), trivial, fun b z => absurd (show b ∈ ([] : List Addr) from z) (by simp), hok, .of_eq hg⟩
    have TB : ∀ p ∈ cs, LamX.TabB (hidT s₁.heap H) mg p.1 p.2 := by
      intro p hp
      obtain ⟨go1, gdat⟩ : ∃ o es ep, s₁.heap.get? mainGlobals = some o ∧ o.data = .dict es ep := by
        obtain ⟨o, es, ep, e, d, _⟩ := hns
        exact ⟨o, es, ep, e, d⟩
      obtain ⟨es, ep, g1, g2⟩ := gdat
      have gP : mainGlobals ≠ p.2 := fun z => by
        rw [z, tb p hp] at g1; cases g1; cases g2
      refine ⟨?_, ?_, gP⟩
      · obtain ⟨o, us, file, tf, flags, tg, inF, text, tt, c1, c2, c3, c4, rest⟩ := tc p hp
        refine ⟨o, us, file, tf, flags, tg, inF, text, tt, far c1 (fun xs n z => by rw [c3] at z; cases z) (fun z => ?_), c2, c3, c4, rest⟩
        rw [c3] at z; cases z
        simp at c4
      · obtain ⟨bm, ob, b1, b2, b3, b4, b5, b6⟩ := mn
        refine ⟨bm, ob, b1, b2, fun z => ?_, fun z => ?_, far b3 (fun xs n z => by rw [b6] at z; cases z) (fun z => by rw [b6] at z; cases z), b4, b5, b6⟩
        · rw [z, g1] at b3; cases b3
          rw [g2] at b6; cases b6
        · rw [z, tb p hp] at b3; cases b3; cases b6
    refine codeAny_mono ((F _ kB (nsB hns) TB).run callerA [] s₁ H ⟨[.ref a], []⟩ [.ref a] [.ref a] _ _ hr e0 (hbind s₁ (.ref a)) (.cons rfl .nil) (hsp H tabs hS)) fun r s' h => ?_
    match r, h with
    | .error e, h => exact False.elim h
    | .ok .next, h => exact False.elim h
    | .ok .brk, h => exact False.elim h
    | .ok .cont, h => exact False.elim h
    | .ok (.ret u), h =>
      obtain ⟨v, H', os, bare, un, hok', rv, rfl⟩ := h
      obtain rfl : u = Value.bool true := rv
      have old : ∀ b o, s₁.heap.get? b = some o → s'.heap.get? b = some o ∨ ∃ p ∈ cs, p.2 = b := fun b o e => by
        cases q : H b with
        | none => exact .inl (un.keep b o e q (fun z => absurd (show b ∈ ([] : List Addr) from z) (by simp)) (by simp))
        | some u =>
          rcases only b u q with ⟨rfl, rfl⟩ | ⟨hp, _⟩
          · rw [ha] at e; cases e
            exact .inl (hok' _ _ (un.frzs _ _ _ q)).1
          · exact .inr hp
      have longer : ∀ p ∈ cs, ∃ more : Array Value, s'.heap.get? p.2 = some { cls := .none, data := .fields more } := fun p hp => by
        obtain ⟨more, z⟩ := un.tbls p.2 #[] (tabs p hp)
        exact ⟨_, hok' p.2 _ z⟩
      refine ⟨rfl, ⟨fun b o e => ?_, fun b o e => ?_⟩, os, bare⟩
      · rcases old b o e with h | ⟨p, hp, rfl⟩
        · exact .inl h
        · obtain ⟨more, hm⟩ := longer p hp
          rw [tb p hp] at e; cases e
          exact .inr (.inl ⟨((tc p hp).tab (tb p hp)).isCodeTable, rfl, #[], more, rfl, by rw [Array.empty_append]; exact hm⟩)
      · rcases old b o e with h | ⟨p, hp, rfl⟩
        · exact ⟨o, h⟩
        · obtain ⟨more, hm⟩ := longer p hp
          exact ⟨_, hm⟩
  have tab : ∃ D : Addr → Prop, (∀ b, D b ↔ ∃ p ∈ cs, p.2 = b) := ⟨_, fun _ => Iff.rfl⟩
  obtain ⟨D, hD⟩ := tab
  have nDa : ¬ D a := fun h => by
    obtain ⟨p, hp, e⟩ := (hD a).mp h
    exact script p hp e
  classical
  cases hk : K.lookup a with
  | some o =>
    have e := KX a o hk
    rw [ha] at e; cases e
    have at' : ∀ b u, (if D b then some (HO.tbl #[]) else none) = some u → D b ∧ u = .tbl #[] := fun b u z => by
      by_cases h : D b
      · rw [if_pos h] at z; cases z; exact ⟨h, rfl⟩
      · rw [if_neg h] at z; cases z
    refine go (fun b => if D b then some (.tbl #[]) else none) (fun b u z => .inr ⟨(hD b).mp (at' b u z).1, (at' b u z).2⟩) (fun p hp => if_pos ((hD _).mpr ⟨p, hp, rfl⟩)) (.inr ⟨_, vs.toArray, _, hk, rfl, rfl, rfl, by rw [List.size_toArray, hi.length]; exact hl, by simpa using rel⟩) (fun b u z => ?_) fun u z => absurd (at' a u z).1 nDa
    obtain ⟨h, rfl⟩ := at' b u z
    obtain ⟨p, hp, rfl⟩ := (hD b).mp h
    exact tb p hp
  | none =>
    have at' : ∀ b u, (if b = a then some (HO.frz { cls := .type "list", data := .seq vs.toArray } (.lst (ns.map V.int))) else if D b then some (.tbl #[]) else none) = some u → (b = a ∧ u = .frz { cls := .type "list", data := .seq vs.toArray } (.lst (ns.map V.int))) ∨ (D b ∧ u = .tbl #[]) := by
      intro b u z
      by_cases h : b = a
      · rw [if_pos h] at z; cases z; exact .inl ⟨h, rfl⟩
      · rw [if_neg h] at z
        by_cases h2 : D b
        · rw [if_pos h2] at z; cases z; exact .inr ⟨h2, rfl⟩
        · rw [if_neg h2] at z; cases z
    refine go (fun b => if b = a then some (.frz { cls := .type "list", data := .seq vs.toArray } (.lst (ns.map V.int))) else if D b then some (.tbl #[]) else none) (fun b u z => (at' b u z).imp id fun h => ⟨(hD b).mp h.1, h.2⟩) (fun p hp => (if_neg (script p hp)).trans (if_pos ((hD _).mpr ⟨p, hp, rfl⟩)))
      (.inl (.inr ⟨_, if_pos rfl⟩)) (fun b u z => ?_) fun _ _ => hk
    rcases at' b u z with ⟨rfl, rfl⟩ | ⟨h, rfl⟩
    · exact ⟨ha, by rw [List.length_map]; exact hl, vs, _, rel, ha⟩
    · obtain ⟨p, hp, rfl⟩ := (hD b).mp h
      exact tb p hp
omit [TabT] in
theorem walk_ofT {l : PySem.W.OpenLaw} {n k : Nat} {q : Program} {loose : List Str} {XP : (Str → Option Value) → Heap → Prop} {YP : World → Heap → Prop} {d : DefRec} {K : Params → PySem.W.Frag} {x : Str}
    (hn : l.most = some n) (hn2 : n ≤ 63) (hdf : d.params.defaults = []) (hr : RoomG k callerA) (hY : ∀ (w : World) (h : Heap), YP w h → (K w.params).In h)
    (F : ∀ (w : World) (mg : Str → Option Value) (fa : Addr) (h : Heap), (K w.params).In h → h.Ns mainGlobals mg → mg d.name = some (.ref fa) →
      (∀ (x : Str) (c P : Addr), ((recsOf q).any fun e => e.name == x) = true → PySem.W.tabIn (K w.params) x = some (c, P) → PySem.W.CodeHd h c P ∧ h.get? P = some (PySem.W.tabObj #[])) →
      ∃ (TI : TabT) (fd : FuncData) (cs : List (Addr × Addr)), (∀ p ∈ cs, h.get? p.2 = some { cls := .none, data := .fields #[] }) ∧ (∀ p ∈ cs, (K w.params).lookup p.2 = none) ∧ (∀ p ∈ cs, PySem.W.CodeHd h p.1 p.2) ∧ (∀ p ∈ TI.T, ∃ c, (c, p.1) ∈ cs) ∧
        (∀ (s : Shared) (u : Value), BindsTo s fd ⟨[u], []⟩ [(x, u)]) ∧ ∀ base : Heap, (K w.params).In base → base.Ns mainGlobals mg → (∀ p ∈ cs, LamX.TabB base mg p.1 p.2) → FnG l.prog w (K w.params) mg base CX0 k fa fd [x] (@spLaw TI (K w.params))) :
    PySem.W.WalkO q loose XP YP l.row.toRowW d [] (fun f vs => PySem.call f vs) := by
  refine Att.attach_callB hn hdf fun w s₀ s₁ mg mb fa o pm cd doc a vs ns G Y ho hd hcd hmg hobj hints hlen hbits hg => ?_
  have KX := hY w _ Y
  obtain ⟨TI, fd, cs, hT, nT, C, hcs, hb, hF⟩ := F w mg fa _ KX G.T.g hmg fun x c P h1 h2 => by
    obtain ⟨d0, hd0, hp0⟩ := List.any_eq_true.mp h1
    obtain ⟨d', hf⟩ := Option.isSome_iff_exists.mp ((List.find?_isSome (p := fun e : DefRec => e.name == x)).mpr ⟨d0, hd0, hp0⟩)
    exact PySem.W.tab_of G.T KX hf h2
  letI := TI
  refine law_callT KX G.T.g G.T.b G.T.builtins G.T.nolimit hg hT nT C G.T.bmain hobj hints (Nat.le_trans (Nat.le_trans hlen hn2) (by rw [sizeLine_eq]; decide)) hr hF hb fun H hH hS => ⟨a, ns, rfl, hS, Nat.le_trans hlen hn2, fun p hp => ?_, fun _ => rfl⟩
  obtain ⟨c, hc⟩ := hcs p hp
  exact LamX.TabS.nil (hH _ hc)
section
variable {K : PySem.W.Frag} {h : Heap} {mg : Str → Option Value}
omit [TabT] in
theorem tabIn_of {x : Str} {f c P : Addr} {oc cls : Value} {od dd : Option Addr} {fd : FuncData} {osl sl : Array (Option Value)} {vs : Array Value} (a : PySem.W.nsIn K mainGlobals x = some (some (.ref f))) (l : K.lookup f = some ⟨oc, od, .func fd, osl⟩) (hc : fd.code = .ref c)
    (l2 : K.lookup c = some ⟨cls, dd, .fields vs, sl⟩) (hv : vs[11]? = some (.ref P)) : PySem.W.tabIn K x = some (c, P) := by
  unfold PySem.W.tabIn
  rw [a]
  simp only
  rw [l]
  simp only
  rw [hc]
  simp only
  rw [l2]
  simp only
  rw [hv]
def TabX (_ : K.In h) (x : Str) : Prop := ∃ c P, PySem.W.tabIn K x = some (c, P) ∧ K.lookup P = none
omit [TabT] in
theorem tab_mk (X : K.In h) {x : Str} {f c P : Addr} {oc cls : Value} {od dd : Option Addr} {fd : FuncData} {osl sl : Array (Option Value)} {vs : Array Value} (a : PySem.W.nsIn K mainGlobals x = some (some (.ref f))) (l : K.lookup f = some ⟨oc, od, .func fd, osl⟩) (hc : fd.code = .ref c)
    (l2 : K.lookup c = some ⟨cls, dd, .fields vs, sl⟩) (hv : vs[11]? = some (.ref P)) (hn : K.lookup P = none) : TabX X x := ⟨c, P, tabIn_of a l hc l2 hv, hn⟩
def TabX2 (_ : K.In h) (x y : Str) : Prop := ∃ c P c' P', PySem.W.tabIn K x = some (c, P) ∧ K.lookup P = none ∧ PySem.W.tabIn K y = some (c', P') ∧ K.lookup P' = none ∧ P ≠ P'
omit [TabT] in
theorem tab_mk2 (X : K.In h) {x y : Str} {f c P f' c' P' : Addr} {oc cls oc' cls' : Value} {od dd od' dd' : Option Addr} {fd fd' : FuncData} {osl sl osl' sl' : Array (Option Value)} {vs vs' : Array Value} (a : PySem.W.nsIn K mainGlobals x = some (some (.ref f))) (l : K.lookup f = some ⟨oc, od, .func fd, osl⟩) (hc : fd.code = .ref c)
    (l2 : K.lookup c = some ⟨cls, dd, .fields vs, sl⟩) (hv : vs[11]? = some (.ref P)) (hn : K.lookup P = none) (a' : PySem.W.nsIn K mainGlobals y = some (some (.ref f'))) (l' : K.lookup f' = some ⟨oc', od', .func fd', osl'⟩) (hc' : fd'.code = .ref c')
    (l2' : K.lookup c' = some ⟨cls', dd', .fields vs', sl'⟩) (hv' : vs'[11]? = some (.ref P')) (hn' : K.lookup P' = none) (ne : P ≠ P') : TabX2 X x y := ⟨c, P, c', P', tabIn_of a l hc l2 hv, hn, tabIn_of a' l' hc' l2' hv', hn', ne⟩
theorem law_mkT (X : K.In h) (G : h.Ns mainGlobals mg) (cs : List (Addr × Addr)) (h1 : ∀ p ∈ cs, h.get? p.2 = some { cls := .none, data := .fields #[] }) (h2 : ∀ p ∈ cs, K.lookup p.2 = none) (h3 : ∀ p ∈ cs, PySem.W.CodeHd h p.1 p.2) (h4 : ∀ p ∈ TabT.T, ∃ c, (c, p.1) ∈ cs)
    {fa : Addr} (hfa : mg "law" = some (.ref fa)) {P : Program} {w : World} {n : Nat} {st : Stmt} {f : Addr} {oc kV doc pm cdv ct : Value} {od an : Option Addr} {osl : Array (Option Value)}
    (a : PySem.W.nsIn K mainGlobals "law" = some (some (.ref f))) (l : K.lookup f = some ⟨oc, od, .func (PySem.W.fnOf "law" "law" (defArgs st) (defBody st) (defScope st) .none kV doc pm an cdv ct), osl⟩) (c : PySem.W.codeIn K cdv "law" = true) (k : PySem.W.keepIn K (.ref f) = true)
    (hb : ∀ (s : Shared) (u : Value), BindsTo s (PySem.W.fnOf "law" "law" (defArgs st) (defBody st) (defScope st) .none kV doc pm an cdv ct) ⟨[u], []⟩ [("script", u)])
    (F : ∀ (base : Heap) (fd : FuncData), (∀ p ∈ cs, LamX.TabB base mg p.1 p.2) → Fun K "law" "law" st fa fd → (∀ c P, PySem.W.tabIn K "law" = some (c, P) → fd.code = .ref c) → FnG P w K mg base CX0 n fa fd ["script"] (spLaw K)) :
    ∃ (TI : TabT) (fd : FuncData) (cs : List (Addr × Addr)), (∀ p ∈ cs, h.get? p.2 = some { cls := .none, data := .fields #[] }) ∧ (∀ p ∈ cs, K.lookup p.2 = none) ∧ (∀ p ∈ cs, PySem.W.CodeHd h p.1 p.2) ∧ (∀ p ∈ TI.T, ∃ c, (c, p.1) ∈ cs) ∧
        (∀ (s : Shared) (u : Value), BindsTo s fd ⟨[u], []⟩ [("script", u)]) ∧ ∀ base : Heap, K.In base → base.Ns mainGlobals mg → (∀ p ∈ cs, LamX.TabB base mg p.1 p.2) → FnG P w K mg base CX0 n fa fd ["script"] (@spLaw TI K) := by
  have e := hfa.symm.trans (PySem.W.mg_of X G a)
  cases e
  exact ⟨‹TabT›, _, cs, h1, h2, h3, h4, hb, fun base _ _ tb => F base _ tb (fun_mk (st := st) l c k) fun c' P' ht => PySem.W.law_code X G ht hfa (X _ _ l) rfl⟩
end
end DL
namespace DL
open PySem PySem.Spec PyProof.Rows L2
section
variable {X : Cx} {pos : Pos}
def dRev (t : DE) : DE := fun δ Q => t δ fun d δ' => ∃ xs, d = .lst xs ∧ Q (.lst xs.reverse) δ'
def D.tyN : D → String
  | .non => "NoneType"
  | .bl _ => "bool"
  | .int _ => "int"
  | .str _ => "str"
  | .tup _ => "tuple"
  | .lst _ => "list"
  | .dct _ _ => "dict"
  | .dk => "list"
def D.isA (T : String) (d : D) : Bool := d.tyN == T || (d.tyN == "bool" && T == "int")
def opIsA (T : String) : DUn := fun d K => d ≠ .dk ∧ K (.bl (d.isA T))
def TyD (K : PySem.W.Frag) (H : Hp) (x : V) (t : Value) : Prop := TyX K H x t ∨ ∃ (a : Addr) (o : Obj) (kvs : List (List Key × V)), x = .ref a ∧ H a = some (.frz o (.dT kvs)) ∧ t = .type "dict"
theorem kit_ofD {X : Cx} {pins : List (Addr × Obj)} {σ : St} {H : Hp} {s : Shared} {x : V} {u t : Value} (I : Inv X pins σ H s) (rx : RelV x u) (ty : TyD X.K H x t) : ∃ P : Heap → Prop, PySem.W.KitX X.K u t P ∧ P s.heap ∧ u ≠ .builtin "__main__.__loader__#opaque" := by
  rcases ty with ty | ⟨a, o, kvs, rfl, ea, rfl⟩
  · exact kit_of I rx ty
  · cases (show u = Value.ref a from rx)
    obtain ⟨_, _, _, xs, _, o', es, ep, h1, h2, _⟩ := (show ObjOk X.prog X.w H s.heap a (.frz o (.dT kvs)) from I.hok a _ ea)
    exact ⟨_, PySem.W.kitx_dict, ⟨o', h1, h2.1⟩, fun z => nomatch z⟩
def rIsiD (K : PySem.W.Frag) : List V → Hp → VK → Prop := fun xs H Q => ∃ (x c : V) (t u : Value) (b : Bool), xs = [x, c] ∧ ClsV c u ∧ TyD K H x t ∧ PySem.W.kitOne K t u = some b ∧ Q (.bl b) H
theorem call_isiD {X : Cx} : CallR X (.builtin "isinstance") (rIsiD X.K) := by
  intro pins s σ H xs us Q I r h
  obtain ⟨x, c, t, u, b, rfl, k, ty, e, q⟩ := h
  obtain ⟨u1, u2, rfl, r1, r2⟩ := vals2 r
  have e2 := k.eq r2
  subst e2
  obtain ⟨P, Z, p, hx⟩ := kit_ofD I r1 ty
  exact PySem.W.kia_one Z I.kIn p e hx fun tk => ⟨.bl b, H, I.tok tk, rfl, q⟩
theorem RpTop.ty {K : PySem.W.Frag} {k : Dk} {F H : Hp} {v : V} {d : D} (s : Same F H) (r : RpTop k F H v d) (hd : d ≠ .dk) : TyD K H v (.type d.tyN) := by
  rcases r with r | ⟨p, o, c, rfl, hp, r, rfl⟩
  · cases r with
    | non => exact .inl <| .base .non
    | bl b => exact .inl <| .base (.bl b)
    | int i => exact .inl <| .base (.int i)
    | str x => exact .inl <| .base (.str x)
    | tup e _ => exact .inl <| .base (.tup (s _ _ e))
    | lst e _ => exact .inl <| .base (.lst (s _ _ e))
    | dctK e _ =>
      rcases Same.rd s e with e | ⟨o, e⟩
      · exact .inl <| .base (.dK e)
      · exact .inl <| .fDict e
    | dctT e _ =>
      rcases Same.rd s e with e | ⟨o, e⟩
      · exact .inl <| .base (.dT e)
      · exact .inr ⟨_, _, _, rfl, e, rfl⟩
    | dk => exact absurd rfl hd
  · cases c with
    | l ds => obtain ⟨xs, rfl, _⟩ := r; exact .inl <| .base (.lst hp)
    | d t kvs =>
      rcases r with ⟨_, ks, rfl, _⟩ | ⟨_, ks, rfl, _⟩
      · exact .inl <| .base (.dK hp)
      · exact .inl <| .base (.dT hp)
theorem kit_isA {T : String} (hT : T = "tuple" ∨ T = "int" ∨ T = "str" ∨ T = "bool" ∨ T = "list" ∨ T = "dict") (d : D) : kitB d.tyN T = some (d.isA T) := by
  rcases hT with rfl | rfl | rfl | rfl | rfl | rfl <;> cases d <;> (simp only [D.isA, D.tyN]; decide +kernel)
theorem monoIsA {T : String} : MonoU (opIsA T) := fun a K K' m h => ⟨h.1, m _ h.2⟩
theorem pv_isA {T : String} {Tn : Str} {e : Expr} {o : Od} {p p2 : Pos} (hg : Gl X "isinstance") (hm : X.mg "isinstance" = none) (hgT : Gl X Tn) (hmT : X.mg Tn = none) (hvT : bootBuiltins Tn = some (.type T)) (ha : POd X e o)
    (hT : T = "tuple" ∨ T = "int" ∨ T = "str" ∨ T = "bool" ∨ T = "list" ∨ T = "dict") (hv : bootBuiltins "isinstance" = some (.builtin "isinstance") := by decide +kernel)
    (hnT : Tn ≠ "__name__" := by decide) (hdT : (Tn == ("__debug__" : Str)) = false := by decide)
    (he : starEach [e, .Name Tn p2] X.env = (false, eval e X.env) :: starEach [.Name Tn p2] X.env := by rfl) (he2 : starEach [.Name Tn p2] X.env = (false, eval (.Name Tn p2) X.env) :: starEach [] X.env := by rfl)
    (hpl : (backTo pos (starEach [.Name Tn p2] X.env)).any (·.1) = false := by rfl) : PV X (.Call (.Name "isinstance" p) [e, .Name Tn p2] [] pos) (dUn (opIsA T) o) :=
  ⟨monoUn monoIsA ha.mono, fun g => PE.mono (pe_callB call_isiD hg hm hv (pa_cons (ha.run g) (pa_cons (pe_bltn (v := .ty T) hgT hmT hvT rfl hnT hdT) pa_nil he2) he) (by decide) (by decide) he hpl) fun σ H Q h => by
    obtain ⟨δ, F, R, h⟩ := h
    refine ⟨δ, F, R, ha.mono _ _ _ (fun x δ1 q v H1 F1 s1 R1 ok => ?_) (Od.topEv (g := g) (σ := σ) (F' := F) (H' := H) ha.mono h)⟩
    obtain ⟨q0, q⟩ := q
    have t : RpTop g.dk F1 H1 v x := by
      cases o with
      | v t => exact .inl ok
      | n i =>
        obtain ⟨s, e, et⟩ := q0 i rfl
        rw [← et]
        exact R1.top e ok
    refine ⟨v, .ty T, _, _, _, rfl, .ty T, t.ty R1.ext.sub q.1, kit_ty (kit_isA hT x), ?_⟩
    exact rq_val R1 (.bl _) (RQ.weak s1 q.2)⟩
def dChain (p q : Int → Int → Bool) (a b c : DE) : DE := fun δ Q => a δ fun x δ1 => ∃ i, x = .int i ∧ b δ1 fun y δ2 => ∃ j, y = .int j ∧ if p i j = true then c δ2 fun z δ3 => ∃ k, z = .int k ∧ Q (.bl (q j k)) δ3 else Q (.bl false) δ2
theorem monoChain {p q : Int → Int → Bool} {a b c : DE} (ma : MonoE a) (mb : MonoE b) (mc : MonoE c) : MonoE (dChain p q a b c) := fun δ Q Q' h r =>
  ma _ _ _ (fun x δ1 ⟨i, e, r⟩ => ⟨i, e, mb _ _ _ (fun y δ2 ⟨j, e, r⟩ => ⟨j, e, mono_ite (fun r => mc _ _ _ (fun z δ3 ⟨k, e, r⟩ => ⟨k, e, h _ _ r⟩) r) (fun r => h _ _ r) r⟩) r⟩) r
theorem le_chain {p q : Int → Int → Bool} {a b c : DE} {g : Gh} (ma : MonoE a) (mb : MonoE b) (mc : MonoE c) {σ : St} {H : Hp} {Q : VK} (h : LE g (dChain p q a b c) σ H Q) :
    tChain (rI0 fun i j => .bl (p i j)) (rI0 fun i j => .bl (q i j)) (LE g a) (LE g b) (LE g c) σ H Q := by
  obtain ⟨δ, F, R, h⟩ := h
  refine ⟨δ, F, R, ma _ _ _ (fun x δ1 ⟨i, e, h⟩ v H1 F1 s1 R1 r => ⟨δ1, F1, R1, mb _ _ _ (fun y δ2 ⟨j, e2, h⟩ w H2 F2 s2 R2 r2 => ?_) h⟩) h⟩
  subst e e2; cases r; cases r2
  refine ⟨i, j, rfl, rfl, p i j, rfl, ?_⟩
  refine mono_ite (fun h => ⟨δ2, F2, R2, mc _ _ _ (fun z δ3 ⟨k, e, h⟩ u H3 F3 s3 R3 r3 => ?_) h⟩) (fun h => rq_val R2 (.bl _) (RQ.weak (s1.trans s2) h)) h
  subst e; cases r3
  exact ⟨j, k, rfl, rfl, rq_val R3 (.bl _) (RQ.weak ((s1.trans s2).trans s3) h)⟩
theorem pv_chain {op op' : CmpOp} {p q : Int → Int → Bool} {ea eb ec : Expr} {a b c : DE} (ho : OpR X (compareOp op) (rI0 fun i j => .bl (p i j))) (ho' : OpR X (compareOp op') (rI0 fun i j => .bl (q i j))) (ha : PV X ea a) (hb : PV X eb b) (hc : PV X ec c)
    (hm : lastMarks [op, op'] [eb, ec] = false := by with_unfolding_all rfl) : PV X (.Compare ea [op, op'] [eb, ec] pos) (dChain p q a b c) :=
  ⟨monoChain ha.mono hb.mono hc.mono, fun g => PE.mono (pe_chain ho ho' (ha.run g) (hb.run g) (hc.run g) hm) fun σ H Q h => le_chain ha.mono hb.mono hc.mono h⟩
theorem pt_chainD {op op' : CmpOp} {p q : Int → Int → Bool} {ea eb ec : Expr} {a b c : DE} (ho : OpR X (compareOp op) (rI0 fun i j => .bl (p i j))) (ho' : OpR X (compareOp op') (rI0 fun i j => .bl (q i j))) (ha : PV X ea a) (hb : PV X eb b) (hc : PV X ec c)
    (hm : lastMarks [op, op'] [eb, ec] = false := by with_unfolding_all rfl) : PTd X (.Compare ea [op, op'] [eb, ec] pos) (dTst (dChain p q a b c)) :=
  ⟨monoTst (monoChain ha.mono hb.mono hc.mono), fun g => PT.mono (pt_chain ho ho' (ha.run g) (hb.run g) (hc.run g) hm) fun σ H Q h => le_chain ha.mono hb.mono hc.mono (lt_tst (monoChain ha.mono hb.mono hc.mono) h)⟩
def rngC (lo c : Int) (n : Nat) : List D := (List.range n).map fun i => .int (lo + (i : Nat) * c)
def dRng3 (t u w : DE) : DI := fun δ Q => t δ fun d δ1 => u δ1 fun e δ2 => w δ2 fun f δ3 => ∃ i j c n, d = .int i ∧ e = .int j ∧ f = .int c ∧ RgC i j c n ∧ Q (rngC i c n) δ3
def zipD (xs ys : List D) : List D := List.zipWith (fun x y => .tup [x, y]) xs ys
def dZip (t u : DE) : DI := fun δ Q => t δ fun d δ1 => u δ1 fun e δ2 => ∃ xs ys, ((d = .lst xs ∧ e = .lst ys) ∨ (d = .tup xs ∧ e = .tup ys)) ∧ Q (zipD xs ys) δ2
theorem Rps.bls {k : Dk} {F : Hp} : ∀ {vs : List V} {ns : List Bool}, Rps k F vs (ns.map D.bl) → vs = ns.map V.bl
  | _, [], r => by cases r; rfl
  | _, n :: ns, r => by
    cases r with
    | cons a b => cases a; rw [Rps.bls b]; rfl
def opAny : DUn := fun d K => ∃ bs : List Bool, d = .lst (bs.map D.bl) ∧ K (.bl (bs.any id))
theorem b_any (hc : X.calm = true) : CallR X (.builtin "any") (rB1 opAny) ∧ MonoU opAny := by
  refine ⟨fun pins s σ' H xs us Q I r h => ?_, fun a K K' m ⟨ns, e, h⟩ => ⟨ns, e, m _ h⟩⟩
  obtain ⟨g, δ, σ, F, v, d, rfl, R, t, ns, rfl, h⟩ := h
  obtain ⟨p, vs, rfl, hp, rr⟩ := t.lst R.ext.sub
  exact cr_any hc pins s σ' H _ us Q I r ⟨p, ns, rfl, rr.bls ▸ .of hp, rq_val R (.bl _) h⟩
def opMin2 : DB := fun ds K => ∃ i j, ds = [.int i, .int j] ∧ K (.int (if j < i then j else i))
def opMax2 : DB := fun ds K => ∃ i j, ds = [.int i, .int j] ∧ K (.int (if j > i then j else i))
abbrev DRg := DS → (Int → Int → DS → Prop) → Prop
def LRg (g : Gh) (t : DRg) : St → Hp → (Int → Int → Hp → Prop) → Prop := fun σ H Q => ∃ δ F, Rl g δ σ H F ∧ t δ fun a b δ' => ∀ H' F', Same F F' → Rl g δ' σ H' F' → Q a b H'
structure Rgd (X : Cx) (e : Expr) (t : DRg) : Prop where
  mono : ∀ δ (Q Q' : Int → Int → DS → Prop), (∀ a b δ', Q a b δ' → Q' a b δ') → t δ Q → t δ Q'
  run : ∀ g, PRg X e (LRg g t)
theorem PRg.mono {e : Expr} {t t' : St → Hp → (Int → Int → Hp → Prop) → Prop} (h : PRg X e t) (i : ∀ σ H Q, t' σ H Q → t σ H Q) : PRg X e t' := fun pins s σ H Q I q => h pins s σ H Q I (i σ H Q q)
def dRg1 (t : DE) : DRg := fun δ Q => t δ fun d δ' => ∃ j, d = .int j ∧ Q 0 j δ'
def dRg2 (t u : DE) : DRg := fun δ Q => t δ fun d δ1 => u δ1 fun e δ2 => ∃ i j, d = .int i ∧ e = .int j ∧ Q i j δ2
def dLstRg (t : DRg) : DL' := fun δ Q => t δ fun a b δ' => RgOk a b ∧ Q (.l (rngD a (b - a).toNat)) δ'
def dTupRg (t : DRg) : DE := fun δ Q => t δ fun a b δ' => RgOk a b ∧ Q (.tup (rngD a (b - a).toNat)) δ'
abbrev DOpL := D → D → (List D → Prop) → Prop
def dOpL (op : DOpL) (a b : Od) : DL' := fun δ Q => a.ev δ fun x δ1 => b.ev δ1 fun y δ2 => a.fin x δ2 fun x' => b.fin y δ2 fun y' => op x' y' fun d => Q (.l d) δ2
def opCat : DOpL := fun a b K => ∃ xs ys, a = .lst xs ∧ b = .lst ys ∧ xs.length + ys.length ≤ 1000000 ∧ K (xs ++ ys)
def opRep : DOpL := fun a b K => ∃ xs n, a = .lst xs ∧ b = .int n ∧ 0 ≤ n ∧ n ≤ 1000 ∧ xs.length ≤ 1000 ∧ K (List.replicate n.toNat xs).flatten
end
end DL
namespace DL
open PySem PySem.Spec PyProof.Rows L2
theorem ok_tup (n : Nat) (xs : List D) : D.ok (n + 1) (.tup xs) = xs.all (D.ok n) := by simp [D.ok, oks_all]
theorem ok_lst (n : Nat) (xs : List D) : D.ok (n + 1) (.lst xs) = xs.all (D.ok n) := by simp [D.ok, oks_all]
mutual
def D.pl : D → Bool
  | .non => true
  | .int _ => true
  | .str _ => true
  | .tup xs => pls xs
  | .lst xs => pls xs
  | _ => false
def pls : List D → Bool
  | [] => true
  | x :: r => x.pl && pls r
end
instance : LawfulBEq Str := inferInstance
def getS (δ : DS) (i : Nat) (K : Sl → Prop) : Prop := ∃ s, δ[i]? = some (some s) ∧ K s
theorem getS_z (s : Sl) (r : DS) (K : Sl → Prop) : getS (some s :: r) 0 K = K s := by
  unfold getS; simp
theorem getS_s (s : Option Sl) (r : DS) (n : Nat) (K : Sl → Prop) : getS (s :: r) (n + 1) K = getS r n K := by
  unfold getS; simp
def asBl (d : D) (K : Bool → Prop) : Prop := ∃ k, d = .bl k ∧ K k
theorem asBl_e (k : Bool) (K : Bool → Prop) : asBl (.bl k) K = K k := by unfold asBl; simp
def asInt (d : D) (K : Int → Prop) : Prop := ∃ k, d = .int k ∧ K k
theorem asInt_e (k : Int) (K : Int → Prop) : asInt (.int k) K = K k := by unfold asInt; simp
def asLst (d : D) (K : List D → Prop) : Prop := ∃ k, d = .lst k ∧ K k
theorem asLst_e (k : List D) (K : List D → Prop) : asLst (.lst k) K = K k := by unfold asLst; simp
def asSeq (d : D) (K : List D → Prop) : Prop := ∃ ds, seqOf d = some ds ∧ K ds
theorem asSeq_l (k : List D) (K : List D → Prop) : asSeq (.lst k) K = K k := by unfold asSeq; simp [seqOf]
theorem asSeq_t (k : List D) (K : List D → Prop) : asSeq (.tup k) K = K k := by unfold asSeq; simp [seqOf]
def ifK (b : Bool) (p q : Prop) : Prop := if b = true then p else q
theorem ifK_t (p q : Prop) : ifK true p q = p := by unfold ifK; simp
theorem ifK_f (p q : Prop) : ifK false p q = q := by unfold ifK; simp
theorem ifK_i {b : Bool} {p q : Prop} (h1 : b = true → p) (h2 : b = false → q) : ifK b p q := by
  cases b
  · exact h2 rfl
  · exact h1 rfl
theorem ifK_d {c : Prop} {i : Decidable c} {p q : Prop} (h1 : c → p) (h2 : ¬ c → q) : ifK (@decide c i) p q := ifK_i (fun h => h1 (of_decide_eq_true h)) fun h => h2 (of_decide_eq_false h)
theorem ev_C (d : D) (δ : DS) (Q) : dC d δ Q = Q d δ := rfl
theorem ev_Var (i : Nat) (δ : DS) (Q) : dVar i δ Q = getS δ i fun s => Q s.top (frzS δ i s) := rfl
theorem ev_frv (δ : DS) (i : Nat) (d : D) : frzS δ i (.val d) = δ := rfl
theorem ev_fro (δ : DS) (i : Nat) (c : Ct) : frzS δ i (.own c) = δ.set i (some (.val c.frz)) := rfl
theorem ev_topv (d : D) : Sl.top (.val d) = d := rfl
theorem ev_topo (c : Ct) : Sl.top (.own c) = c.frz := rfl
theorem ev_frl (ds : List D) : Ct.frz (.l ds) = .lst ds := rfl
theorem ev_frd (t : Bool) (ds : List (D × D)) : Ct.frz (.d t ds) = .dct t ds := rfl
theorem ev_odv (t : DE) (δ : DS) (Q) : Od.ev (.v t) δ Q = t δ Q := rfl
theorem ev_odn (i : Nat) (δ : DS) (Q) : Od.ev (.n i) δ Q = getS δ i fun s => Q s.top δ := rfl
theorem ev_fiv (t : DE) (d : D) (δ : DS) (K) : Od.fin (.v t) d δ K = K d := rfl
theorem ev_fin (i : Nat) (d : D) (δ : DS) (K) : Od.fin (.n i) d δ K = getS δ i fun s => K s.top := rfl
theorem ev_Op (op : DOp) (a b : Od) (δ : DS) (Q) : dOp op a b δ Q = a.ev δ fun x δ1 => b.ev δ1 fun y δ2 => a.fin x δ2 fun x' => b.fin y δ2 fun y' => op x' y' fun d => Q d δ2 := rfl
theorem ev_Un (op : DUn) (a : Od) (δ : DS) (Q) : dUn op a δ Q = a.ev δ fun x δ1 => op x fun d => Q d δ1 := rfl
theorem ev_UL (op : DUL) (a : Od) (δ : DS) (Q) : dUL op a δ Q = a.ev δ fun x δ1 => op x fun c => Q c δ1 := rfl
theorem ev_Bb (op : DB) (a : DA) (δ : DS) (Q) : dB op a δ Q = a δ fun ds δ' => op ds fun d => Q d δ' := rfl
theorem ev_Tst (t : DE) (δ : DS) (Q) : dTst t δ Q = t δ fun d δ' => asBl d fun k => Q k δ' := rfl
theorem ev_AndT (a b : DT) (δ : DS) (Q) : dAndT a b δ Q = a δ fun c δ1 => ifK c (b δ1 Q) (Q false δ1) := rfl
theorem ev_OrT (a b : DT) (δ : DS) (Q) : dOrT a b δ Q = a δ fun c δ1 => ifK c (Q true δ1) (b δ1 Q) := rfl
theorem ev_NotT (a : DT) (δ : DS) (Q) : dNotT a δ Q = a δ fun c δ1 => Q (!c) δ1 := rfl
theorem ev_And (a b : DE) (δ : DS) (Q) : dAnd a b δ Q = a δ fun d δ1 => asBl d fun c => ifK c (b δ1 Q) (Q (.bl false) δ1) := rfl
theorem ev_Or (a b : DE) (δ : DS) (Q) : dOr a b δ Q = a δ fun d δ1 => asBl d fun c => ifK c (Q (.bl true) δ1) (b δ1 Q) := rfl
theorem ev_Not (a : DE) (δ : DS) (Q) : dNot a δ Q = a δ fun d δ1 => asBl d fun c => Q (.bl (!c)) δ1 := rfl
theorem ev_IfE (c : DT) (a b : DE) (δ : DS) (Q) : dIfE c a b δ Q = c δ fun k δ1 => ifK k (a δ1 Q) (b δ1 Q) := rfl
theorem ev_A0 (δ : DS) (Q) : dA0 δ Q = Q [] δ := rfl
theorem ev_Ac (t : DE) (r : DA) (δ : DS) (Q) : dAc t r δ Q = t δ fun d δ1 => r δ1 fun ds δ2 => Q (d :: ds) δ2 := rfl
theorem ev_Tup (a : DA) (δ : DS) (Q) : dTup a δ Q = a δ fun ds δ' => ds.length ≤ 1000000 ∧ Q (.tup ds) δ' := rfl
theorem ev_Lst (a : DA) (δ : DS) (Q) : dLst a δ Q = a δ fun ds δ' => ds.length ≤ 1000000 ∧ Q (.l ds) δ' := rfl
theorem ev_Frz (t : DL') (δ : DS) (Q) : dFrz t δ Q = t δ fun c δ' => Q c.frz δ' := rfl
theorem ev_Call (sp : DSp) (a : DA) (δ : DS) (Q) : dCall sp a δ Q = a δ fun ds δ' => sp ds fun d => Q d δ' := rfl
theorem ev_NoP (δ : DS) (Q) : dNoP δ Q = Q none δ := rfl
theorem ev_Part (t : DE) (δ : DS) (Q) : dPart t δ Q = t δ fun d δ' => asInt d fun i => Q (some i) δ' := rfl
theorem ev_Sl (a : Od) (l u : DO1) (δ : DS) (Q) : dSl a l u δ Q = a.ev δ fun x δ1 => l δ1 fun lo δ2 => u δ2 fun hi δ3 => a.fin x δ3 fun x' => opSl lo hi x' fun d => Q d δ3 := rfl
theorem ev_SeqI (t : DE) (δ : DS) (Q) : dSeqI t δ Q = t δ fun d δ' => asSeq d fun ds => Q ds δ' := rfl
theorem ev_EnumI (t : DE) (δ : DS) (Q) : dEnumI t δ Q = t δ fun d δ' => asSeq d fun ds => Q (enumD 0 ds) δ' := rfl
theorem ev_Rng1 (t : DE) (δ : DS) (Q) : dRng1 t δ Q = t δ fun d δ' => asInt d fun j => -4611686018427387904 ≤ j ∧ j < 4611686018427387904 ∧ Q (rngD 0 j.toNat) δ' := rfl
theorem ev_Rng2 (t u : DE) (δ : DS) (Q) : dRng2 t u δ Q = t δ fun d δ1 => u δ1 fun e δ2 => asInt d fun i => asInt e fun j => (-4611686018427387904 ≤ i ∧ i < 4611686018427387904 ∧ -4611686018427387904 ≤ j ∧ j < 4611686018427387904) ∧ Q (rngD i (j - i).toNat) δ2 := by
  unfold dRng2 asInt
  congr 1; funext d δ1; congr 1; funext e δ2
  apply propext
  constructor
  · rintro ⟨i, j, e1, e2, h⟩; exact ⟨i, e1, j, e2, h⟩
  · rintro ⟨i, e1, j, e2, h⟩; exact ⟨i, j, e1, e2, h⟩
theorem ev_nm (i : Nat) (d : D) (δ : DS) (K) : dPat (.nm i) d δ K = K (δ.set i (some (.val d))) := by simp only [dPat]
theorem ev_tp (ps : List Pat) (ds : List D) (δ : DS) (K) : dPat (.tp ps) (.tup ds) δ K = dPats ps ds δ K := by simp only [dPat]
theorem ev_tp0 (δ : DS) (K) : dPats [] [] δ K = K δ := by simp only [dPats]
theorem ev_tpc (p : Pat) (ps : List Pat) (d : D) (ds : List D) (δ : DS) (K) : dPats (p :: ps) (d :: ds) δ K = dPat p d δ fun δ' => dPats ps ds δ' K := by simp only [dPats]
theorem ev_Next (E : DEnds) (δ : DS) : dNext E δ = E.nx δ := rfl
theorem ev_Seq (t u : DSm) (E : DEnds) (δ : DS) : dSeq t u E δ = t { E with nx := u E } δ := rfl
theorem ev_Break (E : DEnds) (δ : DS) : dBreak E δ = E.bk δ := rfl
theorem ev_Cont (E : DEnds) (δ : DS) : dCont E δ = E.ct δ := rfl
theorem ev_Drop (t : DE) (E : DEnds) (δ : DS) : dDrop t E δ = t δ fun _ δ' => E.nx δ' := rfl
theorem ev_Ret (t : DE) (E : DEnds) (δ : DS) : dRet t E δ = t δ fun d _ => E.rt d := rfl
theorem ev_RetN (E : DEnds) (δ : DS) : dRetN E δ = E.rt .non := rfl
theorem ev_If (c : DT) (t u : DSm) (E : DEnds) (δ : DS) : dIf c t u E δ = c δ fun b δ' => ifK b (t E δ') (u E δ') := rfl
theorem ev_Set (i : Nat) (t : DE) (E : DEnds) (δ : DS) : dSet i t E δ = t δ fun d δ' => E.nx (δ'.set i (some (.val d))) := rfl
theorem ev_SetL (i : Nat) (t : DL') (E : DEnds) (δ : DS) : dSetL i t E δ = t δ fun c δ' => E.nx (δ'.set i (some (.own c))) := rfl
theorem ev_SetP (p : Pat) (t : DE) (E : DEnds) (δ : DS) : dSetP p t E δ = t δ fun d δ' => dPat p d δ' E.nx := rfl
theorem ev_rhv (t : DE) (δ : DS) (Q) : Rh.ev (.v t) δ Q = t δ fun d δ' => Q (.val d) δ' := rfl
theorem ev_rho (t : DL') (δ : DS) (Q) : Rh.ev (.o t) δ Q = t δ fun c δ' => Q (.own c) δ' := rfl
theorem ev_Par (i j : Nat) (a b : Rh) (E : DEnds) (δ : DS) : dPar i j a b E δ = a.ev δ fun s δ1 => b.ev δ1 fun s' δ2 => E.nx ((δ2.set i (some s)).set j (some s')) := rfl
theorem ev_For (ti : DI) (p : Pat) (tb : DSm) (E : DEnds) (δ : DS) : dFor ti p tb E δ = ti δ fun items δ' => dForL p tb E items δ' := rfl
theorem ev_Comp (ti : DI) (p : Pat) (tt : DT) (te : DE) (vs : List Nat) (δ : DS) (Q) : dComp ti p tt te vs δ Q = ti δ fun items δ1 => dCompL p tt te vs (fun acc δ2 => Q (.l acc) (restore δ1 δ2 vs)) items (wipeD δ1 vs) [] := rfl
theorem ev_Yes (δ : DS) (Q) : dYes δ Q = Q true δ := rfl
theorem ev_ownz (ds : List D) (r : DS) (K) : ownL (some (.own (.l ds)) :: r) 0 K = K ds := by unfold ownL; simp
theorem ev_owns (s : Option Sl) (r : DS) (n : Nat) (K) : ownL (s :: r) (n + 1) K = ownL r n K := by unfold ownL; simp
theorem ev_Append (i : Nat) (te : DE) (δ : DS) (Q) : dAppend i te δ Q = ownL δ i fun _ => te δ fun d δ' => ownL δ' i fun ds => ds.length < 1000000 ∧ Q .non (δ'.set i (some (.own (.l (ds ++ [d]))))) := rfl
theorem ev_Extend (i : Nat) (te : DE) (δ : DS) (Q) : dExtend i te δ Q = ownL δ i fun _ => te δ fun d δ' => asLst d fun es => ownL δ' i fun ds => ds.length + es.length < 1000000 ∧ Q .non (δ'.set i (some (.own (.l (ds ++ es))))) := rfl
theorem ev_Pop (i : Nat) (δ : DS) (Q) : dPop i δ Q = ownL δ i fun ds => ∃ d, ds[ds.length - 1]? = some d ∧ Q d (δ.set i (some (.own (.l ds.dropLast)))) := rfl
theorem ev_PopAt (i : Nat) (te : DE) (δ : DS) (Q) : dPopAt i te δ Q = ownL δ i fun _ => te δ fun d δ' => asInt d fun n => ownL δ' i fun ds => ∃ j y, ixN ds.length n = some j ∧ ds.length < 1000000 ∧ ds[j]? = some y ∧ Q y (δ'.set i (some (.own (.l (ds.eraseIdx j))))) := rfl
theorem ev_SetIx (i : Nat) (tk te : DE) (E : DEnds) (δ : DS) : dSetIx i tk te E δ = te δ fun d δ1 => getS δ1 i fun _ => tk δ1 fun k δ2 => asInt k fun n => ownL δ2 i fun ds => ∃ j, ixN ds.length n = some j ∧ E.nx (δ2.set i (some (.own (.l (ds.set j d))))) := by
  unfold dSetIx getS asInt
  congr 1; funext d δ1
  apply propext
  constructor
  · rintro ⟨⟨s, h⟩, q⟩; exact ⟨s, h, q⟩
  · rintro ⟨s, h, q⟩; exact ⟨⟨s, h⟩, q⟩
theorem ev_wi0 (δ : DS) : wipeD δ [] = δ := rfl
theorem ev_wic (δ : DS) (v : Nat) (vs : List Nat) : wipeD δ (v :: vs) = (wipeD δ vs).set v none := rfl
theorem ev_re0 (δ1 δ2 : DS) : restore δ1 δ2 [] = δ2 := rfl
theorem ev_rec (δ1 δ2 : DS) (v : Nat) (vs : List Nat) : restore δ1 δ2 (v :: vs) = (restore δ1 δ2 vs).set v (kv δ1 v) := rfl
theorem ev_kvn (r : DS) : kv (none :: r) 0 = none := rfl
theorem ev_kvv (d : D) (r : DS) : kv (some (.val d) :: r) 0 = some (.val d) := rfl
theorem ev_kvo (c : Ct) (r : DS) : kv (some (.own c) :: r) 0 = none := rfl
theorem ev_kvs (s : Option Sl) (r : DS) (n : Nat) : kv (s :: r) (n + 1) = kv r n := by unfold kv; simp
theorem ev_endrt (K : D → Prop) : (endD K).rt = K := rfl
theorem ev_endnx (K : D → Prop) (δ : DS) : (endD K).nx δ = K .non := rfl
theorem ev_addi (i j : Int) (K) : opAdd (.int i) (.int j) K = K (.int (i + j)) := rfl
theorem ev_addt (xs ys : List D) (K) : opAdd (.tup xs) (.tup ys) K = (xs.length + ys.length ≤ 16777216 ∧ K (.tup (xs ++ ys))) := rfl
theorem ev_addl (xs ys : List D) (K) : opAdd (.lst xs) (.lst ys) K = (xs.length + ys.length ≤ 16777216 ∧ K (.lst (xs ++ ys))) := rfl
theorem ev_adds (x y : Str) (K) : opAdd (.str x) (.str y) K = (x.length + y.length ≤ 16777216 ∧ K (.str (x ++ y))) := rfl
theorem ev_sub (i j : Int) (K) : opSub (.int i) (.int j) K = K (.int (i - j)) := rfl
theorem ev_muli (i j : Int) (K) : opMul (.int i) (.int j) K = (MulOk i j ∧ K (.int (i * j))) := rfl
theorem ev_mull (xs : List D) (n : Int) (K) : opMul (.lst xs) (.int n) K = (0 ≤ n ∧ n ≤ 1000 ∧ xs.length ≤ 1000 ∧ K (.lst (List.replicate n.toNat xs).flatten)) := rfl
theorem ev_mult (xs : List D) (n : Int) (K) : opMul (.tup xs) (.int n) K = (xs ≠ [] ∧ 0 ≤ n ∧ n ≤ 1000 ∧ xs.length ≤ 1000 ∧ K (.tup (List.replicate n.toNat xs).flatten)) := rfl
theorem ev_mod (i j : Int) (K) : opMod (.int i) (.int j) K = (0 < j ∧ K (.int (i % j))) := rfl
theorem ev_div (i j : Int) (K) : opDiv (.int i) (.int j) K = (0 < j ∧ j < 2 ^ 4000 ∧ K (.int (i / j))) := rfl
theorem ev_pow (i j : Int) (K) : opPow (.int i) (.int j) K = ((0 ≤ j ∧ j ≤ 1000000 ∧ i.natAbs < 2 ^ 64) ∧ K (.int (i ^ j.toNat))) := rfl
theorem ev_shl (i j : Int) (K) : opShl (.int i) (.int j) K = ((0 ≤ j ∧ j ≤ 1000000 ∧ i.natAbs < 2 ^ 64) ∧ K (.int (i * 2 ^ j.toNat))) := rfl
theorem ev_cmp (p : Int → Int → Bool) (i j : Int) (K) : opCmp p (.int i) (.int j) K = K (.bl (p i j)) := rfl
theorem ev_lt (i j : Int) (K) : opLt (.int i) (.int j) K = K (.bl (decide (i < j))) := rfl
theorem ev_le (i j : Int) (K) : opLe (.int i) (.int j) K = K (.bl (decide (i ≤ j))) := rfl
theorem ev_gt (i j : Int) (K) : opGt (.int i) (.int j) K = K (.bl (decide (i > j))) := rfl
theorem ev_ge (i j : Int) (K) : opGe (.int i) (.int j) K = K (.bl (decide (i ≥ j))) := rfl
theorem opEq_n {a b : D} {K : D → Prop} (h : ∀ x y, ¬ (a = .str x ∧ b = .str y)) : opEq a b K = (a.ok 64 = true ∧ b.ok 64 = true ∧ K (.bl (a.eqv b))) := by
  apply propext
  constructor
  · rintro (⟨x, y, e1, e2, _⟩ | h')
    · exact absurd ⟨e1, e2⟩ (h x y)
    · exact h'
  · exact .inr
theorem opNe_n {a b : D} {K : D → Prop} (h : ∀ x y, ¬ (a = .str x ∧ b = .str y)) : opNe a b K = (a.ok 64 = true ∧ b.ok 64 = true ∧ K (.bl (!a.eqv b))) := by
  apply propext
  constructor
  · rintro (⟨x, y, e1, e2, _⟩ | h')
    · exact absurd ⟨e1, e2⟩ (h x y)
    · exact h'
  · exact .inr
theorem ev_eqi (i j : Int) (K) : opEq (.int i) (.int j) K = K (.bl (decide (i = j))) := by
  rw [opEq_n (a := .int i) (b := .int j) (fun x y h => (nomatch h.1)), show D.ok 64 (.int i) = true from rfl, show D.ok 64 (.int j) = true from rfl, show D.eqv (.int i) (.int j) = decide (i = j) from rfl]; simp
theorem ev_nei (i j : Int) (K) : opNe (.int i) (.int j) K = K (.bl (!decide (i = j))) := by
  rw [opNe_n (a := .int i) (b := .int j) (fun x y h => (nomatch h.1)), show D.ok 64 (.int i) = true from rfl, show D.ok 64 (.int j) = true from rfl, show D.eqv (.int i) (.int j) = decide (i = j) from rfl]; simp
theorem eqv_str (x y : Str) : D.eqv (.str x) (.str y) = decide (x = y) := by
  simp only [D.eqv, D.py, PyData.eqv]
  by_cases h : x = y <;> simp [h]
theorem ev_eqs (x y : Str) (K) : opEq (.str x) (.str y) K = K (.bl (decide (x = y))) := by
  apply propext
  constructor
  · rintro (⟨a, b, e1, e2, q⟩ | ⟨_, _, q⟩)
    · cases e1; cases e2; exact q
    · rw [eqv_str] at q; exact q
  · exact fun q => .inl ⟨x, y, rfl, rfl, q⟩
theorem ev_nes (x y : Str) (K) : opNe (.str x) (.str y) K = K (.bl (!decide (x = y))) := by
  apply propext
  constructor
  · rintro (⟨a, b, e1, e2, q⟩ | ⟨_, _, q⟩)
    · cases e1; cases e2; exact q
    · rw [eqv_str] at q; exact q
  · exact fun q => .inl ⟨x, y, rfl, rfl, q⟩
theorem ev_eqtt (a b : List D) (K) : opEq (.tup a) (.tup b) K = ((D.tup a).ok 64 = true ∧ (D.tup b).ok 64 = true ∧ K (.bl ((D.tup a).eqv (.tup b)))) := opEq_n (fun x y h => (nomatch h.1))
theorem ev_eqll (a b : List D) (K) : opEq (.lst a) (.lst b) K = ((D.lst a).ok 64 = true ∧ (D.lst b).ok 64 = true ∧ K (.bl ((D.lst a).eqv (.lst b)))) := opEq_n (fun x y h => (nomatch h.1))
theorem ev_nett (a b : List D) (K) : opNe (.tup a) (.tup b) K = ((D.tup a).ok 64 = true ∧ (D.tup b).ok 64 = true ∧ K (.bl (!(D.tup a).eqv (.tup b)))) := opNe_n (fun x y h => (nomatch h.1))
theorem ev_nell (a b : List D) (K) : opNe (.lst a) (.lst b) K = ((D.lst a).ok 64 = true ∧ (D.lst b).ok 64 = true ∧ K (.bl (!(D.lst a).eqv (.lst b)))) := opNe_n (fun x y h => (nomatch h.1))
theorem ev_isN (a : D) (K) : opIsN a .non K = K (.bl a.isNon) := rfl
theorem ev_notN (a : D) (K) : opNotN a .non K = K (.bl (!a.isNon)) := rfl
theorem ev_neg (i : Int) (K) : opNeg (.int i) K = K (.int (-i)) := rfl
def ixK (xs : List D) (i : Int) (K : D → Prop) : Prop := ∃ d, atI xs i = some d ∧ K d
theorem ev_ixt (xs : List D) (i : Int) (K) : opIx (.tup xs) (.int i) K = ixK xs i K := rfl
theorem ev_ixl (xs : List D) (i : Int) (K) : opIx (.lst xs) (.int i) K = ixK xs i K := rfl
theorem ev_ix0 (x : D) (xs : List D) (K) : ixK (x :: xs) 0 K = K x := by
  rw [ixK, show atI (x :: xs) 0 = some x from atI_nat (j := 0) rfl]; simp
theorem ev_ix1 (x y : D) (xs : List D) (K) : ixK (x :: y :: xs) 1 K = K y := by
  rw [ixK, show atI (x :: y :: xs) 1 = some y from atI_nat (j := 1) rfl]; simp
theorem ev_ix2 (x y z : D) (xs : List D) (K) : ixK (x :: y :: z :: xs) 2 K = K z := by
  rw [ixK, show atI (x :: y :: z :: xs) 2 = some z from atI_nat (j := 2) rfl]; simp
theorem ev_slt (lo hi : Option Int) (xs : List D) (K) : opSl lo hi (.tup xs) K = K (.tup (cutD xs lo hi)) := rfl
theorem ev_sll (lo hi : Option Int) (xs : List D) (K) : opSl lo hi (.lst xs) K = K (.lst (cutD xs lo hi)) := rfl
theorem ev_lent (xs : List D) (K) : opLen (.tup xs) K = K (.int xs.length) := rfl
theorem ev_lenl (xs : List D) (K) : opLen (.lst xs) K = K (.int xs.length) := rfl
theorem ev_tupt (xs : List D) (K) : opTuple (.tup xs) K = K (.tup xs) := rfl
theorem ev_tupl (xs : List D) (K) : opTuple (.lst xs) K = K (.tup xs) := rfl
theorem ev_inti (i : Int) (K) : opInt (.int i) K = K (.int i) := rfl
theorem ev_intb (b : Bool) (K) : opInt (.bl b) K = K (.int (if b then 1 else 0)) := rfl
theorem ev_abs (i : Int) (K) : opAbs (.int i) K = K (.int (if i < 0 then -i else i)) := rfl
theorem ev_listt (xs : List D) (K) : opList (.tup xs) K = K (.l xs) := rfl
theorem ev_listl (xs : List D) (K) : opList (.lst xs) K = K (.l xs) := rfl
theorem ev_repr (d : D) (K) : opRepr d K = (d.ok 60 = true ∧ d.shw = true ∧ K (.str d.py.shown)) := rfl
theorem ev_Rev (t : DE) (δ : DS) (Q) : dRev t δ Q = t δ fun d δ' => asLst d fun xs => Q (.lst xs.reverse) δ' := rfl
theorem ev_isA (T : String) (d : D) (K) : opIsA T d K = (d ≠ .dk ∧ K (.bl (d.isA T))) := rfl
theorem ev_ndt (xs : List D) : (D.tup xs ≠ .dk) = True := by simp
theorem ev_ndl (xs : List D) : (D.lst xs ≠ .dk) = True := by simp
theorem ev_ndi (i : Int) : (D.int i ≠ .dk) = True := by simp
theorem ev_ndb (i : Bool) : (D.bl i ≠ .dk) = True := by simp
theorem ev_nds (i : Str) : (D.str i ≠ .dk) = True := by simp
theorem ev_ndn : (D.non ≠ .dk) = True := by simp
theorem ev_iatt (xs : List D) : D.isA "tuple" (.tup xs) = true := rfl
theorem ev_iail (xs : List D) : D.isA "list" (.lst xs) = true := rfl
theorem ev_iaii (i : Int) : D.isA "int" (.int i) = true := rfl
theorem ev_iabi (i : Int) : D.isA "bool" (.int i) = false := rfl
theorem ev_iaib (i : Bool) : D.isA "int" (.bl i) = true := rfl
theorem ev_iabb (i : Bool) : D.isA "bool" (.bl i) = true := rfl
theorem ev_iass (i : Str) : D.isA "str" (.str i) = true := rfl
theorem ev_iain (xs : List D) : D.isA "int" (.tup xs) = false := rfl
theorem ev_iain0 : D.isA "int" .non = false := rfl
theorem ev_iatn0 : D.isA "tuple" .non = false := rfl
theorem ev_Chain (p q : Int → Int → Bool) (a b c : DE) (δ : DS) (Q) : dChain p q a b c δ Q = a δ fun x δ1 => asInt x fun i => b δ1 fun y δ2 => asInt y fun j => ifK (p i j) (c δ2 fun z δ3 => asInt z fun k => Q (.bl (q j k)) δ3) (Q (.bl false) δ2) := rfl
theorem ev_Rng3 (t u w : DE) (δ : DS) (Q) : dRng3 t u w δ Q = t δ fun d δ1 => u δ1 fun e δ2 => w δ2 fun f δ3 => asInt d fun i => asInt e fun j => asInt f fun c => ∃ n, RgC i j c n ∧ Q (rngC i c n) δ3 := by
  unfold dRng3 asInt
  congr 1; funext d δ1; congr 1; funext e δ2; congr 1; funext f δ3
  apply propext
  constructor
  · rintro ⟨i, j, c, n, e1, e2, e3, h⟩; exact ⟨i, e1, j, e2, c, e3, n, h⟩
  · rintro ⟨i, e1, j, e2, c, e3, n, h⟩; exact ⟨i, j, c, n, e1, e2, e3, h⟩
def asZip (d e : D) (K : List D → Prop) : Prop := ∃ xs ys, ((d = .lst xs ∧ e = .lst ys) ∨ (d = .tup xs ∧ e = .tup ys)) ∧ K (zipD xs ys)
theorem asZip_l (xs ys : List D) (K) : asZip (.lst xs) (.lst ys) K = K (zipD xs ys) := by
  unfold asZip
  apply propext
  constructor
  · rintro ⟨a, b, (⟨e1, e2⟩ | ⟨e1, e2⟩), h⟩
    · cases e1; cases e2; exact h
    · cases e1
  · exact fun h => ⟨xs, ys, .inl ⟨rfl, rfl⟩, h⟩
theorem asZip_t (xs ys : List D) (K) : asZip (.tup xs) (.tup ys) K = K (zipD xs ys) := by
  unfold asZip
  apply propext
  constructor
  · rintro ⟨a, b, (⟨e1, e2⟩ | ⟨e1, e2⟩), h⟩
    · cases e1
    · cases e1; cases e2; exact h
  · exact fun h => ⟨xs, ys, .inr ⟨rfl, rfl⟩, h⟩
theorem ev_Zip (t u : DE) (δ : DS) (Q) : dZip t u δ Q = t δ fun d δ1 => u δ1 fun e δ2 => asZip d e fun zs => Q zs δ2 := rfl
theorem ev_Rg1 (t : DE) (δ : DS) (Q) : dRg1 t δ Q = t δ fun d δ' => asInt d fun j => Q 0 j δ' := rfl
theorem ev_Rg2 (t u : DE) (δ : DS) (Q) : dRg2 t u δ Q = t δ fun d δ1 => u δ1 fun e δ2 => asInt d fun i => asInt e fun j => Q i j δ2 := by
  unfold dRg2 asInt
  congr 1; funext d δ1; congr 1; funext e δ2
  apply propext
  constructor
  · rintro ⟨i, j, e1, e2, h⟩; exact ⟨i, e1, j, e2, h⟩
  · rintro ⟨i, e1, j, e2, h⟩; exact ⟨i, j, e1, e2, h⟩
theorem ev_LstRg (t : DRg) (δ : DS) (Q) : dLstRg t δ Q = t δ fun a b δ' => RgOk a b ∧ Q (.l (rngD a (b - a).toNat)) δ' := rfl
theorem ev_TupRg (t : DRg) (δ : DS) (Q) : dTupRg t δ Q = t δ fun a b δ' => RgOk a b ∧ Q (.tup (rngD a (b - a).toNat)) δ' := rfl
theorem ev_min2 (i j : Int) (K) : opMin2 [.int i, .int j] K = K (.int (if j < i then j else i)) := by
  unfold opMin2; apply propext
  constructor
  · rintro ⟨a, b, e, h⟩
    simp only [List.cons.injEq, D.int.injEq, and_true] at e
    obtain ⟨rfl, rfl⟩ := e; exact h
  · exact fun h => ⟨i, j, rfl, h⟩
theorem ev_max2 (i j : Int) (K) : opMax2 [.int i, .int j] K = K (.int (if j > i then j else i)) := by
  unfold opMax2; apply propext
  constructor
  · rintro ⟨a, b, e, h⟩
    simp only [List.cons.injEq, D.int.injEq, and_true] at e
    obtain ⟨rfl, rfl⟩ := e; exact h
  · exact fun h => ⟨i, j, rfl, h⟩
theorem ev_nnn : D.isNon .non = true := rfl
theorem ev_nni (i : Int) : D.isNon (.int i) = false := rfl
theorem ev_nnt (i : List D) : D.isNon (.tup i) = false := rfl
theorem ev_nnl (i : List D) : D.isNon (.lst i) = false := rfl
theorem ev_nns (i : Str) : D.isNon (.str i) = false := rfl
theorem ev_nnb (i : Bool) : D.isNon (.bl i) = false := rfl
theorem ev_OpL (op : DOpL) (a b : Od) (δ : DS) (Q) : dOpL op a b δ Q = a.ev δ fun x δ1 => b.ev δ1 fun y δ2 => a.fin x δ2 fun x' => b.fin y δ2 fun y' => op x' y' fun d => Q (.l d) δ2 := rfl
theorem ev_cat (xs ys : List D) (K) : opCat (.lst xs) (.lst ys) K = (xs.length + ys.length ≤ 1000000 ∧ K (xs ++ ys)) := by
  unfold opCat; apply propext
  constructor
  · rintro ⟨a, b, e1, e2, h⟩; cases e1; cases e2; exact h
  · exact fun h => ⟨xs, ys, rfl, rfl, h⟩
theorem ev_rep (xs : List D) (n : Int) (K) : opRep (.lst xs) (.int n) K = (0 ≤ n ∧ n ≤ 1000 ∧ xs.length ≤ 1000 ∧ K (List.replicate n.toNat xs).flatten) := by
  unfold opRep; apply propext
  constructor
  · rintro ⟨a, b, e1, e2, h⟩; cases e1; cases e2; exact h
  · exact fun h => ⟨xs, n, rfl, rfl, h⟩
theorem ev_elrt (d : D) : endLaw.rt d = (d = .bl true) := rfl
def D.blk (d : D) : Nat := d.py.bulk
theorem blk_int (i : Int) : (D.int i).blk = 0 := rfl
theorem blk_non : (D.non).blk = 0 := rfl
theorem blk_bl (b : Bool) : (D.bl b).blk = 0 := rfl
theorem blk_tup (xs : List D) : (D.tup xs).blk = PyData.bulkAll (pys xs) := by simp [D.blk, D.py, PyData.bulk]
theorem blk_lst (xs : List D) : (D.lst xs).blk = PyData.bulkAll (pys xs) := by simp [D.blk, D.py, PyData.bulk]
theorem blks_nil : PyData.bulkAll (pys []) = 0 := by simp [pys, PyData.bulkAll]
theorem blks_cons (x : D) (r : List D) : PyData.bulkAll (pys (x :: r)) = x.blk + 1 + PyData.bulkAll (pys r) := by simp [pys, PyData.bulkAll, D.blk]
theorem blks_le {c : Nat} : ∀ {xs : List D}, (∀ x ∈ xs, x.blk ≤ c) → PyData.bulkAll (pys xs) ≤ (c + 1) * xs.length
  | [], _ => by rw [blks_nil]; omega
  | x :: r, h => by
    have a := h x (by simp)
    have b := blks_le (c := c) (xs := r) fun y hy => h y (by simp [hy])
    rw [blks_cons, List.length_cons, Nat.mul_add]
    omega
inductive Tag {α : Type} (a : α) : Type where
  | mk
def KC (Q : Ct → DS → Prop) (δ1 : DS) (vs : List Nat) (_ : Tag Q) : List D → DS → Prop := fun acc δ2 => Q (.l acc) (restore δ1 δ2 vs)
theorem evk_Comp (ti : DI) (p : Pat) (tt : DT) (te : DE) (vs : List Nat) (δ : DS) (Q) : dComp ti p tt te vs δ Q = ti δ fun items δ1 => dCompL p tt te vs (KC Q δ1 vs .mk) items (wipeD δ1 vs) [] := rfl
theorem evk_KC (Q : Ct → DS → Prop) (δ1 δ2 : DS) (vs : List Nat) (t : Tag Q) (acc : List D) : KC Q δ1 vs t acc δ2 = Q (.l acc) (restore δ1 δ2 vs) := rfl
def callK (sp : DSp) (ds : List D) (K : D → Prop) (_ : Tag K) : Prop := sp ds K
theorem evk_Call (sp : DSp) (a : DA) (δ : DS) (Q) : dCall sp a δ Q = a δ fun ds δ' => callK sp ds (fun d => Q d δ') .mk := rfl
theorem if_call {c : Bool} {sp : DSp} {as : List D} {R : D → Prop} {R0 : Prop} (d0 : D) (P : D → Prop) (ms : MonoSp sp) (h4 : R d0 → R0) (h1 : c = true → sp as P) (h2 : c = false → P d0) (h3 : ∀ d, P d → R d) : ifK c (sp as R) R0 :=
  ifK_i (fun h => ms _ _ _ h3 (h1 h)) fun h => h4 (h3 _ (h2 h))
theorem while_run {c : DT} {tb : DSm} {E : DEnds} {δ : DS} (W : Nat → DS → Prop) (m : Nat) (h0 : W m δ)
    (hs : ∀ m δ, W m δ → ∀ nx : DS → Prop, (∀ m' δ', m' < m → W m' δ' → nx δ') → c δ fun b δ1 => ifK b (tb { E with nx := nx, ct := nx, bk := E.nx } δ1) (E.nx δ1)) : dWhile c tb E δ :=
  ⟨W, ⟨m, h0⟩, fun m δ h => hs m δ h _ fun m' δ' hm h' => ⟨m', hm, h'⟩⟩
theorem ev_draw (m : Int) (K) : sp_draw [.dk, .int m] K = (0 < m ∧ m < 10000000000000000000000000000000000000000 ∧ ∀ i : Int, 0 ≤ i → i < m → K (.int i)) := by
  unfold sp_draw
  apply propext
  constructor
  · rintro ⟨m', e, h1, h2, q⟩
    simp only [List.cons.injEq, D.int.injEq, and_true, true_and] at e
    subst e; exact ⟨h1, h2, q⟩
  · rintro ⟨h1, h2, q⟩; exact ⟨m, rfl, h1, h2, q⟩
theorem evk_draw (m : Int) (K) (t : Tag K) : callK sp_draw [.dk, .int m] K t = (0 < m ∧ m < 10000000000000000000000000000000000000000 ∧ ∀ i : Int, 0 ≤ i → i < m → K (.int i)) := ev_draw m K
end DL
namespace DL
open PySem PySem.Spec PyProof.Rows L2
def lkD (kvs : List (D × D)) (k : D) : Option D := (kvs.find? fun kv => kv.1.eqv k).map (·.2)
def putD (kvs : List (D × D)) (k v : D) : List (D × D) :=
  if (kvs.any fun kv => kv.1.eqv k) = true then kvs.map (fun kv => if kv.1.eqv k = true then (kv.1, v) else kv) else kvs ++ [(k, v)]
def D.key1 : D → Bool
  | .int _ => true
  | .str _ => true
  | _ => false
def D.key : Bool → D → Bool
  | false, d => d.key1
  | true, .tup ds => ds.all D.key1
  | true, _ => false
theorem key1_of {d : D} (h : d.key1 = true) : ∃ y, d = keyD y := by
  cases d <;> first | (simp [D.key1] at h; done) | skip
  · exact ⟨.inl _, rfl⟩
  · exact ⟨.inr _, rfl⟩
theorem keys_of : ∀ {ds : List D}, ds.all D.key1 = true → ∃ ys : List Key, ds = ys.map keyD
  | [], _ => ⟨[], rfl⟩
  | d :: ds, h => by
    rw [List.all_cons, Bool.and_eq_true] at h
    obtain ⟨y, rfl⟩ := key1_of h.1
    obtain ⟨ys, rfl⟩ := keys_of h.2
    exact ⟨y :: ys, rfl⟩
theorem keyD_eqv (y z : Key) : (keyD y).eqv (keyD z) = decide (y = z) := by
  cases y <;> cases z <;> simp [keyD, D.eqv, D.py, PyData.eqv]
  · rename_i a b
    by_cases h : a = b <;> simp [h]
  · rename_i a b
    by_cases h : a = b <;> simp [h]
theorem keysD_eqv : ∀ (y z : List Key), PyData.eqvAll (pys (y.map keyD)) (pys (z.map keyD)) = decide (y = z)
  | [], [] => by simp [pys, PyData.eqvAll]
  | [], _ :: _ => by simp [pys, PyData.eqvAll]
  | _ :: _, [] => by simp [pys, PyData.eqvAll]
  | a :: y, b :: z => by
    have e1 := keyD_eqv a b
    unfold D.eqv at e1
    have e2 := keysD_eqv y z
    simp only [List.map_cons, pys, PyData.eqvAll, e1, e2]
    by_cases h1 : a = b <;> by_cases h2 : y = z <;> simp [h1, h2]
theorem keyT_eqv (y z : List Key) : (D.tup (y.map keyD)).eqv (.tup (z.map keyD)) = decide (y = z) := by
  have e := keysD_eqv y z
  simpa only [D.eqv, D.py, PyData.eqv] using e
section
variable {k : Dk} {F : Hp}
inductive RpO (k : Dk) (F : Hp) : Option V → Option D → Prop where
  | none : RpO k F none none
  | some {v d} : Rp k F v d → RpO k F (some v) (some d)
theorem RpK.lk {ks : List (Key × V)} {ds : List (D × D)} (r : RpK k F ks ds) (y : Key) : RpO k F (valV ks y) (lkD ds (keyD y)) := by
  induction ks generalizing ds with
  | nil => cases r; exact .none
  | cons p ks ih =>
    cases r with
    | @cons z v _ d ds' r1 r2 =>
      have e : (keyD z).eqv (keyD y) = decide (z = y) := keyD_eqv z y
      by_cases h : z = y
      · rw [valV_pos (p := (z, v)) h]
        unfold lkD
        rw [List.find?_cons]
        rw [decide_eq_true h] at e
        simp only [e]
        exact .some r1
      · rw [valV_neg (p := (z, v)) h]
        have := ih r2
        unfold lkD at this ⊢
        rw [List.find?_cons]
        rw [decide_eq_false h] at e
        simp only [e]
        exact this
theorem RpT.lk {ks : List (List Key × V)} {ds : List (D × D)} (r : RpT k F ks ds) (y : List Key) : RpO k F (valV ks y) (lkD ds (.tup (y.map keyD))) := by
  induction ks generalizing ds with
  | nil => cases r; exact .none
  | cons p ks ih =>
    cases r with
    | @cons z v _ d ds' r1 r2 =>
      have e : (D.tup (z.map keyD)).eqv (.tup (y.map keyD)) = decide (z = y) := keyT_eqv z y
      by_cases h : z = y
      · rw [valV_pos (p := (z, v)) h]
        unfold lkD
        rw [List.find?_cons]
        rw [decide_eq_true h] at e
        simp only [e]
        exact .some r1
      · rw [valV_neg (p := (z, v)) h]
        have := ih r2
        unfold lkD at this ⊢
        rw [List.find?_cons]
        rw [decide_eq_false h] at e
        simp only [e]
        exact this
theorem RpK.any {ks : List (Key × V)} {ds : List (D × D)} (r : RpK k F ks ds) (y : Key) : (ks.any fun kv => decide (kv.1 = y)) = ds.any fun kv => kv.1.eqv (keyD y) := by
  induction ks generalizing ds with
  | nil => cases r; rfl
  | cons p ks ih =>
    cases r with
    | @cons z v _ d ds' r1 r2 => rw [List.any_cons, List.any_cons, ih r2, keyD_eqv]
theorem RpT.any {ks : List (List Key × V)} {ds : List (D × D)} (r : RpT k F ks ds) (y : List Key) : (ks.any fun kv => decide (kv.1 = y)) = ds.any fun kv => kv.1.eqv (.tup (y.map keyD)) := by
  induction ks generalizing ds with
  | nil => cases r; rfl
  | cons p ks ih =>
    cases r with
    | @cons z v _ d ds' r1 r2 => rw [List.any_cons, List.any_cons, ih r2, keyT_eqv]
theorem RpK.append {a b : List (Key × V)} {c d : List (D × D)} (r : RpK k F a c) (q : RpK k F b d) : RpK k F (a ++ b) (c ++ d) := by
  induction a generalizing c with
  | nil => cases r; exact q
  | cons p a ih => cases r with | cons r1 r2 => exact .cons r1 (ih r2)
theorem RpT.append {a b : List (List Key × V)} {c d : List (D × D)} (r : RpT k F a c) (q : RpT k F b d) : RpT k F (a ++ b) (c ++ d) := by
  induction a generalizing c with
  | nil => cases r; exact q
  | cons p a ih => cases r with | cons r1 r2 => exact .cons r1 (ih r2)
theorem RpK.repl {ks : List (Key × V)} {ds : List (D × D)} (r : RpK k F ks ds) (y : Key) {v : V} {d : D} (rv : Rp k F v d) :
    RpK k F (ks.map fun kv => if kv.1 = y then (kv.1, v) else kv) (ds.map fun kv => if kv.1.eqv (keyD y) = true then (kv.1, d) else kv) := by
  induction ks generalizing ds with
  | nil => cases r; exact .nil
  | cons p ks ih =>
    cases r with
    | @cons z w _ e ds' r1 r2 =>
      have e1 : (keyD z).eqv (keyD y) = decide (z = y) := keyD_eqv z y
      rw [List.map_cons, List.map_cons]
      by_cases h : z = y
      · rw [decide_eq_true h] at e1
        rw [if_pos h, if_pos e1]
        exact .cons rv (ih r2)
      · rw [decide_eq_false h] at e1
        rw [if_neg h, if_neg (by rw [e1]; exact Bool.false_ne_true)]
        exact .cons r1 (ih r2)
theorem RpT.repl {ks : List (List Key × V)} {ds : List (D × D)} (r : RpT k F ks ds) (y : List Key) {v : V} {d : D} (rv : Rp k F v d) :
    RpT k F (ks.map fun kv => if kv.1 = y then (kv.1, v) else kv) (ds.map fun kv => if kv.1.eqv (.tup (y.map keyD)) = true then (kv.1, d) else kv) := by
  induction ks generalizing ds with
  | nil => cases r; exact .nil
  | cons p ks ih =>
    cases r with
    | @cons z w _ e ds' r1 r2 =>
      have e1 : (D.tup (z.map keyD)).eqv (.tup (y.map keyD)) = decide (z = y) := keyT_eqv z y
      rw [List.map_cons, List.map_cons]
      by_cases h : z = y
      · rw [decide_eq_true h] at e1
        rw [if_pos h, if_pos e1]
        exact .cons rv (ih r2)
      · rw [decide_eq_false h] at e1
        rw [if_neg h, if_neg (by rw [e1]; exact Bool.false_ne_true)]
        exact .cons r1 (ih r2)
theorem RpK.put {ks : List (Key × V)} {ds : List (D × D)} (r : RpK k F ks ds) (y : Key) {v : V} {d : D} (rv : Rp k F v d) : RpK k F (putK ks y v) (putD ds (keyD y) d) := by
  unfold putK putD
  rw [r.any]
  split
  · exact r.repl y rv
  · exact r.append (.cons rv .nil)
theorem RpT.put {ks : List (List Key × V)} {ds : List (D × D)} (r : RpT k F ks ds) (y : List Key) {v : V} {d : D} (rv : Rp k F v d) : RpT k F (putK ks y v) (putD ds (.tup (y.map keyD)) d) := by
  unfold putK putD
  rw [r.any]
  split
  · exact r.repl y rv
  · exact r.append (.cons rv .nil)
theorem RpK.length {ks : List (Key × V)} {ds : List (D × D)} (r : RpK k F ks ds) : ks.length = ds.length := by
  induction ks generalizing ds with
  | nil => cases r; rfl
  | cons p ks ih => cases r with | cons r1 r2 => rw [List.length_cons, List.length_cons, ih r2]
theorem RpT.length {ks : List (List Key × V)} {ds : List (D × D)} (r : RpT k F ks ds) : ks.length = ds.length := by
  induction ks generalizing ds with
  | nil => cases r; rfl
  | cons p ks ih => cases r with | cons r1 r2 => rw [List.length_cons, List.length_cons, ih r2]
theorem Rps.keys_of : ∀ {ys : List Key} {vs : List V}, Rps k F vs (ys.map keyD) → vs = ys.map kV
  | [], _, h => by cases h; rfl
  | y :: ys, _, h => by
    cases h with
    | cons h1 h2 =>
      rw [Rps.keys_of h2, List.map_cons]
      cases y <;> (cases h1; rfl)
end
theorem RpTop.dct {k : Dk} {F H : Hp} {v : V} {t : Bool} {kvs : List (D × D)} (s : Same F H) (h : RpTop k F H v (.dct t kvs)) :
    ∃ a, v = .ref a ∧ ((t = false ∧ ∃ ks, Rd H a (.dK ks) ∧ RpK k F ks kvs) ∨ (t = true ∧ ∃ ks, Rd H a (.dT ks) ∧ RpT k F ks kvs)) := by
  rcases h with h | ⟨p, o, c, rfl, hp, r, e⟩
  · cases h with
    | dctK e r => exact ⟨_, rfl, .inl ⟨rfl, _, Same.rd s e, r⟩⟩
    | dctT e r => exact ⟨_, rfl, .inr ⟨rfl, _, Same.rd s e, r⟩⟩
  · cases c with
    | l ds => cases e
    | d t' kvs' =>
      cases e
      rcases r with ⟨rfl, ks, rfl, r⟩ | ⟨rfl, ks, rfl, r⟩
      · exact ⟨p, rfl, .inl ⟨rfl, ks, .inl hp, r⟩⟩
      · exact ⟨p, rfl, .inr ⟨rfl, ks, .inl hp, r⟩⟩
theorem dget_D {k : Dk} {F H : Hp} {t : Bool} {kvs : List (D × D)} {v y : V} {b : D} (s : Same F H) (h : RpTop k F H v (.dct t kvs)) (hb : RpTop k F H y b) (kb : D.key t b = true) :
    ∃ a o, v = .ref a ∧ DGet H a y o ∧ RpO k F o (lkD kvs b) := by
  obtain ⟨a, rfl, ⟨rfl, ks, ha, r⟩ | ⟨rfl, ks, ha, r⟩⟩ := h.dct s
  · obtain ⟨z, rfl⟩ := key1_of kb
    have e : y = kV z := by
      cases z with
      | inl i => exact RpTop.int hb
      | inr i => exact RpTop.str hb
    subst e
    exact ⟨a, _, rfl, .inl ⟨_, _, ha, rfl, rfl⟩, r.lk z⟩
  · cases b with
    | tup ds =>
      obtain ⟨ys, rfl⟩ := keys_of kb
      obtain ⟨q, xs, rfl, hq, rr⟩ := RpTop.tup hb
      rw [Rps.keys_of rr] at hq
      exact ⟨a, _, rfl, .inr ⟨_, _, _, ha, rfl, s _ _ hq, rfl⟩, r.lk ys⟩
    | _ => simp [D.key] at kb
section
variable {X : Cx} {pos : Pos}
def opGetD : DOp := fun a b K => ∃ t kvs d, a = .dct t kvs ∧ D.key t b = true ∧ lkD kvs b = some d ∧ K d
def memD (b : D) (xs : List D) : Bool := xs.any fun z => z.eqv b
def opIn : DOp := fun b a K => match a with
  | .lst xs => b.ok 60 = true ∧ (D.lst xs).ok 60 = true ∧ K (.bl (memD b xs))
  | .tup xs => b.ok 60 = true ∧ (D.tup xs).ok 60 = true ∧ K (.bl (memD b xs))
  | .dct t kvs => D.key t b = true ∧ K (.bl (lkD kvs b).isSome)
  | .str z => ∃ c, b = .str ⟨#[c]⟩ ∧ K (.bl (decide (c ∈ z.cps.toList)))
  | _ => False
def opNotIn : DOp := fun b a K => match a with
  | .lst xs => b.ok 60 = true ∧ (D.lst xs).ok 60 = true ∧ K (.bl (!memD b xs))
  | .tup xs => b.ok 60 = true ∧ (D.tup xs).ok 60 = true ∧ K (.bl (!memD b xs))
  | .dct t kvs => D.key t b = true ∧ K (.bl (!(lkD kvs b).isSome))
  | .str z => ∃ c, b = .str ⟨#[c]⟩ ∧ K (.bl (!decide (c ∈ z.cps.toList)))
  | _ => False
theorem RpO.isSome {k : Dk} {F : Hp} {o : Option V} {u : Option D} (r : RpO k F o u) : o.isSome = u.isSome := by cases r <;> rfl
theorem memD_py (b : D) (xs : List D) : ((pys xs).any fun z => PyData.eqv z b.py) = memD b xs := by
  unfold memD
  rw [pys_map, List.any_map]; rfl
theorem room60 {A : Around} {b : D} {xs : List D} (hu : A.units + 64 < cLine) (hb : b.ok 60 = true) : A.units + 1 + min (PyData.depthAll (pys xs)) b.py.depth < cLine := by
  have := (D.canLay b 60 hb).2
  have := Nat.min_le_right (PyData.depthAll (pys xs)) b.py.depth
  omega
theorem op_notInD (hu : X.A.units + 64 < cLine) : OpR X (compareOp .NotIn) (rD opNotIn) ∧ MonoO opNotIn := by
  refine ⟨fun pins s σ' H x y v u Q I rx ry h => ?_, fun a b K K' m h => ?_⟩
  · obtain ⟨g, δ, σ, F, b, a, R, ra, rb, h⟩ := h
    cases a <;> first | exact h.elim | skip
    · rename_i z
      obtain ⟨c, rfl, q⟩ := h
      have e1 := RpTop.str ra
      have e2 := RpTop.str rb
      subst e1 e2
      exact op_notIn_sign pins s σ' H _ _ v u Q I rx ry ⟨c, z, rfl, rfl, rq_val R (.bl _) q⟩
    · rename_i xs
      obtain ⟨h1, h2, q⟩ := h
      obtain ⟨as, r1⟩ := Dp.reads I b.py x v (ra.dp R.ext.sub h1) rx
      obtain ⟨bs, r2⟩ := Dp.reads I (D.tup xs).py y u (rb.dp R.ext.sub h2) ry
      have c2 := (D.canLay _ 60 h2).1
      simp only [D.py] at r2 c2
      refine SeqAt.notIn_tuple_reads r2 r1 (by simpa only [PyData.canLay0] using c2) (D.canLay _ 60 h1).1 (room60 hu h1) ⟨.bl _, H, I, rfl, ?_⟩
      rw [memD_py]; exact rq_val R (.bl _) q
    · rename_i xs
      obtain ⟨h1, h2, q⟩ := h
      obtain ⟨as, r1⟩ := Dp.reads I b.py x v (ra.dp R.ext.sub h1) rx
      obtain ⟨bs, r2⟩ := Dp.reads I (D.lst xs).py y u (rb.dp R.ext.sub h2) ry
      have c2 := (D.canLay _ 60 h2).1
      simp only [D.py] at r2 c2
      refine SeqAt.notIn_list_reads r2 r1 (by simpa only [PyData.canLay0] using c2) (D.canLay _ 60 h1).1 (room60 hu h1) ⟨.bl _, H, I, rfl, ?_⟩
      rw [memD_py]; exact rq_val R (.bl _) q
    · rename_i t kvs
      obtain ⟨kb, q⟩ := h
      obtain ⟨p, o, rfl, hg, ro⟩ := dget_D R.ext.sub rb ra kb
      obtain rfl : u = Value.ref p := ry
      exact d_notIn (by omega) I hg rx fun s3 I3 => ⟨.bl (!o.isSome), H, I3, rfl, by rw [ro.isSome]; exact rq_val R (.bl _) q⟩
  · cases b <;> first | exact h.elim | exact ⟨h.1, h.2.1, m _ h.2.2⟩ | exact ⟨h.1, m _ h.2⟩ | (obtain ⟨c, e, q⟩ := h; exact ⟨c, e, m _ q⟩)
theorem rl_ownD {g : Gh} {δ : DS} {σ : St} {H F : Hp} {Q : VK} {c : Ct} {o : HO} {p : Addr} (R : Rl g δ σ H F) (r : CtOk g.dk F o c) (hp : H p = none) (q : RQL g σ F Q c δ) : Q (.ref p) (upd H p o) :=
  q p o (upd H p o) F (Same.refl _) (R.lay o hp) upd_same r (R.ext.fnone hp) (R.ext.bnone hp) (R.apart hp)
def dNewD (t : Bool) : DL' := fun δ Q => Q (.d t []) δ
theorem pl_newK : PL X (.Dict [] [] pos) (dNewD false) :=
  ⟨fun δ Q Q' h q => h _ _ q, fun g => PE.mono pe_dnewK fun σ H Q ⟨δ, F, R, q⟩ p hp => rl_ownD R (c := .d false []) (Or.inl ⟨rfl, [], rfl, .nil⟩) hp q⟩
def dDisp1 (n : Int) (d : D) : DL' := fun δ Q => Q (.d false [(.int n, d)]) δ
end
section
variable {X : Cx} {pos : Pos} {e : Expr} {te : DE} {i : Nat} {x : Str} {p : Pos}
def ownD (δ : DS) (i : Nat) (K : Bool → List (D × D) → Prop) : Prop := ∃ t kvs, δ[i]? = some (some (.own (.d t kvs))) ∧ K t kvs
def dDPut (i : Nat) (tk te : DE) : DSm := fun E δ => te δ fun d δ1 => getS δ1 i fun _ => tk δ1 fun k δ2 => ownD δ2 i fun t kvs => D.key t k = true ∧ kvs.length < 1000000 ∧ E.nx (δ2.set i (some (.own (.d t (putD kvs k d)))))
end
section
variable {X : Cx}
def opListD : DUL := fun d K => ∃ kvs, d = .dct false kvs ∧ K (.l (kvs.map (·.1)))
def opDictC : DUL := fun d K => ∃ kvs, d = .dct false kvs ∧ K (.d false kvs)
end
abbrev DRs := DS → (List Sl → DS → Prop) → Prop
def dR0 : DRs := fun δ Q => Q [] δ
def dRc (r : Rh) (t : DRs) : DRs := fun δ Q => r.ev δ fun s δ1 => t δ1 fun ss δ2 => Q (s :: ss) δ2
inductive SlsOk (g : Gh) (δ : DS) (σ : St) (H F : Hp) : List V → List Sl → Prop where
  | nil : SlsOk g δ σ H F [] []
  | cons {v s vs ss} : SlOk g δ σ H F v s → SlsOk g δ σ H F vs ss → (∀ c, s = .own c → ∀ (i : Nat) (c' : Ct), ss[i]? = some (.own c') → vs[i]? ≠ some v) → SlsOk g δ σ H F (v :: vs) (s :: ss)
def LRs (g : Gh) (t : DRs) : TA := fun σ H Q => ∃ δ F, Rl g δ σ H F ∧ t δ fun ss δ' => ∀ vs H' F', Same F F' → Rl g δ' σ H' F' → SlsOk g δ' σ H' F' vs ss → Q vs H'
structure PRs (X : Cx) (es : List Expr) (t : DRs) : Prop where
  mono : MonoE t
  len : ∀ δ Q, t δ Q → t δ fun ss δ' => ss.length = es.length ∧ Q ss δ'
  run : ∀ g, PA X es (LRs g t)
theorem SlsOk.length {g : Gh} {δ : DS} {σ : St} {H F : Hp} {vs : List V} {ss : List Sl} (h : SlsOk g δ σ H F vs ss) : vs.length = ss.length := by
  induction h with
  | nil => rfl
  | cons _ _ _ ih => rw [List.length_cons, List.length_cons, ih]
theorem SlOk.unguard {g : Gh} {δ : DS} {σ : St} {H F : Hp} {p : Addr} {o : HO} {v : V} {s : Sl} (h : SlOk (g.guard p o) δ σ H F v s) : SlOk g δ σ H F v s ∧ ∀ c, s = .own c → v ≠ .ref p := by
  cases s with
  | val d => exact ⟨h, fun c e => (nomatch e)⟩
  | own c =>
    obtain ⟨q, u, rfl, hq, r, f, b, ap⟩ := h
    have b' : upd g.B p o q = none := b
    have hne : q ≠ p := fun e => by subst e; rw [upd_same] at b'; cases b'
    rw [upd_ne hne] at b'
    exact ⟨⟨q, u, rfl, hq, r, f, b', ap⟩, fun c' _ e => by cases e; exact hne rfl⟩
theorem SlsOk.unguard {g : Gh} {δ : DS} {σ : St} {H F : Hp} {p : Addr} {o : HO} {vs : List V} {ss : List Sl} (h : SlsOk (g.guard p o) δ σ H F vs ss) :
    SlsOk g δ σ H F vs ss ∧ ∀ (i : Nat) (c' : Ct), ss[i]? = some (.own c') → vs[i]? ≠ some (.ref p) := by
  induction h with
  | nil => exact ⟨.nil, fun i c' e => by simp at e⟩
  | @cons v s vs ss h1 h2 h3 ih =>
    obtain ⟨a, b⟩ := h1.unguard
    refine ⟨.cons a ih.1 h3, fun i c' e => ?_⟩
    cases i with
    | zero =>
      simp only [List.getElem?_cons_zero, Option.some.injEq] at e ⊢
      intro z
      exact b c' e (Option.some.inj z)
    | succ i =>
      simp only [List.getElem?_cons_succ] at e ⊢
      exact ih.2 i c' e
section
variable {X : Cx} {pos : Pos}
def setSls : List Nat → List Sl → DS → DS
  | i :: is, s :: ss, δ => setSls is ss (δ.set i (some s))
  | _, _, δ => δ
def setVs : List Nat → List V → St → St
  | i :: is, v :: vs, σ => setVs is vs (σ.set i (some v))
  | _, _, σ => σ
theorem SlsOk.set {g : Gh} {δ : DS} {σ : St} {H F : Hp} {vs : List V} {ss : List Sl} {i : Nat} {v : V} {s : Sl} (R : Rl g δ σ H F) (h : SlsOk g δ σ H F vs ss) (hn : ∀ c, s = .own c → ∀ (i : Nat) (c' : Ct), ss[i]? = some (.own c') → vs[i]? ≠ some v) :
    SlsOk g (δ.set i (some s)) (σ.set i (some v)) H F vs ss := by
  induction h with
  | nil => exact .nil
  | @cons w s' vs ss h1 h2 h3 ih =>
    refine .cons ?_ (ih fun c e j c' e' => by simpa using hn c e (j + 1) c' (by simpa using e')) h3
    cases s' with
    | val d => exact h1
    | own c' =>
      obtain ⟨p, o, rfl, hp, r, hf, hb, ap⟩ := h1
      refine ⟨p, o, rfl, hp, r, hf, hb, apart_set ap (fun c e z => ?_) R.len⟩
      exact hn c e 0 c' rfl (by rw [z]; rfl)
theorem Rl.setSls {g : Gh} {H F : Hp} : ∀ {is : List Nat} {vs : List V} {ss : List Sl} {δ : DS} {σ : St}, Rl g δ σ H F → SlsOk g δ σ H F vs ss → Rl g (setSls is ss δ) (setVs is vs σ) H F
  | [], _, _, _, _, R, .nil => R
  | [], _, _, _, _, R, .cons _ _ _ => R
  | _ :: _, _, _, _, _, R, .nil => R
  | i :: is, _, _, _, _, R, .cons h1 h2 h3 => Rl.setSls (is := is) (R.setSl h1) (h2.set R h3)
def dParL (is : List Nat) (t : DRs) : DSm := fun E δ => t δ fun ss δ' => E.nx (setSls is ss δ')
inductive PNs (X : Cx) : List Expr → List Nat → Prop where
  | nil : PNs X [] []
  | cons {i : Nat} {x : Str} {p : Pos} {es : List Expr} {is : List Nat} : X.N[i]? = some x → Loc X.env.scope x → (X.fn x = true ∨ X.env.scope.names.lookup x = some .local) → PNs X es is →
      (assignEach (.Name x p :: es) X.env).map (·.2) = assign (.Name x p) X.env :: (assignEach es X.env).map (·.2) → PNs X (.Name x p :: es) (i :: is)
theorem SlsOk.lay {g : Gh} {δ : DS} {σ : St} {H F : Hp} {vs : List V} {ss : List Sl} {p : Addr} {o : HO} (h : SlsOk g δ σ H F vs ss) (hp : H p = none) : SlsOk g δ σ (upd H p o) F vs ss := by
  induction h with
  | nil => exact .nil
  | @cons w s' vs ss h1 h2 h3 ih =>
    refine .cons ?_ ih h3
    cases s' with
    | val d => exact h1
    | own c' =>
      obtain ⟨q, u, rfl, hq, r⟩ := h1
      exact ⟨q, u, rfl, by rw [upd_ne (ne_of_none hq hp)]; exact hq, r⟩
end
theorem ev_ownDz (t : Bool) (kvs : List (D × D)) (r : DS) (K) : ownD (some (.own (.d t kvs)) :: r) 0 K = K t kvs := by
  unfold ownD; apply propext
  constructor
  · rintro ⟨t', k', e, h⟩; simp at e; obtain ⟨rfl, rfl⟩ := e; exact h
  · exact fun h => ⟨t, kvs, rfl, h⟩
theorem ev_ownDs (s : Option Sl) (r : DS) (n : Nat) (K) : ownD (s :: r) (n + 1) K = ownD r n K := by unfold ownD; simp
theorem ev_DPut (i : Nat) (tk te : DE) (E : DEnds) (δ : DS) : dDPut i tk te E δ = te δ fun d δ1 => getS δ1 i fun _ => tk δ1 fun k δ2 => ownD δ2 i fun t kvs => D.key t k = true ∧ kvs.length < 1000000 ∧ E.nx (δ2.set i (some (.own (.d t (putD kvs k d))))) := rfl
theorem ev_newD (t : Bool) (δ : DS) (Q) : dNewD t δ Q = Q (.d t []) δ := rfl
theorem ev_disp1 (n : Int) (d : D) (δ : DS) (Q) : dDisp1 n d δ Q = Q (.d false [(.int n, d)]) δ := rfl
theorem ev_ParL (is : List Nat) (t : DRs) (E : DEnds) (δ : DS) : dParL is t E δ = t δ fun ss δ' => E.nx (setSls is ss δ') := rfl
theorem ev_R0 (δ : DS) (Q) : dR0 δ Q = Q [] δ := rfl
theorem ev_Rc (r : Rh) (t : DRs) (δ : DS) (Q) : dRc r t δ Q = r.ev δ fun s δ1 => t δ1 fun ss δ2 => Q (s :: ss) δ2 := rfl
theorem ev_sls0 (δ : DS) : setSls [] [] δ = δ := rfl
theorem ev_slsc (i : Nat) (is : List Nat) (s : Sl) (ss : List Sl) (δ : DS) : setSls (i :: is) (s :: ss) δ = setSls is ss (δ.set i (some s)) := rfl
theorem ev_inl (b : D) (xs : List D) (K) : opIn b (.lst xs) K = (b.ok 60 = true ∧ (D.lst xs).ok 60 = true ∧ K (.bl (memD b xs))) := rfl
theorem ev_int (b : D) (xs : List D) (K) : opIn b (.tup xs) K = (b.ok 60 = true ∧ (D.tup xs).ok 60 = true ∧ K (.bl (memD b xs))) := rfl
theorem ev_ind (b : D) (t : Bool) (kvs : List (D × D)) (K) : opIn b (.dct t kvs) K = (D.key t b = true ∧ K (.bl (lkD kvs b).isSome)) := rfl
theorem ev_ninl (b : D) (xs : List D) (K) : opNotIn b (.lst xs) K = (b.ok 60 = true ∧ (D.lst xs).ok 60 = true ∧ K (.bl (!memD b xs))) := rfl
theorem ev_nint (b : D) (xs : List D) (K) : opNotIn b (.tup xs) K = (b.ok 60 = true ∧ (D.tup xs).ok 60 = true ∧ K (.bl (!memD b xs))) := rfl
theorem ev_nind (b : D) (t : Bool) (kvs : List (D × D)) (K) : opNotIn b (.dct t kvs) K = (D.key t b = true ∧ K (.bl (!(lkD kvs b).isSome))) := rfl
theorem ev_getD (b : D) (t : Bool) (kvs : List (D × D)) (K) : opGetD (.dct t kvs) b K = (D.key t b = true ∧ ∃ d, lkD kvs b = some d ∧ K d) := by
  unfold opGetD; apply propext
  constructor
  · rintro ⟨t', k', d, e, h⟩; cases e; exact ⟨h.1, d, h.2⟩
  · exact fun ⟨h, d, q⟩ => ⟨t, kvs, d, rfl, h, q⟩
theorem ev_listD (kvs : List (D × D)) (K) : opListD (.dct false kvs) K = K (.l (kvs.map (·.1))) := by
  unfold opListD; apply propext
  constructor
  · rintro ⟨k', e, h⟩; cases e; exact h
  · exact fun h => ⟨kvs, rfl, h⟩
theorem ev_dictC (kvs : List (D × D)) (K) : opDictC (.dct false kvs) K = K (.d false kvs) := by
  unfold opDictC; apply propext
  constructor
  · rintro ⟨k', e, h⟩; cases e; exact h
  · exact fun h => ⟨kvs, rfl, h⟩
theorem ev_keyi (i : Int) : D.key false (.int i) = true := rfl
theorem ev_keys (i : Str) : D.key false (.str i) = true := rfl
section
variable {P : Program} {w : World} {K : PySem.W.Frag} {mg : Str → Option Value} {base : Heap}
end
def dIfT (c a b : DT) : DT := fun δ Q => c δ fun k δ1 => if k = true then a δ1 Q else b δ1 Q
section
variable {X : Cx} {pos : Pos} {c a b : Expr}
theorem ev_IfT (c a b : DT) (δ : DS) (Q) : dIfT c a b δ Q = c δ fun k δ1 => ifK k (a δ1 Q) (b δ1 Q) := rfl
end
def dIndex (i : Nat) (te : DE) : DE := fun δ Q => getS δ i fun s => (∃ ns : List Int, s.top = .lst (ns.map D.int)) ∧ te δ fun d δ' => asInt d fun k => getS δ' i fun s' => ∃ (j : Nat) (ns : List Int), s'.top = .lst (ns.map D.int) ∧ ns[j]? = some k ∧ (∀ m : Nat, m < j → ns[m]? ≠ some k) ∧ Q (.int (j : Nat)) δ'
section
variable {X : Cx} {e : Expr} {te : DE} {i : Nat} {x : Str} {p apos cpos : Pos}
end
theorem ev_Index (i : Nat) (te : DE) (δ : DS) (Q) : dIndex i te δ Q = getS δ i fun s => (∃ ns : List Int, s.top = .lst (ns.map D.int)) ∧ te δ fun d δ' => asInt d fun k => getS δ' i fun s' => ∃ (j : Nat) (ns : List Int), s'.top = .lst (ns.map D.int) ∧ ns[j]? = some k ∧ (∀ m : Nat, m < j → ns[m]? ≠ some k) ∧ Q (.int (j : Nat)) δ' := rfl
end DL
open PySem PySem.Spec PyProof.Rows L2
namespace DL
section
variable {prog : Program} {w : World} {A : Around} {E : Value → Shared → Prop} {s : Shared}
end
section
variable {X : Cx}
def dRevT (t : DE) : DE := fun δ Q => t δ fun d δ' => ∃ xs, d = .tup xs ∧ Q (.tup xs.reverse) δ'
def asTup (d : D) (K : List D → Prop) : Prop := ∃ k, d = .tup k ∧ K k
theorem asTup_e (k : List D) (K : List D → Prop) : asTup (.tup k) K = K k := by unfold asTup; simp
theorem ev_RevT (t : DE) (δ : DS) (Q) : dRevT t δ Q = t δ fun d δ' => asTup d fun xs => Q (.tup xs.reverse) δ' := rfl
end
def dRemove (i : Nat) (te : DE) : DE := fun δ Q => ownL δ i fun _ => te δ fun d δ' => asInt d fun k => ownL δ' i fun ds => ∃ (j : Nat) (ns : List Int), ds = ns.map D.int ∧ ns[j]? = some k ∧ (∀ m : Nat, m < j → ns[m]? ≠ some k) ∧ Q .non (δ'.set i (some (.own (.l ((ns.eraseIdx j).map D.int)))))
section
variable {X : Cx} {e : Expr} {te : DE} {i : Nat} {x : Str} {p apos cpos : Pos}
end
theorem ev_Remove (i : Nat) (te : DE) (δ : DS) (Q) : dRemove i te δ Q = ownL δ i fun _ => te δ fun d δ' => asInt d fun k => ownL δ' i fun ds => ∃ (j : Nat) (ns : List Int), ds = ns.map D.int ∧ ns[j]? = some k ∧ (∀ m : Nat, m < j → ns[m]? ≠ some k) ∧ Q .non (δ'.set i (some (.own (.l ((ns.eraseIdx j).map D.int))))) := rfl
def opIsB : DOp
  | .bl a, .bl b, K => K (.bl (decide (a = b)))
  | _, _, _ => False
def opNotB : DOp
  | .bl a, .bl b, K => K (.bl (!decide (a = b)))
  | _, _, _ => False
section
variable {X : Cx}
theorem ev_isB (a b : Bool) (K) : opIsB (.bl a) (.bl b) K = K (.bl (decide (a = b))) := rfl
theorem ev_notB (a b : Bool) (K) : opNotB (.bl a) (.bl b) K = K (.bl (!decide (a = b))) := rfl
end
end DL
open PySem PySem.Spec PyProof.Rows L2
namespace DL
def dCount (i : Nat) (te : DE) : DE := fun δ Q => getS δ i fun s => (∃ ns : List Int, s.top = .lst (ns.map D.int)) ∧ te δ fun d δ' => asInt d fun k => getS δ' i fun s' => ∃ ns : List Int, s'.top = .lst (ns.map D.int) ∧ Q (.int (ns.count k : Nat)) δ'
section
variable {X : Cx} {e : Expr} {te : DE} {i : Nat} {x : Str} {p apos cpos : Pos}
end
theorem ev_Count (i : Nat) (te : DE) (δ : DS) (Q) : dCount i te δ Q = getS δ i fun s => (∃ ns : List Int, s.top = .lst (ns.map D.int)) ∧ te δ fun d δ' => asInt d fun k => getS δ' i fun s' => ∃ ns : List Int, s'.top = .lst (ns.map D.int) ∧ Q (.int (ns.count k : Nat)) δ' := rfl
end DL
open PySem PySem.Spec PyProof.Rows L2
namespace DL
section
open PySem.W PySem.Calls PySem.HandSPX
def eArgs (fl : Str) (p1 p2 : Pos) : Arguments := ⟨[], [⟨"self", none, p1⟩, ⟨fl, none, p2⟩], none, [], [], none, []⟩
def eBody (fl : Str) (p0 p1 p2 p3 p4 p5 q1 q2 q3 q4 : Pos) : List Stmt :=
  [.Expr (.Call (.Attribute (.Call (.Name "super" p0) [] [] p1) "__init__" p2) [.Name fl p3] [] p4) p5, .Assign [.Attribute (.Name "self" q1) fl q2] (.Name fl q3) q4]
def eScope (fl : Str) : Scope := ⟨.function, [(PySem.Str.ofString "self", .local), (fl, .local), (PySem.Str.ofString "__class__", .free), (PySem.Str.ofString "super", .globalImplicit)], false, false, []⟩
structure ErrTxt (prog : Program) (K : Frag) (mg : Str → Option Value) (nm fl : Str) (C fI : Addr) : Prop where
  gC : mg nm = some (.ref C)
  gS : mg "super" = none
  cls : ∃ nm q N bs bm sn sub ab col dd k0 k1 k2 k3 k5, K.lookup C = some (excClassObj nm q C N bs bm true sn sub ab col dd k0 k1 k2 k3 k5 "ValueError.__new__") ∧ refsVE bm = true
  sa : findIn K (.ref C) "__setattr__" = some (some (.builtin "object.__setattr__"))
  ga : findIn K (.ref C) "__getattribute__" = some (some (.builtin "BaseException.__getattribute__"))
  gg : findIn K (.ref C) "__getattr__" = some none
  noN : findIn K (.ref C) fl = some none
  iC : findIn K (.ref C) "__init__" = some (some (.ref fI))
  tC : typeIn K (.ref fI) = some (.type "function")
  kC : keepIn K (.ref C) = true
  exC : subIn K (.ref C) (.type "BaseException") = some true
  veC : subIn K (.ref C) (.type "ValueError") = some true
  tyC : typeIn K (.ref C) = some (.type "type")
  hdC : hasDictIn K C = true
  su : ks_superIn K C C "__init__" = some (some (.builtin "ValueError.__init__"))
  any : nsIn K cStatics "thirdparty.any" = some none
  mC : mroIn K C (.ref C) = some true
  fn : ∃ (oc : Value) (od : Option Addr) (doc pm kV : Value) (an : Option Addr) (cda cc : Addr) (ct : Value) (osl : Array (Option Value)) (p1 p2 a0 a1 a2 a3 a4 a5 q1 q2 q3 q4 : Pos),
    K.lookup fI = some ⟨oc, od, .func (ksFn "__init__" (nm ++ ".__init__") (eArgs fl p1 p2) (eBody fl a0 a1 a2 a3 a4 a5 q1 q2 q3 q4) (eScope fl) .none kV doc pm an (.ref cda) ct cc), osl⟩ ∧ codeIn K (.ref cda) (nm ++ ".__init__") = true ∧ (a2.endLine == a4.line) = true ∧
    (∃ cl cld csl, K.lookup cc = some ⟨cl, cld, .cell (some (.ref C)), csl⟩) ∧
    (∃ ccl cdd vs ccs file tf, K.lookup cda = some ⟨ccl, cdd, .fields vs, ccs⟩ ∧ vs[2]? = some (.str file tf) ∧ ((prog.main.file : Str) == file) = true)
  nsf : (fl == ("self" : Str)) = false
  ndb : (fl == ("__debug__" : Str)) = false
  ncl : (fl == ("__class__" : Str)) = false
  nsp : (fl == ("super" : Str)) = false
  top : (prog.main.scope.names.lookup ("super" : Str)).isSome = false
  bnd : ∀ (p1 p2 : Pos) (body : List Stmt) (q : Str) (kV doc pm : Value) (an : Option Addr) (cda cc : Addr) (ct x v : Value), bindArgs (ksFn "__init__" q (eArgs fl p1 p2) body (eScope fl) .none kV doc pm an (.ref cda) ct cc) ⟨[x, v], []⟩ = pure ([(("self" : Str), x), (fl, v)] : List (Str × Value))
theorem mw_call {prog : Program} {w : World} {A : Around} {E : Value → Shared → Prop} {h : Heap} {g : Array GenState} {d : Drawn} {t : Nat} {os : OsState} {u x C t0 N : Addr} {v : Value} {Q : Value → Shared → Prop} {nm q : Str} {bs bm : List Value} {hdct : Bool} {sn : List Str} {sub : List Value} {ab : Bool} {col : Option Bool} {dd : Option Addr} {k0 k1 k2 k3 k5 : Option Value}
    (hC : h.get? C = some (excClassObj nm q C N bs bm hdct sn sub ab col dd k0 k1 k2 k3 k5 "ValueError.__new__")) (hu : h.get? u = some (kxs_mw "ValueError.__init__" x)) (hx : h.get? x = some (excO C t0))
    (hq : ∀ h' t1, (∀ b o, b ≠ x → h.get? b = some o → h'.get? b = some o) → h'.get? x = some (excO C t1) → Q .none ⟨h', g, d, t, os⟩) : wpAny (model prog w) A (call (.ref u) [v]) Q E ⟨h, g, d, t, os⟩ := by
  refine wpAny_call (codeAny_of_tree (show wpAny _ A.in1 (callAny (.ref u) ⟨[v], []⟩) _ _ _ from ?_))
  unfold callAny
  refine wpAny_bind (wpAny_load hu ?_)
  have two : (Value.type "method-wrapper" == Value.type "method" || Value.type "method-wrapper" == Value.type "builtin_function_or_method" || Value.type "method-wrapper" == Value.type "method-wrapper") = true := by decide
  simp only [kxs_mw, two, if_true]
  refine KFB.if_so (by decide) (wpAny_bind (check_bound_init F.excBase_ValueError.toExcCallFacts hC hx rfl (wpAny_bind (wpAny_pure (wpAny_pure ⟨plainId_quiet F.excBase_ValueError.init.plain _, codeAny_builtin F.excBase_ValueError.initEntry ?_⟩)))))
  exact exc_init_tree (cls := .ref C) (t0 := t0) (dv := none) (c2 := .none) (c3 := .none) (b4 := .bool false) hx (by rw [sizeLine_eq]; exact (by decide : 1 ≤ 16777216)) fun h' k e _ => hq h' _ k e
structure InitLeft (fl : Str) (h h' : Heap) (x C dx t1 : Addr) (v : Value) : Prop where
  keep : ∀ b o, b ≠ x → h.get? b = some o → h'.get? b = some o
  obj : h'.get? x = some { cls := .ref C, dict := some dx, data := .fields #[.ref t1, .none, .none, .none, .bool false, .none] }
  big : h.objs.size ≤ dx
  ne : dx ≠ x
  ns : h'.Ns1 dx (fun y => if y = fl then some v else none)
theorem lk_self (fl : Str) : (eScope fl).names.lookup ("self" : Str) = some .local := rfl
theorem lk_fl {fl : Str} (h : (fl == ("self" : Str)) = false) : (eScope fl).names.lookup fl = some .local := by
  show List.lookup fl [(PySem.Str.ofString "self", NameKind.local), (fl, .local), (PySem.Str.ofString "__class__", .free), (PySem.Str.ofString "super", .globalImplicit)] = _
  simp [List.lookup, h]
theorem lk_super {fl : Str} (h : (fl == ("super" : Str)) = false) : (eScope fl).names.lookup ("super" : Str) = some .globalImplicit := by
  have h' : (("super" : Str) == fl) = false := by
    rw [BEq.comm]; exact h
  show List.lookup ("super" : Str) [(PySem.Str.ofString "self", NameKind.local), (fl, .local), (PySem.Str.ofString "__class__", .free), (PySem.Str.ofString "super", .globalImplicit)] = _
  have a : (("super" : Str) == PySem.Str.ofString "self") = false := by decide
  have b : (("super" : Str) == PySem.Str.ofString "__class__") = false := by decide
  have c : (("super" : Str) == PySem.Str.ofString "super") = true := by decide
  simp only [List.lookup, a, b, c, h']
theorem lk_class {fl : Str} (h : (fl == ("__class__" : Str)) = false) : (eScope fl).names.lookup ("__class__" : Str) = some .free := by
  have h' : (("__class__" : Str) == fl) = false := by
    rw [BEq.comm]; exact h
  show List.lookup ("__class__" : Str) [(PySem.Str.ofString "self", NameKind.local), (fl, .local), (PySem.Str.ofString "__class__", .free), (PySem.Str.ofString "super", .globalImplicit)] = _
  have a : (("__class__" : Str) == PySem.Str.ofString "self") = false := by decide
  have b : (("__class__" : Str) == PySem.Str.ofString "__class__") = true := by decide
  simp only [List.lookup, a, b, h']
theorem sup_meth {prog : Program} {w : World} {A : Around} {c : Code} {E : Value → Shared → Prop} {s : Shared} {env : Env} {o : Expr} {name : Str} {apos pos : Pos} {args : List Expr} {Q : Value → Shared → Prop} (hline : (apos.endLine == pos.line) = true)
    (hfew : methodCallForm (args.length + ([] : List Keyword).length) (backTo pos (starEach args env)) (backToKw pos (keywordEach [] env)) = true)
    (h : PySem.wpAt (model prog w) A c (attributeBase o name env (eval o env)) (fun ov s₁ => ∀ pl, wpAny (model prog w) A (getMethod ov name pl) (fun fx s₂ => wpAny (model prog w) A (callWith pos fx.1 fx.2 (backTo pos (starEach args env)) []) Q E s₂) E s₁) E s) :
    PySem.wpAt (model prog w) A c (eval (.Call (.Attribute o name apos) args [] pos) env) Q E s := by
  have hpos : methodCallPos true o env apos pos = pure pos := by unfold methodCallPos; simp [hline]
  rw [arm_eval_Call]
  refine PySem.wpAt_bind (ks_wpAt_mono h (fun ov s₁ h₁ => PySem.wpAt_of_wpAny ?_) fun _ _ x => x)
  refine wpAny_bind (wpAny_standAt ?_)
  unfold methodCall
  rw [hfew]
  refine wpAny_bind (wpAny_holding (wpAny_mono (h₁ _) (fun fx s₂ h₂ => ?_) fun _ _ x => x))
  exact wpAny_bind (wpAny_of_eq hpos h₂)
theorem sup_init {prog : Program} {w : World} {A : Around} {R : Result → Shared → Prop} {s : Shared} {K : Frag} {mg : Str → Option Value} {nm fl : Str} {C fI : Addr} (T : ErrTxt prog K mg nm fl C fI) {x t0 : Addr} {v : Value}
    (X : K.In s.heap) (hlim : s.heap.NoLimit) (hx : s.heap.get? x = some (excO C t0)) (hnx : K.lookup x = none) (hroom : A.depth < recursionLimit) (hgl : s.heap.Ns mainGlobals mg) (hbl : ∃ mb, s.heap.Ns builtinsNs mb ∧ ∀ y : Str, y ≠ "__name__" → mb y = bootBuiltins y)
    (hq : ∀ h' tk t1 dx, InitLeft fl s.heap h' x C dx t1 v → R (.ok (.ret .none)) { s with heap := h', toks := tk }) :
    codeAny (model prog w) A (.call (.ref fI) ⟨[.ref x, v], []⟩) R s := by
  obtain ⟨oc, od, doc, pm, kV, an, cda, cc, ct, osl, p1, p2, a0, a1, a2, a3, a4, a5, q1, q2, q3, q4, ho, hcd, hline, ⟨cl, cld, csl, hcell⟩, ccl, cdd, vs, ccs, file, tf, hcode, hvs, hfile⟩ := T.fn
  obtain ⟨nm', q, N, bs, bm, sn, sub, ab, col, dd, k0, k1, k2, k3, k5, hC, hbm⟩ := T.cls
  have hcl : clsIn K C = some { name := nm', bases := bs, mro := .ref C :: bm, ns := N, qualname := q, hasDict := true, slotNames := sn, subclasses := sub, abstract := ab, collection := col, hasDel := false } := by unfold clsIn; rw [hC] <;> rfl
  have hCh := X _ _ hC
  have lS := lk_self fl
  have lF := lk_fl T.nsf
  have lU := lk_super T.nsp
  have lC := lk_class T.ncl
  have hxC : x ≠ C := fun e => by rw [e, hC] at hnx; cases hnx
  obtain ⟨hp, g, d, tk0, os⟩ := s
  refine ks_codeAny_call_defAt (binds := [(("self" : Str), .ref x), (fl, v)]) hroom (X _ _ ho) rfl hlim (codeRec_of X hcd) rfl (BindsTo.of_eq (T.bnd _ _ _ _ _ _ _ _ _ _ _ _ _)) (fun y hy => ?_) (fun y hy => ?_) (fun h₁ hn k => ?_) rfl rfl rfl
  · have hy : y ∈ [(PySem.Str.ofString "self", NameKind.local), (fl, .local), (PySem.Str.ofString "__class__", .free), (PySem.Str.ofString "super", .globalImplicit)] := hy
    simp only [List.mem_cons, List.mem_nil_iff, or_false] at hy
    rcases hy with rfl | rfl | rfl | rfl <;> exact (nomatch ·)
  · simp only [List.mem_cons, List.mem_nil_iff, or_false] at hy
    rcases hy with rfl | rfl
    · exact lS
    · exact lF
  have X₁ : K.In h₁ := X.keeps k
  have hx₁ := k _ _ hx
  have hL : hp.objs.size ≠ x := Nat.ne_of_gt (Heap.lt_size hx)
  have ls : (fun y => List.lookup y (List.reverse [(("self" : Str), Value.ref x), (fl, v)])) "self" = some (Value.ref x) := by
    have e : (("self" : Str) == fl) = false := by rw [BEq.comm]; exact T.nsf
    show List.lookup ("self" : Str) [(fl, v), (("self" : Str), Value.ref x)] = _
    simp [List.lookup, e]
  have lf : (fun y => List.lookup y (List.reverse [(("self" : Str), Value.ref x), (fl, v)])) fl = some v := by
    show List.lookup fl [(fl, v), (("self" : Str), Value.ref x)] = _
    simp [List.lookup]
  obtain ⟨mb, hmb, hboot⟩ := hbl
  generalize heL : hp.objs.size = L at *
  generalize henv : ksEnv (nm ++ ".__init__") (eScope fl) L fI (.ref cda) cc = env
  have hkind : env.scope.kind = .function := by rw [← henv]; rfl
  show PySem.wpAt _ _ (.func _ (ksEnv (nm ++ ".__init__") (eScope fl) L fI (.ref cda) cc)) (execs (eBody fl a0 a1 a2 a3 a4 a5 q1 q2 q3 q4) (ksEnv (nm ++ ".__init__") (eScope fl) L fI (.ref cda) cc)) _ _ _
  subst henv
  unfold eBody
  refine ks_wpAt_execs_cons (ks_wpAt_Expr_any (sup_meth hline rfl ?_))
  refine ks_wpAt_super_base (env := ksEnv (nm ++ ".__init__") (eScope fl) L fI (.ref cda) cc) lU lC (by decide) rfl (X₁ _ _ ho) rfl rfl rfl (X₁ _ _ hcode) rfl hvs hfile T.top ?_
  refine ks_loadName_global hkind lU (loadGlobal_builtin (env := ksEnv (nm ++ ".__init__") (eScope fl) L fI (.ref cda) cc) (hgl.keeps k) T.gS (hmb.keeps k) ((hboot _ (by decide)).trans (by first | rfl | kernel_rfl)) ⟨rfl, ?_⟩)
  refine wpAny_loadName_free hkind lC rfl ⟨_, X₁ _ _ hcell, rfl⟩ ?_
  refine wpAny_loadName_local hkind lS hn ls ?_
  refine ks_wpAny_isType_cls (X₁ _ _ hC) rfl ⟨rfl, ?_⟩
  refine ks_wpAny_call_super (X₁ _ _ hC) rfl hx₁ rfl (fun c e => nomatch e) (looks_mroIn X₁ T.mC) (fun h₂ hso k₂ => ?_)
  intro pl
  have X₂ : K.In h₂ := X₁.keeps k₂
  have hx₂ := k₂ _ _ hx₁
  have I₂ : InstAt h₂ x (excO C t0) C none := ⟨hx₂, rfl, rfl, trivial⟩
  have hsu := T.su
  unfold ks_superIn at hsu
  rw [hcl] at hsu
  refine kxs_getMethod kxs_ValueError hso (looks_opaque X₂ T.any) (l₀ := .ref C :: bm) (fun A Q E s k q => wpAny_bind ((looks_clsIn X₂ hcl) A _ E s k (wpAny_pure q))) rfl X₂ hsu (I₂.type.andThen (looks_subIn X₂ T.veC)) hxC (by decide) ?_
  have k₃ : ∀ b o, h₂.get? b = some o → (h₂.push (kxs_mw "ValueError.__init__" x)).get? b = some o := fun b o e => Heap.get?_push_of_some _ e
  have hu : (h₂.push (kxs_mw "ValueError.__init__" x)).get? h₂.objs.size = some (kxs_mw "ValueError.__init__" x) := Heap.get?_push_size _ rfl
  have hn₃ := (hn.keeps k₂).keeps k₃
  have he1 : starEach [.Name fl a3] (ksEnv (nm ++ ".__init__") (eScope fl) L fI (.ref cda) cc) = (false, eval (.Name fl a3) (ksEnv (nm ++ ".__init__") (eScope fl) L fI (.ref cda) cc)) :: starEach [] (ksEnv (nm ++ ".__init__") (eScope fl) L fI (.ref cda) cc) := rfl
  have ldF : ∀ {Q : Value → Shared → Prop} {E : Value → Shared → Prop} {A : Around} {s : Shared} {pos : Pos} {mm : Str → Option Value}, s.heap.Ns L mm → mm fl = some v → Q v s → wpAny (model prog w) A (eval (.Name fl pos) (ksEnv (nm ++ ".__init__") (eScope fl) L fI (.ref cda) cc)) Q E s :=
    fun {Q E A s pos mm} a b c => wpAny_Name (wpAny_loadName_local hkind lF a b c) T.ndb
  have ldS : ∀ {Q : Value → Shared → Prop} {E : Value → Shared → Prop} {A : Around} {s : Shared} {pos : Pos} {mm : Str → Option Value}, s.heap.Ns L mm → mm "self" = some (.ref x) → Q (.ref x) s → wpAny (model prog w) A (eval (.Name "self" pos) (ksEnv (nm ++ ".__init__") (eScope fl) L fI (.ref cda) cc)) Q E s :=
    fun {Q E A s pos mm} a b c => wpAny_Name (wpAny_loadName_local hkind lS a b c) (by decide)
  show wpAny _ _ (callWith a4 (.ref h₂.objs.size) [] (backTo a4 (starEach [.Name fl a3] (ksEnv (nm ++ ".__init__") (eScope fl) L fI (.ref cda) cc))) []) _ _ _
  refine kxs_callWith (i := "ValueError.__init__") (x := x) rfl ?_
  rw [he1]
  refine evalArgs_plain (spliced_cons (ldF hn₃ lf (spliced_nil ⟨hu, ?_⟩)))
  refine mw_call (k₃ _ _ (X₂ _ _ hC)) hu (k₃ _ _ hx₂) (fun h₄ t1 k₄ hx₄ => ?_)
  have X₄ : K.In h₄ := fun b o e => k₄ b o (fun z => by rw [z, hnx] at e; cases e) (k₃ _ _ (X₂ _ _ e))
  have hn₄ : h₄.Ns L (fun y => List.lookup y (List.reverse [(("self" : Str), Value.ref x), (fl, v)])) := hn₃.at fun o e => k₄ L o hL e
  show PySem.wpAt _ _ _ (execs _ _) _ _ _
  refine ks_wpAt_execs_cons (ks_wpAt_Assign_Attr (PySem.wpAt_of_wpAny (ldF hn₄ lf (ldS hn₄ ls ?_))))
  refine set_plain X₄ (ox := excO C t1) (od := none) ⟨hx₄, rfl, rfl, trivial⟩ T.sa ?_
  refine exc_osa X₄ hx₄ hcl (show refsVE (.ref C :: bm) = true from hbm) rfl T.noN (fun h₅ tk₅ dx k₅ dn dne hx₅ hn₅ => ?_)
  have sz : hp.objs.size ≤ h₄.objs.size := by
    cases hz : hp.objs.size with
    | zero => exact Nat.zero_le _
    | succ n =>
      have hlt : L < h₄.objs.size := hn₄.lt
      omega
  refine PySem.wpAt_of_wpAny (wpAny_execs_nil (hq h₅ tk₅ t1 dx ⟨fun b o hb e => k₅ b o hb (k₄ b o hb (k₃ _ _ (k₂ _ _ (k _ _ e)))), hx₅, Nat.le_trans sz dn, dne, hn₅⟩))
structure ErrMade (fl : Str) (h h' : Heap) (e C d : Addr) (v : Value) : Prop where
  keep : ∀ b o, h.get? b = some o → h'.get? b = some o
  new : h.objs.size ≤ e
  obj : ∃ oe vs, h'.get? e = some oe ∧ oe.cls = .ref C ∧ oe.dict = some d ∧ oe.data = .fields vs ∧ vs[1]? = some .none
  big : h.objs.size ≤ d
  ne : d ≠ e
  ns : h'.Ns1 d (fun y => if y = fl then some v else none)
theorem sup_made {prog : Program} {w : World} {A : Around} {R : Result → Shared → Prop} {s : Shared} {K : Frag} {mg : Str → Option Value} {nm fl : Str} {C fI : Addr} (T : ErrTxt prog K mg nm fl C fI) {v : Value}
    (X : K.In s.heap) (hlim : s.heap.NoLimit) (hroom : A.depth + 1 < recursionLimit) (hgl : s.heap.Ns mainGlobals mg) (hbl : ∃ mb, s.heap.Ns builtinsNs mb ∧ ∀ y : Str, y ≠ "__name__" → mb y = bootBuiltins y)
    (hq : ∀ h' tk e d, ErrMade fl s.heap h' e C d v → R (.ok (.ret (.ref e))) { s with heap := h', toks := tk }) :
    codeAny (model prog w) A (.call (.ref C) ⟨[v], []⟩) R s := by
  obtain ⟨nm', q, N, bs, bm, sn, sub, ab, col, dd, k0, k1, k2, k3, k5, hC, hbm⟩ := T.cls
  obtain ⟨hp, g, dr, tk, os⟩ := s
  have kk : ∀ b o, hp.get? b = some o → ((hp.push (kdv_tup [v])).push (excO C hp.objs.size)).get? b = some o := fun b o e => Heap.get?_push_of_some _ (Heap.get?_push_of_some _ e)
  have new1 : ((hp.push (kdv_tup [v])).push (excO C hp.objs.size)).get? (hp.objs.size + 1) = some (excO C hp.objs.size) := by heap_get
  have notK : K.lookup (hp.objs.size + 1) = none := by
    cases e : K.lookup (hp.objs.size + 1) with
    | none => rfl
    | some o => exact absurd (Nat.lt_of_succ_lt (Heap.lt_size (show hp.get? (hp.objs.size + 1) = some o from X _ _ e))) (Nat.lt_irrefl _)
  obtain ⟨mb, hmb, hboot⟩ := hbl
  refine call_own F.excBase_ValueError (fun Y => refsVE_contains Y bm hbm) (X _ _ hC) (looks_findIn X T.iC) (fun self => bind_fn X self T.tC) (by rw [sizeLine_eq]; exact (by decide : 1 ≤ 16777216)) ?_
  refine sup_init (s := ⟨(hp.push (kdv_tup [v])).push (excO C hp.objs.size), g, dr, tk, os⟩) T (X.keeps kk) (hlim.keeps kk) new1 notK (show A.depth + 1 < recursionLimit from hroom) (hgl.keeps kk) ⟨mb, hmb.keeps kk, hboot⟩ fun h' tk' t1 dx I => ?_
  have z : hp.objs.size + 1 + 1 ≤ dx := by
    have q := I.big
    simpa only [Heap.size_push] using q
  exact ⟨rfl, hq h' tk' (hp.objs.size + 1) dx ⟨fun b o e => I.keep b o (Nat.ne_of_lt (Nat.lt_succ_of_lt (Heap.lt_size e))) (kk b o e), Nat.le_succ _, ⟨_, _, I.obj, rfl, rfl, rfl, rfl⟩, (show hp.objs.size ≤ dx from by omega), I.ne, I.ns⟩⟩
end
theorem relO_one {fl : Str} {v : V} {v' : Value} (r : RelV v v') (f : Str) : RelO (List.lookup f [(fl, v)]) (if f = fl then some v' else none) := by
  by_cases hw : f = fl
  · subst hw
    rw [if_pos rfl, show List.lookup f [(f, v)] = some v by simp [List.lookup]]
    exact r
  · rw [if_neg hw, show List.lookup f [(fl, v)] = none by
      have qw : (f == fl) = false := by simpa using hw
      simp [List.lookup, qw]]
    trivial
section
variable {X : Cx} {C fI : Addr} {nm fl : Str}
def tMkErr (C : Addr) (fl : Str) (ta : TA) : L2.St → Hp → XK → Prop := fun σ H Q => ta σ H fun vs H1 => ∃ v, vs = [v] ∧ ∀ d, H1 d = none → Q (.ref C) (some d) (upd H1 d (.xd [(fl, v)]))
theorem pmk_err {a : Expr} {ta : TA} {p pos : Pos} {k : Nat} (T : ErrTxt X.prog X.K X.mg nm fl C fI) (hr : Room k X.A) (ha : PA X [a] ta) (hg : Gl X nm) (hnd : (nm == ("__debug__" : Str)) = false)
    (he : starEach (a :: []) X.env = (false, eval a X.env) :: starEach [] X.env := by rfl) (hpl : (backTo pos (starEach [] X.env)).any (·.1) = false := by rfl) :
    PMk X (.Call (.Name nm p) [a] [] pos) (tMkErr C fl ta) := by
  intro pins s σ H Q I h
  refine wpAny_Call_Name_kw (ld_glob I hg T.gC ?_ hnd)
  refine PySem.W.callWith_K (h₀ := X.base) I.ok.mod.kin T.kC (thn (ha.run pos pins s σ H _ I h) fun us s1 hh => ?_) he hpl
  obtain ⟨vs, H1, J1, r1, v, ev, q1⟩ := hh
  subst ev
  refine ⟨J1.kIn, ?_⟩
  obtain ⟨v', rfl, rv⟩ := Vals.one r1
  show wpAny _ _ (call (.ref C) [v']) _ _ _
  have hlim := J1.nolimit
  have hgl := J1.mod.glob.keeps J1.bk
  obtain ⟨mb, b1, b2⟩ := J1.mod.blt
  have hbl : ∃ mb, s1.heap.Ns builtinsNs mb ∧ ∀ y : Str, y ≠ "__name__" → mb y = bootBuiltins y := ⟨mb, b1.keeps J1.bk, b2⟩
  obtain ⟨hp, g, dr, tk, os⟩ := s1
  refine wpAny_call (sup_made T J1.kIn hlim (by have := hr.dp; omega) hgl hbl fun h' tk' e d M => ?_)
  show MkP X pins σ Q (.ref e) ⟨h', g, dr, tk', os⟩
  obtain ⟨oe, fv, hoe, hc, hd, hdat, h1⟩ := M.obj
  obtain ⟨G', g1, g2⟩ := L2.restrict h' fun b => decide (b ≠ e)
  have ge : G'.get? e = none := g2 e (by simp)
  have gk : ∀ b, b ≠ e → G'.get? b = h'.get? b := fun b hb => g1 b (decide_eq_true hb)
  have old : ∀ b o, hp.get? b = some o → G'.get? b = some o := fun b o q => (gk b (Nat.ne_of_lt (Nat.lt_of_lt_of_le (Heap.lt_size q) M.new))).trans (M.keep b o q)
  have ob : ObjOk X.prog X.w (upd H1 d (.xd [(fl, v)])) G' d (.xd [(fl, v)]) := ⟨_, M.ns.at (fun o q => (gk d M.ne).trans q), fun f => relO_one rv f⟩
  have J : Inv X pins σ (upd H1 d (.xd [(fl, v)])) ⟨G', g, dr, tk', os⟩ := J1.laid (t' := tk') old M.big ob
  refine ⟨e, oe, fv, ⟨G', g, dr, tk', os⟩, _, .ref C, some d, rfl, J, fun b o q => ?_, ge, hoe, ⟨hc, hd⟩, hdat, h1, ?_, rfl, J1.bare, raises_own T.exC T.tyC, q1 d (J1.hok.fresh M.big)⟩
  · by_cases hb : b = e
    · have q' : G'.get? b = some o := q
      rw [hb, ge] at q'; cases q'
    · exact (gk b hb).symm.trans q
  · rw [upd_ne (Ne.symm M.ne)]
    exact J1.hok.fresh M.new
end
end DL
open PySem PySem.Spec PyProof.Rows L2
namespace DL
def errTab : List (Str × Str) := [("BadLot", "error"), ("BadText", "place"), ("NoDay", "given"), ("NoParts", "given"), ("NoTurn", "given"), ("NoVersion", "given"), ("NoWatch", "given"), ("Open", "day"), ("Rejected", "index"), ("TooLong", "turn"), ("TooMany", "limit")]
def fieldOf (c : Str) : Str := (errTab.lookup c).getD "none"
def ErrV (mg : Str → Option Value) (k : Dk) (F : Hp) (c : Str) (d : D) (cls : Value) (a : Option Addr) : Prop :=
  mg c = some cls ∧ ∃ dd v, a = some dd ∧ F dd = some (.xd [(fieldOf c, v)]) ∧ Rp k F v d
theorem ErrV.mono {mg : Str → Option Value} {k : Dk} {F F' : Hp} {c : Str} {d : D} {cls : Value} {a : Option Addr} (s : Same F F') (h : ErrV mg k F c d cls a) : ErrV mg k F' c d cls a := by
  obtain ⟨h1, dd, v, e, hf, r⟩ := h
  exact ⟨h1, dd, v, e, s _ _ hf, r.mono s⟩
abbrev GS := Gh → L2.St → Hp → Prop
def Stb (S : GS) : Prop := ∀ g σ F F', Same F F' → S g σ F → S g σ F'
def Ind (S : GS) : Prop := ∀ g σ σ' F, S g σ F → S g σ' F
abbrev EXs := Str → D → DS → Prop
def SX (mg : Str → Option Value) (W : WX) (EX : EXs) : GS := fun g _ F => ∀ c d δ' σ' H' F' cls a, Same F F' → Rl g δ' σ' H' F' → ErrV mg g.dk F' c d cls a → EX c d δ' → W cls a σ' H'
theorem sx_stb {mg : Str → Option Value} {W : WX} {EX : EXs} : Stb (SX mg W EX) := fun g σ F F' s h c d δ' σ' H' F2 cls a s2 R e q => h c d δ' σ' H' F2 cls a (s.trans s2) R e q
theorem sx_ind {mg : Str → Option Value} {W : WX} {EX : EXs} : Ind (SX mg W EX) := fun g σ σ' F h => h
def LES (S : GS) (g : Gh) (t : DE) : TE := fun σ H Q => ∃ δ F, Rl g δ σ H F ∧ S g σ F ∧ t δ (RQ g σ F Q)
def LAS (S : GS) (g : Gh) (t : DA) : TA := fun σ H Q => ∃ δ F, Rl g δ σ H F ∧ S g σ F ∧ t δ (RQA g σ F Q)
def LTS (S : GS) (g : Gh) (t : DT) : TT := fun σ H Q => ∃ δ F, Rl g δ σ H F ∧ S g σ F ∧ t δ (RQT g σ F Q)
def LSS (S : GS) (g : Gh) (t : DSm) : TS := fun D' σ H => ∃ δ F E, Rl g δ σ H F ∧ S g σ F ∧ Lk g F E D' ∧ t E δ
structure PVS (X : Cx) (S : GS) (e : Expr) (t : DE) : Prop where
  mono : MonoE t
  run : ∀ g, PE X e (LES S g t)
structure PAS (X : Cx) (S : GS) (es : List Expr) (t : DA) : Prop where
  mono : MonoE t
  run : ∀ g, PA X es (LAS S g t)
structure PTS (X : Cx) (S : GS) (e : Expr) (t : DT) : Prop where
  mono : MonoE t
  run : ∀ g, PT X e (LTS S g t)
structure PSS (X : Cx) (S : GS) (st : Stmt) (t : DSm) : Prop where
  run : ∀ g, PS X st (LSS S g t)
structure PSSs (X : Cx) (S : GS) (st : List Stmt) (t : DSm) : Prop where
  run : ∀ g, PSs X st (LSS S g t)
section
variable {X : Cx} {S : GS} {pos : Pos} {e : Expr} {te : DE}
theorem pvs_in (h : PV X e te) : PVS X S e te := ⟨h.mono, fun g => PE.mono (h.run g) fun σ H Q ⟨δ, F, R, _, q⟩ => ⟨δ, F, R, q⟩⟩
theorem PS_nox {st : Stmt} {t : TS} (h : PS X.nox st t) : PS X st t := ⟨fun pins s σ H D I hw =>
  wpAny_mono (h.run pins s σ H D (I.wish fun _ _ => False) hw) (fun _ _ q => q.unwish) fun _ _ z => z.elim⟩
theorem sts_of {st : Stmt} {t : DSm} (h : PSd X.nox st t) : PSS X S st t := ⟨fun g => PS.mono (PS_nox (h.run g)) fun D' σ H ⟨δ, F, E, R, _, L, q⟩ => ⟨δ, F, E, R, L, q⟩⟩
theorem pts_of (h : PTd X.nox e td) : PTS X S e td := ⟨h.mono, fun g => PT.mono (h.run g).nox fun σ H Q ⟨δ, F, R, _, q⟩ => ⟨δ, F, R, q⟩⟩
theorem pas_nil : PAS X S [] dA0 := ⟨pad_nil (X := X).mono, fun g => PA.mono (pad_nil.run g) fun σ H Q ⟨δ, F, R, _, q⟩ => ⟨δ, F, R, q⟩⟩
theorem pas_cons (hS : Stb S) {es : List Expr} {r : DA} (he : PVS X S e te) (hr : PAS X S es r) (hs : starEach (e :: es) X.env = (false, eval e X.env) :: starEach es X.env := by rfl) : PAS X S (e :: es) (dAc te r) :=
  ⟨fun δ Q Q' k q => he.mono _ _ _ (fun d δ1 q => hr.mono _ _ _ (fun ds δ2 q => k _ _ q) q) q, fun g => PA.mono (pa_cons (he.run g) (hr.run g) hs) fun σ H Q ⟨δ, F, R, c, q⟩ => ⟨δ, F, R, c, he.mono _ _ _ (fun d δ1 q v H1 F1 s1 R1 r1 => ⟨δ1, F1, R1, hS _ _ _ _ s1 c, hr.mono _ _ _ (fun ds δ2 q vs H2 F2 s2 R2 r2 => q (v :: vs) H2 F2 (s1.trans s2) R2 (.cons (r1.mono s2) r2)) q⟩) q⟩⟩
theorem pvs_lst {es : List Expr} {a : DA} (h : PAS X S es a) : PVS X S (.List es pos) (dFrz (dLst a)) :=
  ⟨fun δ Q Q' k q => h.mono _ _ _ (fun ds δ' q => ⟨q.1, k _ _ q.2⟩) q, fun g => PE.mono (pe_lst (h.run g)) fun σ H Q ⟨δ, F, R, c, q⟩ => ⟨δ, F, R, c, h.mono _ _ _ (fun ds δ' q vs H' F' s R' r => ⟨by rw [r.length, sizeLine_eq]; have := q.1; omega, fun p hp => rq_lst R' r hp (RQ.weak s q.2)⟩) q⟩⟩
variable {st : Stmt} {rest : List Stmt} {t u : DSm}
theorem stss_nil : PSSs X S [] dNext := ⟨fun g => PSs.mono pss_nil fun D' σ H ⟨δ, F, E, R, _, L, q⟩ => L.nx δ σ H F (Same.refl _) R q⟩
theorem stss_one (h1 : PSS X S st t) : PSSs X S [st] t := ⟨fun g => pss_one (h1.run g)⟩
theorem stss_cons (hS : Stb S) (hI : Ind S) (h1 : PSS X S st t) (h2 : PSSs X S rest u) : PSSs X S (st :: rest) (dSeq t u) :=
  ⟨fun g => PSs.mono (pss_cons (h1.run g) (h2.run g)) fun D' σ H ⟨δ, F, E, R, c, L, q⟩ => ⟨δ, F, { E with nx := u E }, R, c, ⟨fun δ' σ' H' F' s R' q => ⟨δ', F', E, R', hI _ _ _ _ (hS _ _ _ _ s c), L.mono s, q⟩, L.bk, L.ct, L.rt⟩, q⟩⟩
theorem sts_set {i : Nat} {x : Str} {pos' : Pos} (hN : X.N.Nodup) (he : PVS X S e te) (hi : X.N[i]? = some x := by rfl) (hx : Loc X.env.scope x := by first | exact .inl rfl | exact .inr rfl) (hs : swapsWith e (some (.Name x pos')) pos.line X.env = pure false := by rfl)
    (hf : X.fn x = true ∨ X.env.scope.names.lookup x = some .local := by first | exact .inl rfl | exact .inr rfl | assumption) : PSS X S (.Assign [.Name x pos'] e pos) (dSet i te) :=
  ⟨fun g => PS.mono (ps_set hN hi hx (he.run g) hs hf) fun D' σ H ⟨δ, F, E, R, c, L, q⟩ => ⟨δ, F, R, c, he.mono _ _ _ (fun d δ' q v H' F' s R' r => L.nx _ _ H' F' s (R'.setVal r) q) q⟩⟩
theorem sts_if {c : Expr} {a b : List Stmt} {tc : DT} (hS : Stb S) (hc : PTS X S c tc) (ha : PSSs X S a t) (hb : PSSs X S b u) : PSS X S (.If c a b pos) (dIf tc t u) :=
  ⟨fun g => PS.mono (ps_if (hc.run g) (ha.run g) (hb.run g)) fun D' σ H ⟨δ, F, E, R, z, L, q⟩ => ⟨δ, F, R, z, hc.mono _ _ _ (fun k δ' q H' F' s R' => mono_ite (fun q => ⟨δ', F', E, R', hS _ _ _ _ s z, L.mono s, q⟩) (fun q => ⟨δ', F', E, R', hS _ _ _ _ s z, L.mono s, q⟩) q) q⟩⟩
def dIfC (c : DT) (t u : DSm) : DSm := fun E δ => c δ fun b δ' => if b = true then t { E with nx := fun _ => False } δ' else u E δ'
theorem sts_for {tg iter : Expr} {body : List Stmt} {ti : DI} {p : Pat} {tb : DSm} (hS : Stb S) (hI : Ind S) (hp : PassesOwn (model X.prog X.w) X.A X.env X.xe) (hc : X.calm = true) (hi : PId X tg iter ti) (hg : PG X tg (gPat X.K p)) (hb : PSSs X S body tb)
    (hs : ∀ x, foldedSetIterable iter X.env x = pure x := by intro _; rfl) : PSS X S (.For tg iter body [] pos) (dFor ti p tb) := by
  refine ⟨fun g => PS.mono (ps_for hp hc (hi.run g) hg (hb.run g) hs) fun D' σ H ⟨δ, F, E, R, c, L, q⟩ => ⟨δ, F, R, hi.mono _ _ _ (fun items δ1 q J H1 F1 s1 R1 ok => ?_) q⟩⟩
  have W : Walk J items.length (fun H => Same F1 H) (fun i H x H2 => ∃ d, items[i]? = some d ∧ ((H2 = H ∧ Rp g.dk F1 x d) ∨ (∃ T xs ds, x = .ref T ∧ H T = none ∧ H2 = upd H T (.tup xs) ∧ d = .tup ds ∧ Rps g.dk F1 xs ds) ∨ (H2 = H ∧ ∃ T xs ds, x = .ref T ∧ H T = some (.tup xs) ∧ d = .tup ds ∧ Rps g.dk F1 xs ds))) :=
    ⟨fun i H hi s => ok.goes i H hi s, fun H s => ok.stops H s, fun i H x H2 hi s y => ok.yields i H x H2 hi s y⟩
  refine for_it W (fun i σ H => ∃ δ' F', Same F1 F' ∧ Rl g δ' σ H F' ∧ dForL p tb E (items.drop i) δ') ⟨δ1, F1, Same.refl _, R1, q⟩ (fun i σ H _ ⟨δ', F', s, R', _⟩ => s.trans R'.ext.sub) ?_ ?_
  · rintro i x σ' H0 H2 hil ⟨δ', F', s, R', q⟩ ⟨d, hd, hy⟩
    rw [List.drop_eq_getElem_cons hil] at q
    have ed : items[i] = d := by
      rw [List.getElem?_eq_getElem hil] at hd; exact Option.some.inj hd
    rw [ed] at q
    obtain ⟨F2, s2, R2, r2⟩ := item_ok R' s hy
    refine dPat_ok p d x δ' σ' _ (vs := p.ix) (fun i h => h) q R2 r2 fun δ3 σ3 R3 _ q3 => ?_
    have L2 := L.mono (s1.trans (s.trans s2))
    refine ⟨δ3, F2, { E with nx := dForL p tb E (items.drop (i + 1)), ct := dForL p tb E (items.drop (i + 1)), bk := E.nx }, R3, hI _ _ _ _ (hS _ _ _ _ (s1.trans (s.trans s2)) c), ⟨fun δ4 σ4 H4 F4 s4 R4 q4 => ⟨δ4, F4, (s.trans s2).trans s4, R4, q4⟩, fun δ4 σ4 H4 F4 s4 R4 q4 => L2.nx δ4 σ4 H4 F4 s4 R4 q4, fun δ4 σ4 H4 F4 s4 R4 q4 => ⟨δ4, F4, (s.trans s2).trans s4, R4, q4⟩, L2.rt⟩, q3⟩
  · rintro σ' H0 ⟨δ', F', s, R', q⟩
    rw [List.drop_length] at q
    exact L.nx _ _ _ _ (s1.trans s) R' q
end
def dRaise (nm : Str) (EX : EXs) (te : DE) : DSm := fun _ δ => te δ fun d δ' => EX nm d δ'
section
variable {X : Cx} {W : WX} {EX : EXs} {C fI : Addr} {nm fl : Str} {a : Expr} {te : DE} {p pos pos2 : Pos} {k : Nat}
theorem sts_raise (hc : X.calm = true) (tk : Takes X W) (T : ErrTxt X.prog X.K X.mg nm fl C fI) (hfl : fieldOf nm = fl) (hr : RoomG k X.A) (ha : PV X a te) (hg : Gl X nm) (hnd : (nm == ("__debug__" : Str)) = false)
    (he : starEach (a :: []) X.env = (false, eval a X.env) :: starEach [] X.env := by rfl) (hpl : (backTo pos (starEach [] X.env)).any (·.1) = false := by rfl) :
    PSS X (SX X.mg W EX) (.Raise (some (.Call (.Name nm p) [a] [] pos)) none pos2) (dRaise nm EX te) := by
  refine ⟨fun g => PS.mono (ps_raise hc tk (pmk_err T hr.r (pa_cons (ha.run g) pa_nil he) hg hnd he hpl)) fun D' σ H ⟨δ, F, E, R, c, L, q⟩ => ?_⟩
  refine ⟨δ, F, R, ha.mono _ _ _ (fun d δ' q v H' F' s R' r => ⟨v, rfl, fun dd hd => ?_⟩) q⟩
  obtain ⟨R2, s2⟩ := R'.mkF (.xd [(fl, v)]) hd
  refine c nm d δ' σ _ _ _ _ (s.trans s2) R2 ⟨T.gC, dd, v, rfl, by rw [hfl]; exact upd_same, r.mono s2⟩ q
end
abbrev DSpX := List D → (D → Prop) → (Str → D → Prop) → Prop
def LSpX (mg : Str → Option Value) (sp : DSpX) : Sp := fun vs H Q E => ∃ k F ds, Same F H ∧ (∀ a, isDk k a → F a = none) ∧ DkOk k H ∧ Rps k F vs ds ∧ sp ds (fun d => ∀ v H' F', Ext k F H F' H' → Rp k F' v d → Q v H') fun c d => ∀ cls a H' F', Ext k F H F' H' → ErrV mg k F' c d cls a → E cls a H'
def MonoSpX (sp : DSpX) : Prop := ∀ ds (K K' : D → Prop) (Y Y' : Str → D → Prop), (∀ d, K d → K' d) → (∀ c d, Y c d → Y' c d) → sp ds K Y → sp ds K' Y'
structure FnX (P : Program) (w : World) (K : PySem.W.Frag) (mg : Str → Option Value) (base : Heap) (k : Nat) (x : Str) (ps : List Str) (sp : DSpX) : Prop where
  ex : ∃ f fd, mg x = some (.ref f) ∧ PySem.W.keepIn K (.ref f) = true ∧ Binds K fd ps [] ∧ FnG P w K mg base (L2.CX P w) k f fd ps (LSpX mg sp)
  ms : MonoSpX sp
def dCallX (sp : DSpX) (EX : EXs) (a : DA) : DE := fun δ Q => a δ fun ds δ' => sp ds (fun d => Q d δ') fun c d => EX c d δ'
section
variable {X : Cx} {W : WX} {EX : EXs} {k : Nat} {ps : List Str} {sp : DSpX} {x : Str} {p pos : Pos} {e : Expr} {es : List Expr} {a : DA}
theorem pe_callGX {f : Addr} {fd : FuncData} {sp : Sp} {t : TA} (F : FnG X.prog X.w X.K X.mg X.base (L2.CX X.prog X.w) k f fd ps sp) (hr : RoomG k X.A) (tk : Takes X W) (hg : Gl X x) (hm : X.mg x = some (.ref f)) (hk : PySem.W.keepIn X.K (.ref f) = true) (hb : Binds X.K fd ps [])
    (ha : PA X (e :: es) t) (hdb : (x == ("__debug__" : Str)) = false := by decide) (he : starEach (e :: es) X.env = (false, eval e X.env) :: starEach es X.env := by rfl) (hpl : (backTo pos (starEach es X.env)).any (·.1) = false := by rfl) :
    PE X (.Call (.Name x p) (e :: es) [] pos) (fun σ H Q => t σ H fun vs H1 => sp vs H1 Q fun cls a H' => W cls a σ H') := by
  refine ⟨fun pins s σ H Q I h => wpAny_Call_Name_kw (ld_glob I hg hm ?_ hdb)⟩
  refine PySem.W.callWith_K (h₀ := X.base) I.ok.mod.kin hk (thn (ha.run pos pins s σ H _ I h) fun us s1 ⟨vs, H1, J, r, q⟩ => ⟨J.kIn, ?_⟩) he hpl
  have hl : us.length = ps.length := by rw [← r.length]; exact F.len _ _ _ _ q
  have hb' := hb s1 us J.kIn (by rw [List.append_nil]; exact hl)
  rw [List.append_nil] at hb'
  refine wpAny_call (codeAny_mono (F.run X.A X.stack s1 H1 ⟨us, []⟩ us vs Q (fun cls a H' => W cls a σ H') hr J.env0 hb' r q) fun res s2 hq => ?_)
  cases res with
  | error e => exact tk e s2 (XE.of_call J (fun _ _ _ h => h) hq)
  | ok fl => cases fl with
    | ret u => exact J.after hq
    | next => exact hq.elim
    | brk => exact hq.elim
    | cont => exact hq.elim
theorem pvs_fnX (G : FnX X.prog X.w X.K X.mg X.base k x ps sp) (hr : RoomG k X.A) (tk : Takes X W) (ha : PAd X (e :: es) a) (hg : Gl X x := by rfl) (hdb : (x == ("__debug__" : Str)) = false := by decide)
    (he : starEach (e :: es) X.env = (false, eval e X.env) :: starEach es X.env := by rfl) (hpl : (backTo pos (starEach es X.env)).any (·.1) = false := by rfl) : PVS X (SX X.mg W EX) (.Call (.Name x p) (e :: es) [] pos) (dCallX sp EX a) := by
  obtain ⟨f, fd, h1, h2, h3, h4⟩ := G.ex
  refine ⟨fun δ Q Q' k q => ha.mono _ _ _ (fun ds δ' q => G.ms _ _ _ _ _ (fun d q => k _ _ q) (fun _ _ q => q) q) q, fun g => PE.mono (pe_callGX h4 hr tk hg h1 h2 h3 (ha.run g) hdb he hpl) fun σ H Q ⟨δ, F, R, c, q⟩ => ⟨δ, F, R, ha.mono _ _ _ (fun ds δ' q vs H1 F1 s1 R1 r => ?_) q⟩⟩
  exact ⟨g.dk, F1, ds, R1.ext.sub, R1.ext.fdk, R1.ext.dko, r, G.ms _ _ _ _ _ (fun d q v H' F' x r' => q v H' F' (s1.trans x.old) (R1.grow x) r') (fun c' d q cls b H' F' x ev => c c' d δ' σ H' F' cls b (s1.trans x.old) (R1.grow x) ev q) q⟩
theorem FnX.fn {P : Program} {w : World} {K : PySem.W.Frag} {mg : Str → Option Value} {base : Heap} {sp : DSpX} (G : FnX P w K mg base k x ps sp) : Fn P w K mg base k x ps (fun ds K => sp ds K fun _ _ => False) := by
  obtain ⟨f, fd, h1, h2, h3, h4⟩ := G.ex
  refine ⟨⟨f, fd, h1, h2, h3, fun vs H Q E ⟨dk, F, ds, a, b, c, d, e⟩ => h4.len vs H Q (fun _ _ _ => True) ⟨dk, F, ds, a, b, c, d, G.ms _ _ _ _ _ (fun _ q => q) (fun _ _ q => q.elim) e⟩, fun A outer s H args us vs Q E hr e0 hb r ⟨dk, F, ds, a, b, c, d, e⟩ => ?_⟩, fun ds K K' h q => G.ms _ _ _ _ _ h (fun _ _ q => q) q⟩
  refine codeAny_mono (h4.run A outer s H args us vs Q (fun _ _ _ => False) hr e0 hb r ⟨dk, F, ds, a, b, c, d, G.ms _ _ _ _ _ (fun _ q => q) (fun _ _ q => q.elim) e⟩) fun res s2 hq => ?_
  cases res with
  | ok fl => cases fl <;> exact hq
  | error e =>
    obtain ⟨_, _, _, _, _, _, _, _, _, _, _, _, z⟩ := hq
    exact z.elim
end
section
variable {P : Program} {w : World} {K : PySem.W.Frag} {mg : Str → Option Value} {base : Heap}
theorem fnx_mk {x : Str} {st : Stmt} {N ps : List Str} {k : Nat} {sp : DSpX} {body : EXs → DSm} (D0 : Df K mg x st ps) (S : FnScope N ps (defScope st)) (ms : MonoSpX sp) (hlen : ∀ ds Q Y, sp ds Q Y → ds.length = ps.length)
    (hb : ∀ (f : Addr) (cdv : Value) (A : Around) (outer : List Env) (s : Shared) (H : Hp) (E : XK), RoomG k (A.deeper (envOfC x (defScope st) s.heap.objs.size f cdv)) → ∀ EX, Takes (cxOf (L2.CX P w) P w K mg base N x (defScope st) f cdv A outer s H E) (fun cls d _ H => E cls d H) →
      PassesOwn (model P w) (A.deeper (envOfC x (defScope st) s.heap.objs.size f cdv)) (cxOf (L2.CX P w) P w K mg base N x (defScope st) f cdv A outer s H E).env (cxOf (L2.CX P w) P w K mg base N x (defScope st) f cdv A outer s H E).xe →
      PSSs (cxOf (L2.CX P w) P w K mg base N x (defScope st) f cdv A outer s H E) (SX mg (fun cls d _ H => E cls d H) EX) (defBody st) (body EX))
    (hok : ∀ ds Q Y, sp ds Q Y → body (fun c d _ => Y c d) (endD Q) (startD N ds)) : FnX P w K mg base (k + 1) x ps sp := by
  obtain ⟨f, fd, h1, F, B⟩ := D0
  refine ⟨⟨f, fd, h1, F.kp, B, fnG_of F S (fun vs H Q E ⟨dk, F, ds, _, _, _, r, h⟩ => by rw [r.length]; exact hlen _ _ _ h) fun cdv A outer s H vs Q E hr h => ?_⟩, ms⟩
  obtain ⟨dk, F, ds, s1, f1, d1, r, h⟩ := h
  have tk : Takes (cxOf (L2.CX P w) P w K mg base N x (defScope st) f cdv A outer s H E) (fun cls d _ H => E cls d H) := takes_of rfl rfl rfl rfl
  refine ⟨_, (hb f cdv A outer s H E hr (fun c d _ => ∀ cls a H' F', Ext dk F H F' H' → ErrV mg dk F' c d cls a → E cls a H') tk (passes_of rfl)).run ⟨dk, F, H⟩, startD N ds, F, endD fun d => ∀ v H' F', Ext dk F H F' H' → Rp dk F' v d → Q v H', rl_start s1 f1 d1 r ?_, fun c d δ' σ' H' F' cls a s R ev q => q cls a H' F' R.ext ev, ⟨fun δ' σ' H' F' s R q => ?_, fun _ _ _ _ _ _ q => q.elim, fun _ _ _ _ _ _ q => q.elim, fun d v δ' σ' H' F' s R rv q => q v H' F' R.ext rv⟩, hok _ _ _ h⟩
  · have e := congrArg List.length S.pre
    rw [List.length_take] at e
    have e2 := hlen _ _ _ h
    rw [r.length]; omega
  · exact q .non H' F' R.ext .non
end
end DL
namespace DL
def SErr (a : Addr) (dd : Option Addr) (i : Nat) (c : Str) (d : D) : GS := fun g σ F => σ[i]? = some (some (.ref a)) ∧ ∃ ddr v, dd = some ddr ∧ F ddr = some (.xd [(fieldOf c, v)]) ∧ Rp g.dk F v d
theorem serr_stb {a : Addr} {dd : Option Addr} {i : Nat} {c : Str} {d : D} : Stb (SErr a dd i c d) := fun g σ F F' s ⟨h, r, v, e, hf, rv⟩ => ⟨h, r, v, e, s _ _ hf, rv.mono s⟩
theorem Rl.dropSet {g : Gh} {δ : DS} {σ : L2.St} {H F : Hp} (R : Rl g δ σ H F) (i : Nat) (x : Option V) : Rl g (δ.set i none) (σ.set i x) H F := by
  have key : ∀ (j : Nat) (s : Sl), (δ.set i none)[j]? = some (some s) → δ[j]? = some (some s) ∧ (σ.set i x)[j]? = σ[j]? := fun j s h => by
    by_cases hj : i = j
    · subst hj
      rw [List.getElem?_set, if_pos rfl] at h
      split at h <;> cases h
    · rw [List.getElem?_set_ne hj] at h; exact ⟨h, by rw [List.getElem?_set_ne hj]⟩
  refine ⟨R.ext, by rw [List.length_set, List.length_set, R.len], fun j d h => ?_, fun j c h => ?_, fun a b c c' p h1 h2 h3 h4 => ?_⟩
  · rw [(key j _ h).2]; exact R.val j d (key j _ h).1
  · rw [(key j _ h).2]; exact R.own j c (key j _ h).1
  · rw [(key a _ h1).2] at h3
    rw [(key b _ h2).2] at h4
    exact R.dif a b c c' p (key a _ h1).1 (key b _ h2).1 h3 h4
def endsW (i : Nat) (E : DEnds) : DEnds := ⟨fun δ => E.nx (δ.set i none), E.rt, fun δ => E.bk (δ.set i none), fun δ => E.ct (δ.set i none)⟩
def dTryAs (i : Nat) (mt : Str → Bool) (tb : EXs → DSm) (hd : Str → D → DSm) : DSm := fun E δ => tb (fun c d δ' => mt c = true ∧ i < δ'.length ∧ hd c d (endsW i E) (δ'.set i none)) E δ
section
variable {X : Cx} {x n : Str} {cC : Value} {i : Nat} {body suite : List Stmt} {b₀ : Stmt} {np pos pos' : Pos} {tb : EXs → DSm} {hd : Str → D → DSm} {mt : Str → Bool}
theorem psd_tryAs (hs : X.stack = X.env :: X.outer) (hf : X.env.frame = some X.env.locals) (hN : X.N.Nodup) (hi : X.N[i]? = some n) (hln : X.env.kindOf n = some .local) (hc : Names X x cC)
    (hb : ∀ (W : WX) (pn : List (Addr × Obj)) (xe : Value → Shared → Prop), Takes (X.tr pn xe) W → PassesOwn (model X.prog X.w) X.A X.env xe → ∀ EX, PSSs (X.tr pn xe) (SX X.mg W EX) body (tb EX))
    (hm : ∀ c cls, mt c = true → X.mg c = some cls → PySem.W.exmOne X.K cls cC = some true)
    (hsu : ∀ (a : Addr) (oe : Obj) (cls : Value) (dd : Option Addr) (pn : List (Addr × Obj)), Zc cls dd oe → (∃ vs, oe.data = .fields vs) → ∀ c d, mt c = true → X.mg c = some cls → PSSs (X.suite a ((a, oe) :: pn)) (SErr a dd i c d) (b₀ :: suite) (hd c d)) :
    PSd X (.Try body [.ExceptHandler (some (.Name x np)) (some n) (b₀ :: suite) pos'] [] [] pos) (dTryAs i mt tb hd) := by
  refine ⟨fun g => PS.mono (ps_try_as (i := i) (Wout := fun _ _ _ _ => False)
      (tb := fun W D σ H => ∃ EX, LSS (SX X.mg W EX) g (tb EX) D σ H)
      (ts := fun a cls dd D σ H => ∃ c d, mt c = true ∧ X.mg c = some cls ∧ LSS (SErr a dd i c d) g (hd c d) D σ H)
      hs hf hN hi hln hc takes_none5 (fun W pn xe tk po => ⟨fun pins s σ H D I ⟨EX, q⟩ => ((hb W pn xe tk po EX).run g).run pins s σ H D I q⟩)
      (fun a oe cls dd pn hz hv => ⟨fun pins s σ H D I ⟨c, d, h1, h2, q⟩ => ((hsu a oe cls dd pn hz hv c d h1 h2).run g).run pins s σ H D I q⟩)) fun D' σ H ⟨δ, F, E, R, L, q⟩ => ?_⟩
  refine ⟨_, δ, F, E, R, fun c d δ' σ' H' F' cls a s R' ev ⟨hmt, hil, q'⟩ => ⟨true, hm c cls hmt ev.1, fun _ a0 ha0 => ?_, fun z => nomatch z⟩, L, q⟩
  have hl : i < σ'.length := by rw [← R'.len]; exact hil
  refine ⟨c, d, hmt, ev.1, δ'.set i none, F', endsW i E, R'.dropSet i _, ⟨by rw [List.getElem?_set_self hl], ?_⟩, ⟨fun δ2 σ2 H2 F2 s2 R2 q2 => ?_, fun δ2 σ2 H2 F2 s2 R2 q2 => ?_, fun δ2 σ2 H2 F2 s2 R2 q2 => ?_, fun d2 v2 δ2 σ2 H2 F2 s2 R2 rv q2 => L.rt d2 v2 δ2 σ2 H2 F2 (s.trans s2) R2 rv q2⟩, q'⟩
  · obtain ⟨_, dd, v, e, hf', rv⟩ := ev
    exact ⟨dd, v, e, hf', rv⟩
  · exact L.nx _ _ _ _ (s.trans s2) (R2.dropSet i _) q2
  · exact L.bk _ _ _ _ (s.trans s2) (R2.dropSet i _) q2
  · exact L.ct _ _ _ _ (s.trans s2) (R2.dropSet i _) q2
end
end DL
namespace DL
def dErr (d : D) : DE := fun δ Q => Q d δ
section
variable {X : Cx} {a : Addr} {oe : Obj} {cls : Value} {dd : Option Addr} {pn : List (Addr × Obj)} {i : Nat} {c n fl : Str} {d : D} {C : Addr} {p p2 pos : Pos}
theorem pvs_err (T : XfC X.K C) (hcl : X.mg c = some (.ref C)) (hcls : X.mg c = some cls) (hno : PySem.W.findIn X.K (.ref C) fl = some none) (hfl : fieldOf c = fl) (hz : Zc cls dd oe) (hf : ∃ vs, oe.data = .fields vs)
    (hN : X.N[i]? = some n) (hv : Vis X.env.scope n) (hdb : (n == ("__debug__" : Str)) = false) (hcd : (n == ("__classdict__" : Str)) = false)
    (hb : attributeBase (.Name n p) fl X.env (eval (.Name n p) X.env) = eval (.Name n p) X.env := by rfl) : PVS (X.suite a ((a, oe) :: pn)) (SErr a dd i c d) (.Attribute (.Name n p) fl pos) (dErr d) := by
  have ec : cls = .ref C := by rw [hcl] at hcls; exact (Option.some.inj hcls).symm
  refine ⟨fun δ Q Q' k q => k _ _ q, fun g => PE.mono (pe_xf T hno hz hf (pe_var (X := X.suite a ((a, oe) :: pn)) hN hv hdb hcd) hb) fun σ H Q ⟨δ, F, R, ⟨h1, ddr, v, e, hx, rv⟩, q⟩ => ?_⟩
  refine ⟨.ref a, h1, rfl, ec, ddr, [(fieldOf c, v)], v, e, R.ext.sub _ _ hx, by rw [hfl]; simp [List.lookup], q v H F (Same.refl _) R rv⟩
end
end DL
namespace DL
structure ErrC (prog : Program) (K : PySem.W.Frag) (mg : Str → Option Value) (nm : Str) : Prop where
  ex : ∃ C fI, ErrTxt prog K mg nm (fieldOf nm) C fI
  te : ∀ C, mg nm = some (.ref C) → PySem.W.exmOne K (.ref C) (.ref C) = some true
  nd : (nm == ("__debug__" : Str)) = false
def clsInit : Stmt → Stmt
  | .ClassDef _ _ _ (s :: _) _ _ _ _ _ _ _ => s
  | s => s
theorem exm_self {K : PySem.W.Frag} {S : Addr} (h1 : PySem.W.subIn K (.ref S) (.type "BaseException") = some true) (h2 : PySem.W.isClsIn K S = true) (h3 : PySem.W.typeIn K (.ref S) = some (.type "type")) (h4 : PySem.W.subIn K (.ref S) (.ref S) = some true) :
    PySem.W.exmOne K (.ref S) (.ref S) = some true := by
  have e1 : (PySem.W.subIn K (.ref S) (.type "BaseException") == some true) = true := by rw [h1] <;> rfl
  have e2 : ((PySem.W.clsIn K S).isSome && PySem.W.typeIn K (.ref S) == some (.type "type")) = true := by
    have h2' : (PySem.W.clsIn K S).isSome = true := h2
    rw [h2', h3] <;> rfl
  show (if (PySem.W.subIn K (.ref S) (.type "BaseException") == some true) = true then (if ((PySem.W.clsIn K S).isSome && PySem.W.typeIn K (.ref S) == some (.type "type")) = true then PySem.W.subIn K (.ref S) (.ref S) else none) else none) = some true
  rw [if_pos e1, if_pos e2]
  exact h4
section
open PySem.W
theorem errC_mk {prog : Program} {K : Frag} {h : Heap} {mg : Str → Option Value} {nm fl : Str} {st : Stmt} {C fI cda cc N : Addr} (X : K.In h) (G : h.Ns mainGlobals mg) {qn q : Str} {bs bm sub : List Value} {sn : List Str} {ab : Bool} {col : Option Bool} {dd : Option Addr} {m0 m1 m2 m3 m5 : Option Value}
    {oc kV doc pm ct cl ccl : Value} {od an cld cdd : Option Addr} {osl csl ccs : Array (Option Value)} {vs : Array Value} {file : Str} {tf : Tok}
    (hfl : fieldOf nm = fl)
    (aC : nsIn K mainGlobals nm = some (some (.ref C))) (aS : nsIn K mainGlobals "super" = some none)
    (xL : K.lookup C = some (excClassObj qn q C N bs bm true sn sub ab col dd m0 m1 m2 m3 m5 "ValueError.__new__")) (hbm : PySem.HandSPX.refsVE bm = true)
    (sa : findIn K (.ref C) "__setattr__" = some (some (.builtin "object.__setattr__"))) (ga : findIn K (.ref C) "__getattribute__" = some (some (.builtin "BaseException.__getattribute__"))) (gg : findIn K (.ref C) "__getattr__" = some none) (nb : findIn K (.ref C) fl = some none)
    (a1 : findIn K (.ref C) "__init__" = some (some (.ref fI))) (t1 : typeIn K (.ref fI) = some (.type "function"))
    (l1 : K.lookup fI = some ⟨oc, od, .func (ksFn "__init__" (nm ++ ".__init__") (defArgs st) (defBody st) (defScope st) .none kV doc pm an (.ref cda) ct cc), osl⟩) (c1 : codeIn K (.ref cda) (nm ++ ".__init__") = true)
    (l2 : K.lookup cc = some ⟨cl, cld, .cell (some (.ref C)), csl⟩) (l3 : K.lookup cda = some ⟨ccl, cdd, .fields vs, ccs⟩) (v2 : vs[2]? = some (.str file tf)) (hfile : ((prog.main.file : Str) == file) = true)
    (kC : keepIn K (.ref C) = true) (eC : subIn K (.ref C) (.type "BaseException") = some true) (vC : subIn K (.ref C) (.type "ValueError") = some true) (tC : typeIn K (.ref C) = some (.type "type")) (hC : hasDictIn K C = true) (iC : isClsIn K C = true) (sC : subIn K (.ref C) (.ref C) = some true)
    (su : ks_superIn K C C "__init__" = some (some (.builtin "ValueError.__init__"))) (an' : nsIn K cStatics "thirdparty.any" = some none) (mC : mroIn K C (.ref C) = some true)
    (shp : ∃ p1 p2 a0 a1 a2 a3 a4 a5 q1 q2 q3 q4 : Pos, defArgs st = eArgs fl p1 p2 ∧ defBody st = eBody fl a0 a1 a2 a3 a4 a5 q1 q2 q3 q4 ∧ defScope st = eScope fl ∧ (a2.endLine == a4.line) = true)
    (n1 : (fl == ("self" : Str)) = false) (n2 : (fl == ("__debug__" : Str)) = false) (n3 : (fl == ("__class__" : Str)) = false) (n4 : (fl == ("super" : Str)) = false) (n5 : (nm == ("__debug__" : Str)) = false) (top : (prog.main.scope.names.lookup ("super" : Str)).isSome = false)
    (bnd : ∀ (p1 p2 : Pos) (body : List Stmt) (q : Str) (kV doc pm : Value) (an : Option Addr) (cda cc : Addr) (ct x v : Value), bindArgs (ksFn "__init__" q (eArgs fl p1 p2) body (eScope fl) .none kV doc pm an (.ref cda) ct cc) ⟨[x, v], []⟩ = pure ([(("self" : Str), x), (fl, v)] : List (Str × Value))) :
    ErrC prog K mg nm := by
  obtain ⟨p1, p2, b0, b1, b2, b3, b4, b5, q1, q2, q3, q4, s1, s2, s3, s4⟩ := shp
  rw [s1, s2, s3] at l1
  subst hfl
  refine ⟨⟨C, fI, ?_⟩, fun C' hC' => ?_, n5⟩
  · exact { gC := mg_of X G aC, gS := mg_none_of X G aS, cls := ⟨qn, q, N, bs, bm, sn, sub, ab, col, dd, m0, m1, m2, m3, m5, xL, hbm⟩, sa := sa, ga := ga, gg := gg, noN := nb, iC := a1, tC := t1, kC := kC, exC := eC, veC := vC, tyC := tC, hdC := hC, su := su, any := an', mC := mC,
            fn := ⟨oc, od, doc, pm, kV, an, cda, cc, ct, osl, p1, p2, b0, b1, b2, b3, b4, b5, q1, q2, q3, q4, l1, c1, s4, ⟨cl, cld, csl, l2⟩, ccl, cdd, vs, ccs, file, tf, l3, v2, hfile⟩,
            nsf := n1, ndb := n2, ncl := n3, nsp := n4, top := top, bnd := bnd }
  · have e : C' = C := by
      have := hC'.symm.trans (mg_of X G aC)
      cases this; rfl
    subst e
    exact exm_self eC iC tC sC
end
def dTry1 (i : Nat) (nm : Str) (tb : EXs → DSm) (hd : D → DSm) : DSm := fun E δ => tb (fun c d δ' => c = nm ∧ i < δ'.length ∧ hd d (endsW i E) (δ'.set i none)) E δ
section
variable {X : Cx} {W : WX} {EX : EXs} {nm fl n : Str} {i k : Nat} {body suite : List Stmt} {b₀ : Stmt} {np pos pos' pos2 p : Pos} {tb : EXs → DSm} {hd : D → DSm} {a : Expr} {te : DE}
theorem sts_raise1 (hc : X.calm = true) (tk : Takes X W) (T : ErrC X.prog X.K X.mg nm) (hr : RoomG k X.A) (ha : PV X a te) (hg : Gl X nm)
    (he : starEach (a :: []) X.env = (false, eval a X.env) :: starEach [] X.env := by rfl) (hpl : (backTo pos (starEach [] X.env)).any (·.1) = false := by rfl) :
    PSS X (SX X.mg W EX) (.Raise (some (.Call (.Name nm p) [a] [] pos)) none pos2) (dRaise nm EX te) := by
  obtain ⟨C, fI, T1⟩ := T.ex
  exact sts_raise hc tk T1 rfl hr ha hg T.nd he hpl
theorem psd_try1 (T : ErrC X.prog X.K X.mg nm) (hs : X.stack = X.env :: X.outer) (hf : X.env.frame = some X.env.locals) (hN : X.N.Nodup) (hi : X.N[i]? = some n) (hln : X.env.kindOf n = some .local) (hg : Gl X nm)
    (hb : ∀ (W : WX) (pn : List (Addr × Obj)) (xe : Value → Shared → Prop), Takes (X.tr pn xe) W → PassesOwn (model X.prog X.w) X.A X.env xe → ∀ EX, PSSs (X.tr pn xe) (SX X.mg W EX) body (tb EX))
    (hsu : ∀ (a : Addr) (oe : Obj) (cls : Value) (dd : Option Addr) (pn : List (Addr × Obj)), Zc cls dd oe → (∃ vs, oe.data = .fields vs) → X.mg nm = some cls → ∀ d, PSSs (X.suite a ((a, oe) :: pn)) (SErr a dd i nm d) (b₀ :: suite) (hd d)) :
    PSd X (.Try body [.ExceptHandler (some (.Name nm np)) (some n) (b₀ :: suite) pos'] [] [] pos) (dTry1 i nm tb hd) := by
  obtain ⟨C, fI, T1⟩ := T.ex
  have h := psd_tryAs (X := X) (x := nm) (n := n) (cC := .ref C) (i := i) (body := body) (suite := suite) (b₀ := b₀) (np := np) (pos := pos) (pos' := pos') (tb := tb) (hd := fun c d => hd d) (mt := fun c => decide (c = nm)) hs hf hN hi hln ⟨hg, T.nd, .inl T1.gC⟩ hb
    (fun c cls hm hcl => by
      have e := of_decide_eq_true hm
      subst e
      rw [T1.gC] at hcl; cases hcl
      exact T.te C T1.gC)
    (fun a oe cls dd pn hz hv c d hm hcl => by
      have e := of_decide_eq_true hm
      subst e
      exact hsu a oe cls dd pn hz hv hcl d)
  refine ⟨fun g => PS.mono (h.run g) fun D' σ H ⟨δ, F, E, R, L, q⟩ => ⟨δ, F, E, R, L, ?_⟩⟩
  have e : (fun c d δ' => decide (c = nm) = true ∧ i < δ'.length ∧ hd d (endsW i E) (δ'.set i none) : EXs) = fun c d δ' => c = nm ∧ i < δ'.length ∧ hd d (endsW i E) (δ'.set i none) := by
    funext c d δ'; rw [decide_eq_true_eq]
  show tb (fun c d δ' => decide (c = nm) = true ∧ i < δ'.length ∧ hd d (endsW i E) (δ'.set i none)) E δ
  rw [e]; exact q
theorem pvs_err1 {aE : Addr} {oe : Obj} {cls : Value} {dd : Option Addr} {pn : List (Addr × Obj)} {d : D} (T : ErrC X.prog X.K X.mg nm) (hz : Zc cls dd oe) (hf : ∃ vs, oe.data = .fields vs) (hcls : X.mg nm = some cls) (hfl : fieldOf nm = fl)
    (hN : X.N[i]? = some n) (hv : Vis X.env.scope n) (hdb : (n == ("__debug__" : Str)) = false) (hcd : (n == ("__classdict__" : Str)) = false)
    (hb : attributeBase (.Name n p) fl X.env (eval (.Name n p) X.env) = eval (.Name n p) X.env := by rfl) : PVS (X.suite aE ((aE, oe) :: pn)) (SErr aE dd i nm d) (.Attribute (.Name n p) fl pos) (dErr d) := by
  obtain ⟨C, fI, T1⟩ := T.ex
  exact pvs_err ⟨T1.ga, T1.gg, T1.exC, T1.hdC⟩ T1.gC hcls (by have := T1.noN; rw [hfl] at this; exact this) hfl hz hf hN hv hdb hcd hb
end
def nox (sp : DSpX) : DSp := fun ds K => sp ds K fun _ _ => False
theorem ev_nox (sp : DSpX) (ds : List D) (K : D → Prop) (t : Tag K) : callK (nox sp) ds K t = sp ds K fun _ _ => False := rfl
theorem ev_CallX (sp : DSpX) (EX : EXs) (a : DA) (δ : DS) (Q) : dCallX sp EX a δ Q = a δ fun ds δ' => sp ds (fun d => Q d δ') fun c d => EX c d δ' := rfl
theorem ev_Raise (nm : Str) (EX : EXs) (te : DE) (E : DEnds) (δ : DS) : dRaise nm EX te E δ = te δ fun d δ' => EX nm d δ' := rfl
theorem ev_Try1 (i : Nat) (nm : Str) (tb : EXs → DSm) (hd : D → DSm) (E : DEnds) (δ : DS) : dTry1 i nm tb hd E δ = tb (fun c d δ' => c = nm ∧ i < δ'.length ∧ hd d (endsW i E) (δ'.set i none)) E δ := rfl
theorem ev_Err (d : D) (δ : DS) (Q) : dErr d δ Q = Q d δ := rfl
theorem ev_IfC (c : DT) (t u : DSm) (E : DEnds) (δ : DS) : dIfC c t u E δ = c δ fun b δ' => ifK b (t { E with nx := fun _ => False } δ') (u E δ') := rfl
theorem ev_wrt (i : Nat) (E : DEnds) : (endsW i E).rt = E.rt := rfl
theorem ev_wnx (i : Nat) (E : DEnds) (δ : DS) : (endsW i E).nx δ = E.nx (δ.set i none) := rfl
end DL
set_option maxHeartbeats 3200000
namespace PySem.AutoSeq1
open PySem PyProof.Rows
end PySem.AutoSeq1
namespace L2
open PySem PySem.Spec PyProof.Rows
variable {X : Cx}
end L2
namespace DL
open PySem PySem.Spec PyProof.Rows L2
section
variable {X : Cx} {pos : Pos} {e : Expr} {te : DE} {i : Nat} {x : Str} {p apos cpos : Pos}
def dExtendT (i : Nat) (te : DE) : DE := fun δ Q => ownL δ i fun _ => te δ fun d δ' => ∃ es, d = .tup es ∧ ownL δ' i fun ds => ds.length + es.length < 1000000 ∧ Q .non (δ'.set i (some (.own (.l (ds ++ es)))))
end
theorem ev_ExtendT (i : Nat) (te : DE) (δ : DS) (Q) : dExtendT i te δ Q = ownL δ i fun _ => te δ fun d δ' => asTup d fun es => ownL δ' i fun ds => ds.length + es.length < 1000000 ∧ Q .non (δ'.set i (some (.own (.l (ds ++ es))))) := rfl
end DL
abbrev DL.OfK {K : PySem.W.Frag} {h : PySem.Heap} (_ : K.In h) (T : PySem.W.Frag → Prop) : Prop := T K
namespace L2
open PySem PySem.Spec PyProof.Rows
structure ZSrc (sq : PySem.W.Frag → Hp → Addr → List V → Prop) (is : Heap → Addr → Array Value → Prop) (ir : Heap → Addr → Addr → Nat → Prop) : Prop where
  get : ∀ {X : Cx} {pins : List (Addr × Obj)} {σ : L2.St} {H : Hp} {s : Shared} {a : Addr} {xs : List V}, Inv X pins σ H s → sq X.K H a xs → ∃ its : List Value, Vals xs its ∧ is s.heap a its.toArray
  inj : ∀ {X : Cx} {pins : List (Addr × Obj)} {σ : L2.St} {H : Hp} {s : Shared} {a : Addr} {xs ys : List V}, Inv X pins σ H s → sq X.K H a xs → sq X.K H a ys → xs = ys
  draws : ∀ {prog : Program} {w : World} {A : Around}, A.handled = none → ∀ (it l : Addr), l ≠ it → ∀ items : Array Value, Draws prog w A it [it, l] items.size (fun i v => items[i]? = some v) (fun i h => ir h it l i ∧ is h l items)
  obj : ∀ {h : Heap} {it l : Addr} {i : Nat}, ir h it l i → ∃ o, h.get? it = some o ∧ ∀ v, o.data ≠ .cell v
  at' : ∀ {h h' : Heap} {it l : Addr} {i : Nat}, ir h it l i → (∀ o, h.get? it = some o → h'.get? it = some o) → ir h' it l i
section
variable {sq1 sq2 : PySem.W.Frag → Hp → Addr → List V → Prop} {is1 is2 : Heap → Addr → Array Value → Prop} {ir1 ir2 : Heap → Addr → Addr → Nat → Prop}
end
section
end
section
end
end L2
namespace DL
open PySem PySem.Spec PyProof.Rows L2
section
variable {X : Cx}
def dZipLT (t u : DE) : DI := fun δ Q => t δ fun d δ1 => u δ1 fun e δ2 => ∃ xs ys, d = .lst xs ∧ e = .tup ys ∧ Q (zipD xs ys) δ2
theorem ev_ZipLT (t u : DE) (δ : DS) (Q) : dZipLT t u δ Q = t δ fun d δ1 => u δ1 fun e δ2 => asLst d fun xs => asTup e fun ys => Q (zipD xs ys) δ2 := by
  unfold dZipLT asLst asTup
  congr 1; funext d δ1; congr 1; funext e δ2
  exact propext ⟨fun ⟨xs, ys, a, b, q⟩ => ⟨xs, a, ys, b, q⟩, fun ⟨xs, a, ys, b, q⟩ => ⟨xs, ys, a, b, q⟩⟩
def dZipTL (t u : DE) : DI := fun δ Q => t δ fun d δ1 => u δ1 fun e δ2 => ∃ xs ys, d = .tup xs ∧ e = .lst ys ∧ Q (zipD xs ys) δ2
theorem ev_ZipTL (t u : DE) (δ : DS) (Q) : dZipTL t u δ Q = t δ fun d δ1 => u δ1 fun e δ2 => asTup d fun xs => asLst e fun ys => Q (zipD xs ys) δ2 := by
  unfold dZipTL asTup asLst
  congr 1; funext d δ1; congr 1; funext e δ2
  exact propext ⟨fun ⟨xs, ys, a, b, q⟩ => ⟨xs, a, ys, b, q⟩, fun ⟨xs, a, ys, b, q⟩ => ⟨xs, ys, a, b, q⟩⟩
end
end DL
namespace L2
open PySem PySem.Spec PyProof.Rows
section
variable {P : Program} {w : World} {A : Around} {E : Value → Shared → Prop} {s : Shared}
end
section
variable {X : Cx}
end
end L2
namespace DL
open PySem PySem.Spec PyProof.Rows L2
section
variable {X : Cx}
def dSortSet (te : DE) : DL' := fun δ Q => te δ fun d δ' => ∃ ns : List Int, (d = .lst (ns.map D.int) ∨ d = .tup (ns.map D.int)) ∧ ns.length ≤ 4000 ∧ ∀ ys : List Int, ys.Pairwise (· < ·) → (∀ k, k ∈ ys ↔ k ∈ ns) → Q (.l (ys.map D.int)) δ'
end
theorem ev_SortSet (te : DE) (δ : DS) (Q) : dSortSet te δ Q = te δ fun d δ' => ∃ ns : List Int, (d = .lst (ns.map D.int) ∨ d = .tup (ns.map D.int)) ∧ ns.length ≤ 4000 ∧ ∀ ys : List Int, ys.Pairwise (· < ·) → (∀ k, k ∈ ys ↔ k ∈ ns) → Q (.l (ys.map D.int)) δ' := rfl
end DL
namespace L2
open PySem PySem.Spec PyProof.Rows
end L2
namespace DL
open PySem PySem.Spec PyProof.Rows L2
section
variable {X : Cx}
def dZipTX (t u : DE) : DI := fun δ Q => t δ fun d δ1 => u δ1 fun e δ2 => ∃ xs ys, d = .tup xs ∧ (e = .lst ys ∨ e = .tup ys) ∧ Q (zipD xs ys) δ2
end
theorem ev_ZipTX (t u : DE) (δ : DS) (Q) : dZipTX t u δ Q = t δ fun d δ1 => u δ1 fun e δ2 => ∃ xs ys, d = .tup xs ∧ (e = .lst ys ∨ e = .tup ys) ∧ Q (zipD xs ys) δ2 := rfl
end DL
namespace DL
open PySem PySem.Spec PyProof.Rows L2
def dCompO (i : Nat) (p : Pat) (tt : DT) (te : DE) (vs : List Nat) : DL' := fun δ Q => ownL δ i fun items => dCompL p tt te vs (fun acc δ2 => Q (.l acc) ((restore (δ.set i none) δ2 vs).set i (some (.own (.l items))))) items (wipeD (δ.set i none) vs) []
section
variable {X : Cx} {pos : Pos} {elt tg : Expr} {ifs : List Expr} {scope : Scope} {own : List (Str × Nat)} {vs : List Nat} {p : Pat} {tt : DT} {te : DE} {i : Nat} {x : Str} {px : Pos}
end
def KCO (Q : Ct → DS → Prop) (δ1 : DS) (i : Nat) (items : List D) (vs : List Nat) (_ : Tag Q) : List D → DS → Prop := fun acc δ2 => Q (.l acc) ((restore δ1 δ2 vs).set i (some (.own (.l items))))
theorem evk_CompO (i : Nat) (p : Pat) (tt : DT) (te : DE) (vs : List Nat) (δ : DS) (Q) : dCompO i p tt te vs δ Q = ownL δ i fun items => dCompL p tt te vs (KCO Q (δ.set i none) i items vs .mk) items (wipeD (δ.set i none) vs) [] := rfl
theorem evk_KCO (Q : Ct → DS → Prop) (δ1 δ2 : DS) (i : Nat) (items : List D) (vs : List Nat) (t : Tag Q) (acc : List D) : KCO Q δ1 i items vs t acc δ2 = Q (.l acc) ((restore δ1 δ2 vs).set i (some (.own (.l items)))) := rfl
end DL
namespace L2
open PySem PySem.Spec PyProof.Rows
end L2
namespace DL
open PySem PySem.Spec PyProof.Rows L2
def dOrV (a b : DE) : DE := fun δ Q => a δ fun d δ1 => (d = .non ∧ b δ1 Q) ∨ ∃ i, d = .int i ∧ if i = 0 then b δ1 Q else Q (.int i) δ1
theorem ev_OrV (a b : DE) (δ : DS) (Q) : dOrV a b δ Q = a δ fun d δ1 => (d = .non ∧ b δ1 Q) ∨ ∃ i, d = .int i ∧ if i = 0 then b δ1 Q else Q (.int i) δ1 := rfl
end DL
namespace DL
open PySem PySem.Spec PyProof.Rows L2
mutual
def D.pyE : D → PyData
  | .non => .none
  | .bl b => .bool b
  | .int i => .int i
  | .str x => .str x
  | .tup xs => .tuple (pyEs xs)
  | .lst xs => .list (pyEs xs)
  | .dct _ _ => .dict []
  | .dk => .none
def pyEs : List D → List PyData
  | [] => []
  | x :: r => x.pyE :: pyEs r
end
mutual
def D.okE (n : Nat) : D → Bool
  | .non => true
  | .bl _ => true
  | .int _ => true
  | .str _ => true
  | .tup xs => match n with
    | 0 => false
    | m + 1 => okEs m xs
  | .lst xs => match n with
    | 0 => false
    | m + 1 => okEs m xs
  | .dct _ kvs => decide (0 < n) && kvs.isEmpty
  | .dk => false
def okEs (n : Nat) : List D → Bool
  | [] => true
  | x :: r => x.okE n && okEs n r
end
theorem okEs_all (n : Nat) (xs : List D) : okEs n xs = xs.all (D.okE n) := by
  induction xs with
  | nil => simp [okEs]
  | cons x r ih => simp [okEs, ih]
section
variable {X : Cx} {pins : List (Addr × Obj)} {σ : St} {H : Hp} {s : Shared}
end
section
variable {X : Cx}
def D.shwE (d : D) : Bool := PyData.showable d.pyE && decide (d.pyE.shown.length ≤ 16777216)
def opReprE : DUn := fun d K => d.okE 60 = true ∧ d.shwE = true ∧ K (.str d.pyE.shown)
end
section
variable {X : Cx}
def opBool : DUn
  | .int i, K => K (.bl (i != 0))
  | .bl b, K => K (.bl b)
  | _, _ => False
def opStr : DUn
  | .int i, K => i.natAbs.log2 < 1920 ∧ K (.str ((toString i : String) : Str))
  | _, _ => False
theorem b_str : CallR X (.type "str") (rB1 opStr) ∧ MonoU opStr := by
  refine ⟨fun pins s σ' H xs us Q I r h => ?_, fun a K K' m h => ?_⟩
  · obtain ⟨g, δ, σ, F, v, d, rfl, R, t, h⟩ := h
    cases d <;> first | exact h.elim | skip
    cases t.int
    exact call_str_int pins s σ' H _ us Q I r ⟨_, rfl, h.1, rq_val R (.str _) h.2⟩
  · cases a <;> first | exact h.elim | exact ⟨h.1, m _ h.2⟩
end
end DL
namespace L2
open PySem PySem.Spec PyProof.Rows
end L2
namespace DL
open PySem PySem.Spec PyProof.Rows L2
section
variable {X : Cx}
def opMulE : DOp
  | .tup xs, .int n, K => 0 ≤ n ∧ n ≤ 1000 ∧ xs.length ≤ 1000 ∧ K (.tup (List.replicate n.toNat xs).flatten)
  | a, b, K => opMul a b K
end
theorem ev_mulE (xs : List D) (n : Int) (K) : opMulE (.tup xs) (.int n) K = (0 ≤ n ∧ n ≤ 1000 ∧ xs.length ≤ 1000 ∧ K (.tup (List.replicate n.toNat xs).flatten)) := rfl
theorem ev_mulEl (xs : List D) (n : Int) (K) : opMulE (.lst xs) (.int n) K = opMul (.lst xs) (.int n) K := rfl
theorem ev_mulEi (i n : Int) (K) : opMulE (.int i) (.int n) K = opMul (.int i) (.int n) K := rfl
section
variable {P : Program} {w : World} {K : PySem.W.Frag} {mg : Str → Option Value} {base : Heap}
end
theorem ev_reprE (d : D) (K) : opReprE d K = (d.okE 60 = true ∧ d.shwE = true ∧ K (.str d.pyE.shown)) := rfl
theorem ev_boolI (i : Int) (K) : opBool (.int i) K = K (.bl (i != 0)) := rfl
theorem ev_strI (i : Int) (K) : opStr (.int i) K = (i.natAbs.log2 < 1920 ∧ K (.str ((toString i : String) : Str))) := rfl
theorem ev_ia_tuple_bl (b : Bool) : D.isA "tuple" (.bl b) = false := rfl
theorem ev_ia_tuple_int (i : Int) : D.isA "tuple" (.int i) = false := rfl
theorem ev_ia_tuple_str (x : Str) : D.isA "tuple" (.str x) = false := rfl
theorem ev_ia_tuple_lst (xs : List D) : D.isA "tuple" (.lst xs) = false := rfl
theorem ev_ia_tuple_dct (t : Bool) (kvs : List (D × D)) : D.isA "tuple" (.dct t kvs) = false := rfl
theorem ev_ia_int_str (x : Str) : D.isA "int" (.str x) = false := rfl
theorem ev_ia_int_lst (xs : List D) : D.isA "int" (.lst xs) = false := rfl
theorem ev_ia_int_dct (t : Bool) (kvs : List (D × D)) : D.isA "int" (.dct t kvs) = false := rfl
theorem ev_ia_str_non  : D.isA "str" D.non = false := rfl
theorem ev_ia_str_bl (b : Bool) : D.isA "str" (.bl b) = false := rfl
theorem ev_ia_str_int (i : Int) : D.isA "str" (.int i) = false := rfl
theorem ev_ia_str_tup (xs : List D) : D.isA "str" (.tup xs) = false := rfl
theorem ev_ia_str_lst (xs : List D) : D.isA "str" (.lst xs) = false := rfl
theorem ev_ia_str_dct (t : Bool) (kvs : List (D × D)) : D.isA "str" (.dct t kvs) = false := rfl
theorem ev_ia_bool_non  : D.isA "bool" D.non = false := rfl
theorem ev_ia_bool_str (x : Str) : D.isA "bool" (.str x) = false := rfl
theorem ev_ia_bool_tup (xs : List D) : D.isA "bool" (.tup xs) = false := rfl
theorem ev_ia_bool_lst (xs : List D) : D.isA "bool" (.lst xs) = false := rfl
theorem ev_ia_bool_dct (t : Bool) (kvs : List (D × D)) : D.isA "bool" (.dct t kvs) = false := rfl
theorem ev_ia_list_non  : D.isA "list" D.non = false := rfl
theorem ev_ia_list_bl (b : Bool) : D.isA "list" (.bl b) = false := rfl
theorem ev_ia_list_int (i : Int) : D.isA "list" (.int i) = false := rfl
theorem ev_ia_list_str (x : Str) : D.isA "list" (.str x) = false := rfl
theorem ev_ia_list_tup (xs : List D) : D.isA "list" (.tup xs) = false := rfl
theorem ev_ia_list_dct (t : Bool) (kvs : List (D × D)) : D.isA "list" (.dct t kvs) = false := rfl
theorem ev_ia_dict_non  : D.isA "dict" D.non = false := rfl
theorem ev_ia_dict_bl (b : Bool) : D.isA "dict" (.bl b) = false := rfl
theorem ev_ia_dict_int (i : Int) : D.isA "dict" (.int i) = false := rfl
theorem ev_ia_dict_str (x : Str) : D.isA "dict" (.str x) = false := rfl
theorem ev_ia_dict_tup (xs : List D) : D.isA "dict" (.tup xs) = false := rfl
theorem ev_ia_dict_lst (xs : List D) : D.isA "dict" (.lst xs) = false := rfl
theorem ev_ia_dict_dct (t : Bool) (kvs : List (D × D)) : D.isA "dict" (.dct t kvs) = true := rfl
mutual
def D.wsE : D → Bool
  | .non => true
  | .bl _ => true
  | .int i => decide (i.natAbs < 10 ^ 130)
  | .str x => x.cps.toList.all fun c => decide (c < 16 ^ 8)
  | .tup xs => wssE xs
  | .lst xs => wssE xs
  | .dct _ _ => true
  | .dk => false
def wssE : List D → Bool
  | [] => true
  | x :: r => x.wsE && wssE r
end
def D.blkE (d : D) : Nat := d.pyE.bulk
def blksE (xs : List D) : Nat := PyData.bulkAll (pyEs xs)
theorem blkE_tup (xs : List D) : (D.tup xs).blkE = blksE xs := by simp [D.blkE, blksE, D.pyE, PyData.bulk]
theorem blkE_lst (xs : List D) : (D.lst xs).blkE = blksE xs := by simp [D.blkE, blksE, D.pyE, PyData.bulk]
theorem blksE_nil : blksE [] = 0 := by simp [blksE, pyEs, PyData.bulkAll]
theorem blksE_cons (x : D) (r : List D) : blksE (x :: r) = x.blkE + 1 + blksE r := by simp [blksE, pyEs, PyData.bulkAll, D.blkE]
theorem wssE_all (xs : List D) : wssE xs = xs.all D.wsE := by
  induction xs with
  | nil => simp [wssE]
  | cons x r ih => simp [wssE, ih]
structure BV (n B : Nat) (d : D) : Prop where
  ok : d.okE n = true
  ws : d.wsE = true
  blk : d.blkE ≤ B
structure BVs (n B : Nat) (xs : List D) : Prop where
  ok : ∀ x ∈ xs, x.okE n = true
  ws : ∀ x ∈ xs, x.wsE = true
  blk : blksE xs ≤ B
theorem BVs.nil {n : Nat} : BVs n 0 [] := ⟨(fun x h => nomatch h), (fun x h => nomatch h), by rw [blksE_nil]; exact Nat.le_refl _⟩
theorem BVs.cons {n b c : Nat} {x : D} {xs : List D} (h : BV n b x) (hs : BVs n c xs) : BVs n (b + 1 + c) (x :: xs) :=
  ⟨fun y hy => by rcases List.mem_cons.mp hy with rfl | hy; exact h.ok; exact hs.ok y hy, fun y hy => by rcases List.mem_cons.mp hy with rfl | hy; exact h.ws; exact hs.ws y hy, by
    have := h.blk; have := hs.blk; rw [blksE_cons]; omega⟩
theorem blksE_sub {xs ys : List D} (h : xs.Sublist ys) : blksE xs ≤ blksE ys := by
  induction h with
  | slnil => exact Nat.le_refl _
  | cons a _ ih => rw [blksE_cons]; omega
  | cons_cons a _ ih => rw [blksE_cons, blksE_cons]; omega
theorem blksE_perm {xs ys : List D} (h : xs.Perm ys) : blksE xs = blksE ys := by
  induction h with
  | nil => rfl
  | cons a _ ih => rw [blksE_cons, blksE_cons, ih]
  | swap a b l => rw [blksE_cons, blksE_cons, blksE_cons, blksE_cons]; omega
  | trans _ _ i1 i2 => exact i1.trans i2
theorem BVs.sub {n b : Nat} {xs ys : List D} (h : BVs n b ys) (s : xs.Sublist ys) : BVs n b xs := ⟨fun x hx => h.ok x (s.subset hx), fun x hx => h.ws x (s.subset hx), Nat.le_trans (blksE_sub s) h.blk⟩
theorem BVs.tup {n b : Nat} {xs : List D} (h : BVs n b xs) : BV (n + 1) b (.tup xs) := ⟨by simp only [D.okE]; rw [okEs_all]; exact List.all_eq_true.mpr h.ok, by simp only [D.wsE]; rw [wssE_all]; exact List.all_eq_true.mpr h.ws, by rw [blkE_tup]; exact h.blk⟩
theorem BVs.lst {n b : Nat} {xs : List D} (h : BVs n b xs) : BV (n + 1) b (.lst xs) := ⟨by simp only [D.okE]; rw [okEs_all]; exact List.all_eq_true.mpr h.ok, by simp only [D.wsE]; rw [wssE_all]; exact List.all_eq_true.mpr h.ws, by rw [blkE_lst]; exact h.blk⟩
theorem BV.ofTup {n b : Nat} {xs : List D} (h : BV (n + 1) b (.tup xs)) : BVs n b xs := by
  obtain ⟨a, c, e⟩ := h
  simp only [D.okE] at a
  rw [okEs_all, List.all_eq_true] at a
  simp only [D.wsE] at c
  rw [wssE_all, List.all_eq_true] at c
  rw [blkE_tup] at e
  exact ⟨a, c, e⟩
mutual
theorem okE_mono : ∀ (d : D) {n m : Nat}, n ≤ m → d.okE n = true → d.okE m = true
  | .non, _, _, _, _ => by simp [D.okE]
  | .bl _, _, _, _, _ => by simp [D.okE]
  | .int _, _, _, _, _ => by simp [D.okE]
  | .str _, _, _, _, _ => by simp [D.okE]
  | .tup xs, 0, _, _, h => by simp [D.okE] at h
  | .tup xs, n + 1, 0, l, _ => by omega
  | .tup xs, n + 1, m + 1, l, h => by
    simp only [D.okE] at h ⊢
    exact okEs_mono xs (by omega) h
  | .lst xs, 0, _, _, h => by simp [D.okE] at h
  | .lst xs, n + 1, 0, l, _ => by omega
  | .lst xs, n + 1, m + 1, l, h => by
    simp only [D.okE] at h ⊢
    exact okEs_mono xs (by omega) h
  | .dct _ kvs, n, m, l, h => by
    simp only [D.okE, Bool.and_eq_true, decide_eq_true_eq] at h ⊢
    exact ⟨by omega, h.2⟩
  | .dk, _, _, _, h => by simp [D.okE] at h
theorem okEs_mono : ∀ (xs : List D) {n m : Nat}, n ≤ m → okEs n xs = true → okEs m xs = true
  | [], _, _, _, _ => by simp [okEs]
  | x :: r, n, m, l, h => by
    simp only [okEs, Bool.and_eq_true] at h ⊢
    exact ⟨okE_mono x l h.1, okEs_mono r l h.2⟩
end
theorem BV.mono {n m b c : Nat} {d : D} (h : BV n b d) (l : n ≤ m) (k : b ≤ c) : BV m c d := ⟨okE_mono d l h.ok, h.ws, Nat.le_trans h.blk k⟩
theorem BVs.mono {n m b c : Nat} {d : List D} (h : BVs n b d) (l : n ≤ m) (k : b ≤ c) : BVs m c d := ⟨fun x hx => okE_mono x l (h.ok x hx), h.ws, Nat.le_trans h.blk k⟩
theorem ten130E : (10 : Nat) ^ 130 ≤ 2 ^ 1920 := by
  have h1 : (10 : Nat) ^ 130 ≤ (2 ^ 4) ^ 130 := Nat.pow_le_pow_left (by decide) _
  rw [← Nat.pow_mul] at h1
  exact Nat.le_trans h1 (Nat.pow_le_pow_right (by decide) (by decide))
mutual
theorem wsE_short : ∀ d : D, d.wsE = true → PyData.showable d.pyE = true ∧ PyData.leavesShort 131 d.pyE = true
  | .non, _ => by simp [D.pyE, PyData.showable, PyData.leavesShort]
  | .bl _, _ => by simp [D.pyE, PyData.showable, PyData.leavesShort]
  | .int i, h => by
    have h' : i.natAbs < 10 ^ 130 := of_decide_eq_true (by simpa only [D.wsE] using h)
    simp only [D.pyE, PyData.showable, PyData.leavesShort]
    refine ⟨decide_eq_true ?_, decide_eq_true ?_⟩
    · by_cases hz : i.natAbs = 0
      · rw [hz]; decide
      · exact (Nat.log2_lt hz).mpr (Nat.lt_of_lt_of_le h' ten130E)
    · have e := int_text_length_le10 (k := 130) (by decide) (a := i) h'
      show (Str.ofString (toString i)).length ≤ 131
      rw [PySem.ofString_length]; exact e
  | .str x, h => ⟨by simp [D.pyE, PyData.showable], by simp only [D.pyE, PyData.leavesShort]; simpa only [D.wsE] using h⟩
  | .tup xs, h => by simpa [D.pyE, PyData.showable, PyData.leavesShort] using wssE_short xs (by simpa [D.wsE] using h)
  | .lst xs, h => by simpa [D.pyE, PyData.showable, PyData.leavesShort] using wssE_short xs (by simpa [D.wsE] using h)
  | .dct _ _, h => by simp [D.pyE, PyData.showable, PyData.leavesShort, PyData.showableKv, PyData.leavesShortKv]
  | .dk, h => by simp [D.wsE] at h
theorem wssE_short : ∀ ds : List D, wssE ds = true → PyData.showableAll (pyEs ds) = true ∧ PyData.leavesShortAll 131 (pyEs ds) = true
  | [], _ => by simp [pyEs, PyData.showableAll, PyData.leavesShortAll]
  | x :: r, h => by
    have h' : x.wsE = true ∧ wssE r = true := by simpa [wssE] using h
    have a := wsE_short x h'.1
    have b := wssE_short r h'.2
    simp [pyEs, PyData.showableAll, PyData.leavesShortAll, a, b]
end
theorem BV.shw {n B : Nat} {d : D} (h : BV n B d) (hb : B ≤ 100000) : d.shwE = true := by
  obtain ⟨a, b⟩ := wsE_short d h.ws
  have c := PyData.shown_le_bulk 131 (by decide) d.pyE b
  have hb' : d.pyE.bulk ≤ 100000 := Nat.le_trans h.blk hb
  have e : d.pyE.shown.length ≤ 16777216 := by
    have : (131 + 2) * d.pyE.bulk ≤ (131 + 2) * 100000 := Nat.mul_le_mul_left _ hb'
    omega
  unfold D.shwE
  rw [a, decide_eq_true e]; rfl
theorem BV.rep {n B : Nat} {d : D} (h : BV n B d) (hn : n ≤ 60) (hb : B ≤ 100000) : d.okE 60 = true ∧ d.shwE = true := ⟨okE_mono d hn h.ok, h.shw hb⟩
end DL
namespace SrtO
open PySem PyProof.Rows Srt
section
variable {prog : Program} {w : World} {A : Around} {E : Value → Shared → Prop} {s : Shared}
def IsTI (h : Heap) (v : Value) (ns : List Int) : Prop := ∃ a o us n, v = .ref a ∧ h.get? a = some o ∧ o.cls = .type "tuple" ∧ o.data = .seq us n ∧ IntsAre us.toList ns
theorem IsTI.keeps {h h' : Heap} {v : Value} {ns : List Int} (p : IsTI h v ns) (k : ∀ b o, h.get? b = some o → o.cls = .type "tuple" → h'.get? b = some o) : IsTI h' v ns := by
  obtain ⟨a, o, us, n, e, ho, hc, hd, hi⟩ := p
  exact ⟨a, o, us, n, e, k _ _ ho hc, hc, hd, hi⟩
end
end SrtO
namespace L2
open PySem PySem.Spec PyProof.Rows
section
variable {X : Cx}
end
end L2
namespace DL
open PySem PySem.Spec PyProof.Rows L2
def tD (ns : List Int) : D := .tup (ns.map D.int)
section
variable {X : Cx}
end
end DL
namespace L2
open PySem PySem.Spec PyProof.Rows
section
variable {X : Cx}
end
end L2
namespace DL
open PySem PySem.Spec PyProof.Rows L2
section
variable {X : Cx}
end
end DL
namespace DL
open PySem PySem.Spec PyProof.Rows L2
section
variable {X : Cx}
end
section
variable {K : PySem.W.Frag} {mg : Str → Option Value} {P : Program} {w : World} {base : Heap}
end
section
variable {K : PySem.W.Frag} {h : Heap} {mg : Str → Option Value}
end
end DL
namespace DL
open PySem PySem.Spec PyProof.Rows L2
def ExtP (P : Addr) (H H' : Hp) : Prop := ∀ b o, b ≠ P → H b = some o → H' b = some o
section
variable {X : Cx} {pins : List (Addr × Obj)} {σ : L2.St} {H : Hp} {s : Shared} {T : List (Addr × Str)} {c P : Addr} {q : Str}
end
section
variable {X : Cx} {pins : List (Addr × Obj)} {σ : L2.St} {H : Hp} {s : Shared}
end
section
variable {X : Cx} {T : List (Addr × Str)} {TT : (XK → Hp → VK → Prop) → Hp → VK → Prop} {x a : Str} {g c P : Addr} {k : Nat} {gst : Stmt} {fd : FuncData} {Ng : List Str} {params : Arguments} {body : Expr} {scope : Scope} {t : XK → TE} {p lpos pos : Pos}
end
end DL
namespace DL
open PySem PySem.Spec PyProof.Rows L2
abbrev Suite := Addr → Value → Option Addr → TS
inductive Cl (X : Cx) (n : Str) : List ExceptHandler → List (Value × Suite) → Prop
  | nil : Cl X n [] []
  | cons {x : Str} {c : Value} {t : Suite} {st : Stmt} {more : List Stmt} {p1 p2 : Pos} {hds : List ExceptHandler} {l : List (Value × Suite)} : Names X x c →
      (∀ (a : Addr) (oe : Obj) (cls : Value) (d : Option Addr) (pn : List (Addr × Obj)), Zc cls d oe → (∃ vs, oe.data = .fields vs) → PSs (X.suite a ((a, oe) :: pn)) (st :: more) (t a cls d)) → Cl X n hds l →
      Cl X n (.ExceptHandler (some (.Name x p1)) (some n) (st :: more) p2 :: hds) ((c, t) :: l)
section
variable {X : Cx} {body : List Stmt} {h0 : ExceptHandler} {hds : List ExceptHandler} {l : List (Value × Suite)} {pos : Pos} {tb : WX → TS} {out : WX} {n : Str} {i : Nat}
end
end DL
namespace DL
open PySem PySem.Spec PyProof.Rows L2
inductive ToldCl (prog : Program) (K : PySem.W.Frag) (mg : Str → Option Value) (sg : Scope) : List ExceptHandler → List (Str × Str) → Prop
  | nil : ToldCl prog K mg sg [] []
  | cons {nm tag fl : Str} {j : Nat} {np p1 p2 p3 p4 p5 p6 : Pos} {hds : List ExceptHandler} {l : List (Str × Str)} : ErrC prog K mg nm → sg.names.lookup nm = some .globalImplicit → fieldOf nm = fl →
      (∀ p ∈ l, ∀ C D, mg p.1 = some C → mg nm = some D → PySem.W.exmOne K C D = some false) → ToldCl prog K mg sg hds l →
      ToldCl prog K mg sg (.ExceptHandler (some (.Name nm np)) (some "error") [.Return (some (.List [.Constant (.str tag) j p1, .Attribute (.Name "error" p2) fl p3] p4)) p5] p6 :: hds) ((nm, tag) :: l)
section
variable {X : Cx} {Ng : List Str} {x a q ok : Str} {sg : Scope} {g : Addr} {cdg : Value} {hds : List ExceptHandler} {l : List (Str × Str)}
end
end DL
namespace DL
open PySem PySem.Spec PyProof.Rows L2
theorem Rl.tab {g : Gh} {δ : DS} {σ : L2.St} {H F H1 : Hp} {P : Addr} {q : Str} (R : Rl g δ σ H F) (K1 : ExtP P H H1) (hP : (P, q) ∈ TabT.T) (T1 : LamX.Tabs TabT.T H1) : Rl g δ σ H1 F := by
  have dP : isDk g.dk P := .inr ⟨q, hP⟩
  obtain ⟨t, eP, _⟩ := R.ext.dko.tabs _ hP
  simp only at eP
  have nlst : ∀ {b : Addr} {xs : List V}, H b = some (.lst xs) → b ≠ P := fun e z => by
    rw [z, eP] at e; cases e
  refine ⟨⟨R.ext.old, fun a o e => K1 a o (fun z => ?_) (R.ext.sub a o e), fun a o e n => K1 a o (fun z => n (z ▸ dP)) (R.ext.base a o e n), R.ext.new, R.ext.fdk, R.ext.bdk, fun a0 a1 a2 e => ?_, T1⟩, R.len, R.val, fun i c e => ?_, R.dif⟩
  · subst z
    rw [R.ext.fdk _ dP] at e; cases e
  · obtain ⟨bigs, cells, c, h0, h1, h2, r⟩ := R.ext.dko.deck a0 a1 a2 e
    exact ⟨bigs, cells, c, K1 _ _ (nlst h0) h0, K1 _ _ (nlst h1) h1, K1 _ _ (nlst h2) h2, r⟩
  · obtain ⟨p, o, e1, hp, r, hf, hb⟩ := R.own i c e
    refine ⟨p, o, e1, K1 _ _ (fun z => ?_) hp, r, hf, hb⟩
    subst z
    exact R.ext.bdk _ dP hb
def dTold (ok : Str) (l : List (Str × Str)) (te : EXs → DE) : DE := fun δ Q => te (fun c d δ' => ∃ tag, l.lookup c = some tag ∧ Q (.lst [.str tag, d]) δ') δ fun d δ' => Q (.lst [.str ok, d]) δ'
section
variable {X : Cx} {x y ok : Str} {l : List (Str × Str)} {gst : Stmt} {c P : Addr} {k j : Nat} {ps : List Str} {sp : DSpX} {params : Arguments} {scope : Scope} {e : Expr} {es : List Expr} {a : DA} {h0 : ExceptHandler} {hds : List ExceptHandler} {p p1 p2 p3 p4 p5 p6 py pc lpos pos : Pos}
end
theorem ev_Told (ok : Str) (l : List (Str × Str)) (te : EXs → DE) (δ : DS) (Q) : dTold ok l te δ Q = te (fun c d δ' => ∃ tag, l.lookup c = some tag ∧ Q (.lst [.str tag, d]) δ') δ fun d δ' => Q (.lst [.str ok, d]) δ' := rfl
end DL
namespace DL
open PySem PySem.Spec PyProof.Rows L2
section
open PySem.W
variable {K : Frag} {h : Heap} {mg : Str → Option Value}
end
section
variable {P : Program} {w : World} {K : PySem.W.Frag} {mg : Str → Option Value} {base : Heap}
end
end DL
namespace DL
open PySem PySem.Spec PyProof.Rows L2
structure SameR (F F' : Hp) : Prop where
  tup : ∀ a xs, F a = some (.tup xs) → F' a = some (.tup xs)
  lst : ∀ a xs, F a = some (.lst xs) → F' a = some (.lst xs)
  dK : ∀ a xs, Rd F a (.dK xs) → Rd F' a (.dK xs)
  dT : ∀ a xs, Rd F a (.dT xs) → Rd F' a (.dT xs)
section
variable {k : Dk} {F F' : Hp}
end
section
variable {F : Hp} {d : Addr} {ks : List (Key × V)} {od : Obj}
end
section
variable {g : Gh} {δ δ' : DS} {σ σ' : L2.St} {H F H2 F2 : Hp} {d : Addr} {ks : List (Key × V)} {od : Obj}
end
def asDK (d : D) (K : List (D × D) → Prop) : Prop := ∃ kvs, d = .dct false kvs ∧ K kvs
theorem asDK_e (kvs : List (D × D)) (K) : asDK (.dct false kvs) K = K kvs := by
  unfold asDK; apply propext
  exact ⟨fun ⟨k, e, q⟩ => by cases e; exact q, fun q => ⟨_, rfl, q⟩⟩
def dCompK (i : Nat) (p : Pat) (tt : DT) (te : DE) (vs : List Nat) : DL' := fun δ Q => dVar i δ fun d δ1 => asDK d fun kvs => dCompL p tt te vs (fun acc δ2 => Q (.l acc) (restore δ1 δ2 vs)) (kvs.map (·.1)) (wipeD δ1 vs) []
section
variable {X : Cx} {pos : Pos} {elt tg : Expr} {ifs : List Expr} {scope : Scope} {own : List (Str × Nat)} {vs : List Nat} {p : Pat} {tt : DT} {te : DE} {i : Nat} {x : Str} {px : Pos}
end
theorem evk_CompK (i : Nat) (p : Pat) (tt : DT) (te : DE) (vs : List Nat) (δ : DS) (Q) : dCompK i p tt te vs δ Q = getS δ i fun s => asDK s.top fun kvs => dCompL p tt te vs (KC Q (frzS δ i s) vs .mk) (kvs.map (·.1)) (wipeD (frzS δ i s) vs) [] := rfl
end DL
namespace DL
open PySem PySem.Spec PyProof.Rows L2
section
variable {X : Cx} {pos : Pos} {a b c d : Expr} {ta tb tc td : TE}
end
def dChain3 (p q r : Int → Int → Bool) (a b c d : DE) : DE := fun δ Q => a δ fun x δ1 => ∃ i, x = .int i ∧ b δ1 fun y δ2 => ∃ j, y = .int j ∧
  if p i j = true then c δ2 fun z δ3 => ∃ k, z = .int k ∧ (if q j k = true then d δ3 fun w δ4 => ∃ m, w = .int m ∧ Q (.bl (r k m)) δ4 else Q (.bl false) δ3) else Q (.bl false) δ2
theorem ev_Chain3 (p q r : Int → Int → Bool) (a b c d : DE) (δ : DS) (Q) : dChain3 p q r a b c d δ Q = a δ fun x δ1 => asInt x fun i => b δ1 fun y δ2 => asInt y fun j =>
    ifK (p i j) (c δ2 fun z δ3 => asInt z fun k => ifK (q j k) (d δ3 fun w δ4 => asInt w fun m => Q (.bl (r k m)) δ4) (Q (.bl false) δ3)) (Q (.bl false) δ2) := rfl
end DL
namespace DL
open PySem PySem.Spec PyProof.Rows L2
structure LamK (sc scope : Scope) (x a : Str) : Prop where
  kind : scope.kind = .function
  co : scope.isCoroutine = false
  gen : scope.isGenerator = false
  nocell : ∀ y ∈ scope.names, y.2 ≠ .cell
  par : scope.names.lookup a = some .local
  got : scope.names.lookup x = some .free
  free : ∀ y ∈ scope.names, y.2 = .free → sc.names.lookup y.1 = some .cell ∨ sc.names.lookup y.1 = some .free
section
variable {X : Cx} {pins : List (Addr × Obj)} {σ : L2.St} {H : Hp} {s : Shared}
end
end DL
namespace DL
open PySem PySem.Spec PyProof.Rows L2
abbrev kvI (p : List Int × Int) : D × D := (tD p.1, .int p.2)
def dSortK (i : Nat) : DE := fun δ Q => ∃ kvs : List (List Int × Int), δ[i]? = some (some (.own (.d true (kvs.map kvI)))) ∧ (kvs.map (·.1)).Nodup ∧
  ∀ l : List (List Int × Int), l.Perm kvs → l.Pairwise (fun a b => a.2 ≤ b.2) → Q (.lst (l.map fun p => tD p.1)) δ
section
variable {X : Cx}
end
end DL
namespace DL
theorem ev_SortK (i : Nat) (δ : DS) (Q) : dSortK i δ Q = ∃ kvs : List (List Int × Int), δ[i]? = some (some (.own (.d true (kvs.map kvI)))) ∧ (kvs.map (·.1)).Nodup ∧
  ∀ l : List (List Int × Int), l.Perm kvs → l.Pairwise (fun a b => a.2 ≤ b.2) → Q (.lst (l.map fun p => tD p.1)) δ := rfl
end DL
namespace DL
open PySem PySem.Spec PyProof.Rows L2
section
variable {F : Hp} {d : Addr} {ks : List (List L2.Key × V)} {od : Obj}
end
section
variable {g : Gh} {δ δ' : DS} {σ σ' : L2.St} {H F H2 F2 : Hp} {d : Addr} {ks : List (List L2.Key × V)} {od : Obj}
end
def asDT (d : D) (K : List (D × D) → Prop) : Prop := ∃ kvs, d = .dct true kvs ∧ K kvs
theorem asDT_e (kvs : List (D × D)) (K) : asDT (.dct true kvs) K = K kvs := by
  unfold asDT; apply propext
  exact ⟨fun ⟨k, e, q⟩ => by cases e; exact q, fun q => ⟨_, rfl, q⟩⟩
def dCompKT (i : Nat) (p : Pat) (tt : DT) (te : DE) (vs : List Nat) : DL' := fun δ Q => dVar i δ fun d δ1 => asDT d fun kvs => dCompL p tt te vs (fun acc δ2 => Q (.l acc) (restore δ1 δ2 vs)) (kvs.map (·.1)) (wipeD δ1 vs) []
section
variable {X : Cx} {pos : Pos} {elt tg : Expr} {ifs : List Expr} {scope : Scope} {own : List (Str × Nat)} {vs : List Nat} {p : Pat} {tt : DT} {te : DE} {i : Nat} {x : Str} {px : Pos}
end
theorem evk_CompKT (i : Nat) (p : Pat) (tt : DT) (te : DE) (vs : List Nat) (δ : DS) (Q) : dCompKT i p tt te vs δ Q = getS δ i fun s => asDT s.top fun kvs => dCompL p tt te vs (KC Q (frzS δ i s) vs .mk) (kvs.map (·.1)) (wipeD (frzS δ i s) vs) [] := rfl
end DL
namespace DL
open PySem PySem.Spec PyProof.Rows L2
section
variable {X : Cx} {pins : List (Addr × Obj)} {σ : L2.St} {H : Hp} {s : Shared}
end
end DL
namespace DL
open PySem PySem.Spec PyProof.Rows L2
def dSetPL (ps : List Pat) (te : DE) : DSm := fun E δ => te δ fun d δ' => asLst d fun ds => dPats ps ds δ' E.nx
section
variable {X : Cx} {pos tpos : Pos}
end
theorem ev_SetPL (ps : List Pat) (t : DE) (E : DEnds) (δ : DS) : dSetPL ps t E δ = t δ fun d δ' => asLst d fun ds => dPats ps ds δ' E.nx := rfl
end DL
namespace DL
open PySem PySem.Spec PyProof.Rows L2
def BindsK (fd : FuncData) (a b : Str) : Prop := ∀ (s : Shared) (u w : Value), BindsTo s fd ⟨[], [(b, w), (a, u)]⟩ [(a, u), (b, w)]
structure FnW (P : Program) (w : World) (K : PySem.W.Frag) (mg : Str → Option Value) (base : Heap) (k : Nat) (x a b : Str) (sp : DSp) : Prop where
  ex : ∃ f fd, mg x = some (.ref f) ∧ PySem.W.keepIn K (.ref f) = true ∧ Binds K fd [a, b] [] ∧ BindsK fd a b ∧ FnG P w K mg base CX0 k f fd [a, b] (LSp sp)
  ms : MonoSp sp
section
variable {P : Program} {w : World} {K : PySem.W.Frag} {mg : Str → Option Value} {base : Heap} {k : Nat} {x a b : Str} {sp : DSp}
theorem FnW.fn (G : FnW P w K mg base k x a b sp) : Fn P w K mg base k x [a, b] sp := by
  obtain ⟨f, fd, h1, h2, h3, _, h5⟩ := G.ex
  exact ⟨⟨f, fd, h1, h2, h3, h5⟩, G.ms⟩
end
def dCallSw (sp : DSp) (tb ta : DE) : DE := fun δ Q => tb δ fun y δ1 => ta δ1 fun x δ2 => sp [x, y] fun d => Q d δ2
section
variable {X : Cx} {pos p pa pb : Pos} {k : Nat} {x a b : Str} {sp : DSp} {ea eb : Expr} {ta tb : DE}
end
theorem ev_CallSw (sp : DSp) (tb ta : DE) (δ : DS) (Q) : dCallSw sp tb ta δ Q = tb δ fun y δ1 => ta δ1 fun x δ2 => callK sp [x, y] (fun d => Q d δ2) .mk := rfl
end DL
namespace DL
open PySem PySem.Spec PyProof.Rows L2
section
variable {X : Cx} {pos : Pos}
end
def dIndexT (to : DE) : DE := fun δ Q => to δ fun x δ1 => ∃ (j : Nat) (bs : List Bool), x = .lst (bs.map D.bl) ∧ bs[j]? = some true ∧ (∀ m : Nat, m < j → bs[m]? ≠ some true) ∧ Q (.int (j : Nat)) δ1
section
variable {X : Cx} {o : Expr} {to : DE} {apos cpos : Pos} {j1 p1 : _}
end
theorem ev_IndexT (to : DE) (δ : DS) (Q) : dIndexT to δ Q = to δ fun x δ1 => ∃ (j : Nat) (bs : List Bool), x = .lst (bs.map D.bl) ∧ bs[j]? = some true ∧ (∀ m : Nat, m < j → bs[m]? ≠ some true) ∧ Q (.int (j : Nat)) δ1 := rfl
end DL
namespace SrtO
open PySem PyProof.Rows Srt
section
variable {prog : Program} {w : World} {A : Around} {E : Value → Shared → Prop} {s : Shared}
end
end SrtO
namespace L2
open PySem PySem.Spec PyProof.Rows
section
variable {X : Cx}
end
end L2
namespace DL
open PySem PySem.Spec PyProof.Rows L2
section
variable {X : Cx}
end
end DL
namespace PySem.W
open PySem PySem.Spec PySem.Calls PyProof.Rows
section
variable {prog : Program} {w : World} {A : Around} {E : Value → Shared → Prop} {s : Shared} {K : Frag} {x D : Addr} {ox : Obj} {od : Option Obj}
end
end PySem.W
namespace L2
open PySem PySem.Spec PyProof.Rows
end L2
namespace DL
open PySem PySem.Spec PyProof.Rows L2
structure IsI (K : PySem.W.Frag) (mg : Str → Option Value) (nm : Str) : Prop where
  ex : ∃ C, mg nm = some (.ref C) ∧ ExcC K C
def IsO (K : PySem.W.Frag) (mg : Str → Option Value) (nm c2 : Str) (b : Bool) : Prop := ∃ C C2, mg nm = some (.ref C) ∧ mg c2 = some (.ref C2) ∧ PySem.W.kitOne K (.ref C) (.ref C2) = some b
def SubE (K : PySem.W.Frag) (mg : Str → Option Value) (nm base : Str) : Prop := ∃ C B, mg nm = some (.ref C) ∧ mg base = some (.ref B) ∧ PySem.W.exmOne K (.ref C) (.ref B) = some true
section
variable {X : Cx} {nm n c2 : Str} {i : Nat} {p p1 p2 pos : Pos} {aE : Addr} {oe : Obj} {cls : Value} {dd : Option Addr} {pn : List (Addr × Obj)} {d : D} {b : Bool}
end
abbrev Alts := List (Str × (D → DSm))
def altK : Alts → Str → D → (DSm → Prop) → Prop
  | [], _, _, _ => False
  | (n, f) :: r, c, d, K => (c = n ∧ K (f d)) ∨ (c ≠ n ∧ altK r c d K)
def dTryA (i : Nat) (alts : Alts) (tb : EXs → DSm) : DSm := fun E δ => tb (fun c d δ' => i < δ'.length ∧ altK alts c d fun h => h (endsW i E) (δ'.set i none)) E δ
def altGet : Alts → Str → D → DSm
  | [], _, _ => fun _ _ => False
  | (n, f) :: r, c, d => if c = n then f d else altGet r c d
section
variable {X : Cx} {x n : Str} {i : Nat} {body suite : List Stmt} {b₀ : Stmt} {np pos pos' : Pos} {tb : EXs → DSm} {al : Alts}
inductive AltsOk (X : Cx) (i : Nat) (x : Str) (st : List Stmt) : Alts → Prop
  | nil : AltsOk X i x st []
  | cons {nm : Str} {f : D → DSm} {r : Alts} : SubE X.K X.mg nm x →
      (∀ (a : Addr) (oe : Obj) (cls : Value) (dd : Option Addr) (pn : List (Addr × Obj)), Zc cls dd oe → (∃ vs, oe.data = .fields vs) → X.mg nm = some cls → ∀ d, PSSs (X.suite a ((a, oe) :: pn)) (SErr a dd i nm d) st (f d)) →
      AltsOk X i x st r → AltsOk X i x st ((nm, f) :: r)
theorem AltsOk.get {st : List Stmt} (h : AltsOk X i x st al) : ∀ c, (∃ f, (c, f) ∈ al) → SubE X.K X.mg c x ∧ ∀ (a : Addr) (oe : Obj) (cls : Value) (dd : Option Addr) (pn : List (Addr × Obj)), Zc cls dd oe → (∃ vs, oe.data = .fields vs) → X.mg c = some cls → ∀ d, PSSs (X.suite a ((a, oe) :: pn)) (SErr a dd i c d) st (altGet al c d) := by
  induction h with
  | nil => rintro c ⟨f, hf⟩; cases hf
  | @cons nm f r h1 h2 h3 ih =>
    rintro c ⟨g, hg⟩
    by_cases e : c = nm
    · subst e
      refine ⟨h1, fun a oe cls dd pn hz hv hc d => ?_⟩
      unfold altGet; rw [if_pos rfl]
      exact h2 a oe cls dd pn hz hv hc d
    · obtain ⟨i1, i2⟩ := ih c ⟨g, (List.mem_cons.mp hg).resolve_left fun z => e (Prod.mk.inj z).1⟩
      refine ⟨i1, fun a oe cls dd pn hz hv hc d => ?_⟩
      unfold altGet; rw [if_neg e]
      exact i2 a oe cls dd pn hz hv hc d
end
theorem ev_TryA (i : Nat) (al : Alts) (tb : EXs → DSm) (E : DEnds) (δ : DS) : dTryA i al tb E δ = tb (fun c d δ' => i < δ'.length ∧ altK al c d fun h => h (endsW i E) (δ'.set i none)) E δ := rfl
end DL
namespace DL
open PySem PySem.Spec PyProof.Rows L2
section
open PySem.W
variable {K : Frag} {h : Heap} {mg : Str → Option Value} {nm c2 : Str} {C B : Addr} {b : Bool}
end
end DL
namespace DL
open PySem PySem.Spec PyProof.Rows L2
def LIS (S : GS) (g : Gh) (t : DI) : TI := fun σ H R => ∃ δ F, Rl g δ σ H F ∧ S g σ F ∧ t δ (RQI g σ F R)
structure PIdS (X : Cx) (S : GS) (tg it : Expr) (t : DI) : Prop where
  mono : MonoE t
  run : ∀ g, PI X tg it (LIS S g t)
section
variable {X : Cx} {S : GS} {tg : Expr}
end
section
end
section
variable {X : Cx} {S : GS} {pos : Pos} {elt tg iter : Expr} {ifs : List Expr} {scope : Scope} {own : List (Str × Nat)} {vs : List Nat} {ti : DI} {p : Pat} {tt : DT} {te : DE}
end
section
variable {X : Cx} {S : GS} {pos p : Pos} {e : Expr} {te : DE} {x : Str} {id : String} {u : DUn}
end
end DL
namespace DL
open PySem PySem.Spec PyProof.Rows L2
section
variable {X : Cx}
end
end DL
namespace DL
open PySem PySem.Spec PyProof.Rows L2
structure Told3 (prog : Program) (K : PySem.W.Frag) (mg : Str → Option Value) (sg : Scope) (nm c1 : Str) : Prop where
  e : ErrC prog K mg nm
  i : IsI K mg nm
  o : IsO K mg nm c1 true
  g : sg.names.lookup nm = some .globalImplicit
  g1 : sg.names.lookup c1 = some .globalImplicit
  gi : sg.names.lookup (Str.ofString "isinstance") = some .globalImplicit
  gv : sg.names.lookup (Str.ofString "ValueError") = some .globalImplicit
  mi : mg "isinstance" = none
  mv : mg "ValueError" = none
  d1 : (c1 == ("__debug__" : Str)) = false
section
variable {X : Cx} {x a q ok nm c1 tag fl : Str} {sg : Scope} {g : Addr} {cdg : Value} {j1 : Nat} {np p1 p2 p3 p4 p5 p6 q1 q2 q3 q4 q5 q6 q7 q8 q9 : Pos}
end
structure FnXK (P : Program) (w : World) (K : PySem.W.Frag) (mg : Str → Option Value) (base : Heap) (k : Nat) (x b : Str) (sp : DSpX) : Prop where
  ex : ∃ f fd, mg x = some (.ref f) ∧ PySem.W.keepIn K (.ref f) = true ∧ Binds K fd [b] [] ∧ (∀ (s : Shared) (u : Value), BindsTo s fd ⟨[], [(b, u)]⟩ [(b, u)]) ∧ FnG P w K mg base (L2.CX P w) k f fd [b] (LSpX mg sp)
  ms : MonoSpX sp
theorem FnXK.x {P : Program} {w : World} {K : PySem.W.Frag} {mg : Str → Option Value} {base : Heap} {k : Nat} {x b : Str} {sp : DSpX} (G : FnXK P w K mg base k x b sp) : FnX P w K mg base k x [b] sp := by
  obtain ⟨f, fd, h1, h2, h3, _, h5⟩ := G.ex
  exact ⟨⟨f, fd, h1, h2, h3, h5⟩, G.ms⟩
section
variable {P : Program} {w : World} {K : PySem.W.Frag} {mg : Str → Option Value} {base : Heap} {k : Nat} {x b : Str} {sp : DSpX}
end
section
variable {X : Cx} {W : WX} {k : Nat} {x b : Str} {p pb pos : Pos} {eb : Expr} {te : TE}
end
def dTold3 (ok nm tag : Str) (te : EXs → DE) : DE := fun δ Q => te (fun c d δ' => c = nm ∧ Q (.lst [.str tag, d, .bl true]) δ') δ fun d δ' => Q (.lst [.str ok, d]) δ'
section
variable {X : Cx} {x y ok nm c1 tag b : Str} {gst : Stmt} {c P : Addr} {k j j1 : Nat} {ps : List Str} {sp : DSpX} {params : Arguments} {scope : Scope} {e : Expr} {es : List Expr} {a : DA} {ta : DE} {p py pc pb lpos pos m1 m2 m3 m4 m5 m6 np p1 p2 p3 p4 p5 p6 q1 q2 q3 q4 q5 q6 q7 q8 q9 : Pos}
end
theorem ev_Told3 (ok nm tag : Str) (te : EXs → DE) (δ : DS) (Q) : dTold3 ok nm tag te δ Q = te (fun c d δ' => c = nm ∧ Q (.lst [.str tag, d, .bl true]) δ') δ fun d δ' => Q (.lst [.str ok, d]) δ' := rfl
def dInsert (i : Nat) (ti te : DE) : DE := fun δ Q => ownL δ i fun _ => ti δ fun d δ1 => asInt d fun k => te δ1 fun y δ2 => ownL δ2 i fun ds => ds.length < sizeLine ∧ 0 ≤ k ∧ k < 2 ^ 63 ∧ Q .non (δ2.set i (some (.own (.l (ds.take k.toNat ++ [y] ++ ds.drop k.toNat)))))
section
variable {X : Cx} {e1 e2 : Expr} {ti te : DE} {i : Nat} {x : Str} {p apos cpos : Pos}
end
theorem ev_Insert (i : Nat) (ti te : DE) (δ : DS) (Q) : dInsert i ti te δ Q = ownL δ i fun _ => ti δ fun d δ1 => asInt d fun k => te δ1 fun y δ2 => ownL δ2 i fun ds => ds.length < sizeLine ∧ 0 ≤ k ∧ k < 2 ^ 63 ∧ Q .non (δ2.set i (some (.own (.l (ds.take k.toNat ++ [y] ++ ds.drop k.toNat))))) := rfl
end DL
namespace DL
open PySem PySem.Spec PyProof.Rows L2
section
variable {X : Cx} {pins : List (Addr × Obj)} {σ : L2.St} {H : Hp} {s : Shared}
end
end DL
namespace DL
open PySem PySem.Spec PyProof.Rows L2
section
variable {P : Program} {w : World} {K : PySem.W.Frag} {mg : Str → Option Value} {base : Heap}
end
end DL
namespace DL
open PySem PySem.Spec PyProof.Rows L2
theorem line_size {n : Nat} (h : n ≤ 16777216) : n ≤ sizeLine := by rw [sizeLine_eq]; exact h
def asStr (d : D) (K : Str → Prop) : Prop := ∃ z, d = .str z ∧ K z
theorem asStr_s (z : Str) (K : Str → Prop) : asStr (.str z) K = K z := by unfold asStr; simp
def signsD (z : Str) : List D := z.cps.toList.map fun c => .str ⟨#[c]⟩
def dStrI (t : DE) : DI := fun δ Q => t δ fun d δ' => asStr d fun z => Q (signsD z) δ'
section
variable {X : Cx} {tg : Expr}
theorem pid_str {e : Expr} {t : DE} (h : PV X e t) : PId X tg e (dStrI t) := by
  refine ⟨fun δ Q Q' k q => h.mono _ _ _ (fun d δ' ⟨z, e, q⟩ => ⟨z, e, k _ _ q⟩) q, fun g => PI.mono (pi_str (h.run g)) fun σ H R ⟨δ, F, R0, q⟩ => ⟨δ, F, R0, h.mono _ _ _ (fun d δ' ⟨z, e, q⟩ v H1 F1 s1 R1 r => ?_) q⟩⟩
  subst e
  cases r
  refine ⟨z, rfl, q _ H1 F1 s1 R1 ⟨fun i H hi s => ?_, fun H s => ?_, fun i H x H2 hi s y => ?_⟩⟩
  · simpa [signsD, Its] using hi
  · simp [signsD, Its]
  · obtain ⟨e2, c, h1, rfl⟩ := y
    refine ⟨.str ⟨#[c]⟩, ?_, .inl ⟨e2, .str _⟩⟩
    unfold signsD
    rw [List.getElem?_map, Array.getElem?_toList, h1]; rfl
end
theorem ev_StrI (t : DE) (δ : DS) (Q) : dStrI t δ Q = t δ fun d δ' => asStr d fun z => Q (signsD z) δ' := rfl
theorem rps_strs {k : Dk} {F : Hp} : ∀ ys : List Str, Rps k F (ys.map V.str) (ys.map D.str)
  | [] => .nil
  | y :: r => .cons (.str y) (rps_strs r)
theorem rps_strs_of {k : Dk} {F : Hp} : ∀ {ys : List Str} {vs : List V}, Rps k F vs (ys.map D.str) → vs = ys.map V.str
  | [], _, h => by cases h; rfl
  | y :: r, _, h => by
    cases h with
    | cons a b => cases a; rw [rps_strs_of b]; rfl
def dSplit (to te : DE) : DL' := fun δ Q => to δ fun d δ1 => asStr d fun a => te δ1 fun d2 δ2 => asStr d2 fun b => (b.length == 0) = false ∧ a.length + 2 ≤ 16777216 ∧ Q (.l ((Txt.split a b).map D.str)) δ2
def dJoin (to te : DE) : DE := fun δ Q => to δ fun d δ1 => asStr d fun a => te δ1 fun d2 δ2 => ∃ ys : List Str, seqOf d2 = some (ys.map D.str) ∧ (ys.map (·.length)).sum + ys.length * a.length ≤ 16777216 ∧ Q (.str (Txt.join a ys)) δ2
def dCountS (to te : DE) : DE := fun δ Q => to δ fun d δ1 => asStr d fun a => te δ1 fun d2 δ2 => asStr d2 fun b => Q (.int (Txt.count a b)) δ2
def dStartS (to te : DE) : DE := fun δ Q => to δ fun d δ1 => asStr d fun a => te δ1 fun d2 δ2 => asStr d2 fun b => Q (.bl (Txt.startswith a b)) δ2
section
variable {X : Cx} {o e : Expr} {to te : DE} {apos pos : Pos}
theorem pl_split (ho : PV X o to) (he : PV X e te) (hs : starEach [e] X.env = [(false, eval e X.env)] := by rfl) (hbase : attributeBase o "split" X.env (eval o X.env) = eval o X.env := by rfl) (hline : (apos.endLine == pos.line) = true := by rfl) :
    PL X (.Call (.Attribute o "split" apos) [e] [] pos) (dSplit to te) := by
  refine ⟨fun δ Q Q' k q => ho.mono _ _ _ (fun d δ1 ⟨a, ea, q⟩ => ⟨a, ea, he.mono _ _ _ (fun d2 δ2 ⟨b, eb, h1, h2, q⟩ => ⟨b, eb, h1, h2, k _ _ q⟩) q⟩) q, fun g => PE.mono (pe_split (ho.run g) (he.run g) hs hbase hline) fun σ H Q ⟨δ, F, R, q⟩ => ⟨δ, F, R, ho.mono _ _ _ (fun d δ1 ⟨a, ea, q⟩ v H1 F1 s1 R1 r1 => ?_) q⟩⟩
  subst ea
  cases r1
  refine ⟨⟨a, rfl⟩, δ1, F1, R1, he.mono _ _ _ (fun d2 δ2 ⟨b, eb, h1, h2, q⟩ u H2 F2 s2 R2 r2 => ?_) q⟩
  subst eb
  cases r2
  exact ⟨a, b, rfl, rfl, h1, line_size h2, fun p hp => rl_own R2 (rps_strs _) hp (RQL.weak (s1.trans s2) q)⟩
theorem pv_join (ho : PV X o to) (he : PV X e te) (hs : starEach [e] X.env = [(false, eval e X.env)] := by rfl) (hbase : attributeBase o "join" X.env (eval o X.env) = eval o X.env := by rfl) (hline : (apos.endLine == pos.line) = true := by rfl) :
    PV X (.Call (.Attribute o "join" apos) [e] [] pos) (dJoin to te) := by
  refine ⟨fun δ Q Q' k q => ho.mono _ _ _ (fun d δ1 ⟨a, ea, q⟩ => ⟨a, ea, he.mono _ _ _ (fun d2 δ2 ⟨b, eb, h1, q⟩ => ⟨b, eb, h1, k _ _ q⟩) q⟩) q, fun g => PE.mono (pe_join (ho.run g) (he.run g) hs hbase hline) fun σ H Q ⟨δ, F, R, q⟩ => ⟨δ, F, R, ho.mono _ _ _ (fun d δ1 ⟨a, ea, q⟩ v H1 F1 s1 R1 r1 => ?_) q⟩⟩
  subst ea
  cases r1
  refine ⟨⟨a, rfl⟩, δ1, F1, R1, he.mono _ _ _ (fun d2 δ2 ⟨ys, eb, h1, q⟩ u H2 F2 s2 R2 r2 => ?_) q⟩
  obtain ⟨p, xs, rfl, rr, hh⟩ := Rp.seq (K := X.K) r2 eb R2.ext.sub
  have ex := rps_strs_of rr
  subst ex
  refine ⟨a, p, ys, rfl, rfl, ?_, h1, q _ H2 F2 (s1.trans s2) R2 (.str _)⟩
  rcases hh with ⟨hF, _⟩ | ⟨hF, _⟩
  · exact .inl (.of (R2.ext.sub _ _ hF))
  · exact .inr (.of (R2.ext.sub _ _ hF))
end
def asStrs (d : D) (K : List Str → Prop) : Prop := ∃ ys : List Str, seqOf d = some (ys.map D.str) ∧ K ys
theorem strs_inj {xs ys : List Str} (h : xs.map D.str = ys.map D.str) : xs = ys := (List.map_inj_right (fun _ _ h => D.str.inj h)).mp h
theorem asStrs_l (ys : List Str) (K : List Str → Prop) : asStrs (.lst (ys.map D.str)) K = K ys := by
  unfold asStrs; apply propext
  exact ⟨fun ⟨zs, e, h⟩ => by rw [strs_inj (Option.some.inj e)]; exact h, fun h => ⟨ys, rfl, h⟩⟩
theorem asStrs_t (ys : List Str) (K : List Str → Prop) : asStrs (.tup (ys.map D.str)) K = K ys := by
  unfold asStrs; apply propext
  exact ⟨fun ⟨zs, e, h⟩ => by rw [strs_inj (Option.some.inj e)]; exact h, fun h => ⟨ys, rfl, h⟩⟩
theorem ev_Split (to te : DE) (δ : DS) (Q) : dSplit to te δ Q = to δ fun d δ1 => asStr d fun a => te δ1 fun d2 δ2 => asStr d2 fun b => (b.length == 0) = false ∧ a.length + 2 ≤ 16777216 ∧ Q (.l ((Txt.split a b).map D.str)) δ2 := rfl
theorem ev_Join (to te : DE) (δ : DS) (Q) : dJoin to te δ Q = to δ fun d δ1 => asStr d fun a => te δ1 fun d2 δ2 => asStrs d2 fun ys => (ys.map (·.length)).sum + ys.length * a.length ≤ 16777216 ∧ Q (.str (Txt.join a ys)) δ2 := rfl
theorem ev_CountS (to te : DE) (δ : DS) (Q) : dCountS to te δ Q = to δ fun d δ1 => asStr d fun a => te δ1 fun d2 δ2 => asStr d2 fun b => Q (.int (Txt.count a b)) δ2 := rfl
theorem ev_StartS (to te : DE) (δ : DS) (Q) : dStartS to te δ Q = to δ fun d δ1 => asStr d fun a => te δ1 fun d2 δ2 => asStr d2 fun b => Q (.bl (Txt.startswith a b)) δ2 := rfl
def opFmt : DUn
  | .str z, K => z.length ≤ 16777216 ∧ K (.str z)
  | .int i, K => i.natAbs.log2 < 1920 ∧ K (.str ((toString i : String) : Str))
  | _, _ => False
def dFmt (te : DE) : DE := fun δ Q => te δ fun d δ' => opFmt d fun r => Q r δ'
section
variable {X : Cx} {pos : Pos}
theorem pv_fmt {e : Expr} {te : DE} (he : PV X e te) : PV X (.FormattedValue e (-1) none pos) (dFmt te) := by
  refine ⟨fun δ Q Q' k q => he.mono _ _ _ (fun d δ' q => ?_) q, fun g => PE.mono (pe_fmt (he.run g)) fun σ H Q ⟨δ, F, R, q⟩ => ⟨δ, F, R, he.mono _ _ _ (fun d δ' q v H1 F1 s1 R1 r => ?_) q⟩⟩
  · cases d <;> first | exact q.elim | exact ⟨q.1, k _ _ q.2⟩
  · cases d <;> first | exact q.elim | skip
    · cases r
      exact .inr ⟨_, rfl, q.1, q.2 _ H1 F1 s1 R1 (.str _)⟩
    · cases r
      exact .inl ⟨_, rfl, line_size q.1, q.2 _ H1 F1 s1 R1 (.str _)⟩
inductive PJd (X : Cx) : List Expr → List DE → Prop where
  | nil : PJd X [] []
  | cons {e : Expr} {t : DE} {es : List Expr} {ts : List DE} (h : PV X e t) (r : PJd X es ts) : PJd X (e :: es) (t :: ts)
def dJs : List DE → Str → DS → (Str → DS → Prop) → Prop
  | [], acc, δ, Q => Q acc δ
  | t :: ts, acc, δ, Q => t δ fun d δ' => asStr d fun y => (acc ++ y).length ≤ 16777216 ∧ dJs ts (acc ++ y) δ' Q
theorem js_mono {es : List Expr} {ts : List DE} (h : PJd X es ts) : ∀ (acc : Str) (δ : DS) (Q Q' : Str → DS → Prop), (∀ z δ, Q z δ → Q' z δ) → dJs ts acc δ Q → dJs ts acc δ Q' := by
  induction h with
  | nil => exact fun acc δ Q Q' k q => k _ _ q
  | cons h _ ih => exact fun acc δ Q Q' k q => h.mono _ _ _ (fun d δ' ⟨y, e, hl, q⟩ => ⟨y, e, hl, ih _ _ _ _ k q⟩) q
theorem js_run {es : List Expr} {ts : List DE} (h : PJd X es ts) {g : Gh} {σ : St} {Q : Str → Hp → Prop} : ∀ (acc : Str) (δ : DS) (H F : Hp), Rl g δ σ H F → dJs ts acc δ (fun out δ' => ∀ H' F', Same F F' → Rl g δ' σ H' F' → Q out H') → tJs (ts.map (LE g)) acc σ H Q := by
  induction h with
  | nil => exact fun acc δ H F R q => q H F (Same.refl _) R
  | cons h hr ih =>
    intro acc δ H F R q
    refine ⟨δ, F, R, h.mono _ _ _ (fun d δ' ⟨y, e, hl, q⟩ v H1 F1 s1 R1 r => ?_) q⟩
    subst e
    cases r
    exact ⟨y, rfl, line_size hl, ih _ _ _ _ R1 (js_mono hr _ _ _ _ (fun z δ q H' F' s R => q H' F' (s1.trans s) R) q)⟩
theorem pjd_run {es : List Expr} {ts : List DE} (h : PJd X es ts) (g : Gh) : PJ X es (ts.map (LE g)) := by
  induction h with
  | nil => exact .nil
  | cons h _ ih => exact .cons (h.run g) ih
def dFstr (ts : List DE) : DE := fun δ Q => dJs ts Str.empty δ fun out δ' => Q (.str out) δ'
theorem pv_fstr {v1 v2 : Expr} {rest : List Expr} {ts : List DE} (h : PJd X (v1 :: v2 :: rest) ts) : PV X (.JoinedStr (v1 :: v2 :: rest) pos) (dFstr ts) :=
  ⟨fun δ Q Q' k q => js_mono h _ _ _ _ (fun z δ q => k _ _ q) q, fun g => PE.mono (pe_joined (pjd_run h g)) fun σ H Q ⟨δ, F, R, q⟩ =>
    js_run h _ δ H F R (js_mono h _ _ _ _ (fun z δ' q H' F' s R' => q _ H' F' s R' (.str _)) q)⟩
end
theorem ev_Fmt (te : DE) (δ : DS) (Q) : dFmt te δ Q = te δ fun d δ' => opFmt d fun r => Q r δ' := rfl
theorem ev_fmts (z : Str) (K) : opFmt (.str z) K = (z.length ≤ 16777216 ∧ K (.str z)) := rfl
theorem ev_fmti (i : Int) (K) : opFmt (.int i) K = (i.natAbs.log2 < 1920 ∧ K (.str ((toString i : String) : Str))) := rfl
theorem ev_JsN (acc : Str) (δ : DS) (Q) : dJs [] acc δ Q = Q acc δ := rfl
theorem ev_JsC (t : DE) (ts : List DE) (acc : Str) (δ : DS) (Q) : dJs (t :: ts) acc δ Q = t δ fun d δ' => asStr d fun y => (acc ++ y).length ≤ 16777216 ∧ dJs ts (acc ++ y) δ' Q := rfl
theorem ev_Fstr (ts : List DE) (δ : DS) (Q) : dFstr ts δ Q = dJs ts Str.empty δ fun out δ' => Q (.str out) δ' := rfl
def opIntS : DUn
  | .str a, K => ∃ n, PySem.intText? a = some n ∧ a.length ≤ 640 ∧ K (.int n)
  | _, _ => False
section
variable {X : Cx}
theorem b_intS : CallR X (.type "int") (rB1 opIntS) ∧ MonoU opIntS := by
  refine ⟨fun pins s σ' H xs us Q I r h => ?_, fun a K K' m h => ?_⟩
  · obtain ⟨g, δ, σ, F, v, d, rfl, R, t, h⟩ := h
    cases d <;> first | exact h.elim | skip
    obtain ⟨n, h1, h2, q⟩ := h
    have e := RpTop.str t
    subst e
    exact call_int_str pins s σ' H _ us Q I r ⟨_, n, rfl, h1, h2, rq_val R (.int _) q⟩
  · cases a <;> first | exact h.elim | (obtain ⟨n, h1, h2, q⟩ := h; exact ⟨n, h1, h2, m _ q⟩)
end
theorem ev_intS (a : Str) (K) : opIntS (.str a) K = ∃ n, PySem.intText? a = some n ∧ a.length ≤ 640 ∧ K (.int n) := rfl
theorem ev_lens (z : Str) (K) : opLen (.str z) K = (z.length ≤ 16777216 ∧ K (.int z.length)) := rfl
theorem ev_ixs (z : Str) (i : Int) (K) : opIx (.str z) (.int i) K = (z.length ≤ 16777216 ∧ ∃ c, atI z.cps.toList i = some c ∧ K (.str ⟨#[c]⟩)) := rfl
theorem sign_inj {c c' : Nat} (h : D.str ⟨#[c]⟩ = D.str ⟨#[c']⟩) : c = c' := by
  have := D.str.inj h
  injection this with this
  injection this with this
  injection this
theorem ev_notins (c : Nat) (z : Str) (K : D → Prop) : opNotIn (.str ⟨#[c]⟩) (.str z) K = K (.bl (!decide (c ∈ z.cps.toList))) := by
  apply propext
  exact ⟨fun ⟨c', e, h⟩ => by rw [sign_inj e]; exact h, fun h => ⟨c, rfl, h⟩⟩
theorem ev_ins (c : Nat) (z : Str) (K : D → Prop) : opIn (.str ⟨#[c]⟩) (.str z) K = K (.bl (decide (c ∈ z.cps.toList))) := by
  apply propext
  exact ⟨fun ⟨c', e, h⟩ => by rw [sign_inj e]; exact h, fun h => ⟨c, rfl, h⟩⟩
theorem ev_slss (lo hi : Option Int) (z : Str) (K) : opSl lo hi (.str z) K = (z.length ≤ 16777216 ∧ K (.str (cutS z lo hi))) := rfl
end DL
namespace DL
open PySem PySem.Spec PyProof.Rows L2
def timesS (x : Str) (n : Int) : Str := ⟨(List.replicate n.toNat x.cps).foldl (· ++ ·) #[]⟩
def opMulS : DOp
  | .str x, .int n, K => 2 ≤ n ∧ n ≤ 1000 ∧ 0 < x.length ∧ x.length ≤ 1000 ∧ (timesS x n).length ≤ 16777216 ∧ K (.str (timesS x n))
  | _, _, _ => False
theorem op_mulS {X : Cx} : OpR X (binaryOp .Mult) (rD opMulS) ∧ MonoO opMulS := by
  refine ⟨fun pins s σ' H x y v u Q I rx ry h => ?_, fun a b K K' m h => ?_⟩
  · obtain ⟨g, δ, σ, F, a, b, R, ra, rb, h⟩ := h
    cases a <;> cases b <;> first | exact h.elim | skip
    rename_i z n
    rw [ra.str] at rx
    rw [rb.int] at ry
    obtain ⟨n2, n3, z1, z2, hl, q⟩ := h
    obtain ⟨t, rfl⟩ := rx
    obtain ⟨t2, rfl⟩ := ry
    have hn1 : ¬ n < 1 := by omega
    have hone : (n == 1 || z.length == 0) = false := by
      rw [show (n == 1) = false from beq_eq_false_iff_ne.mpr (by omega), show (z.length == 0) = false from beq_eq_false_iff_ne.mpr (by omega)]; rfl
    refine PySem.P.mul_str ?_ (fun _ _ => ?_) (fun _ _ => ?_) ?_
    · rw [decide_eq_false (show ¬ n < -(2 ^ 63 : Int) by omega), decide_eq_false (show ¬ n ≥ 2 ^ 63 by omega)]; rfl
    · have h1 : (1000 : Int) ≤ (2 ^ 63 - 1) / n := by
        rw [Int.le_ediv_iff_mul_le (by omega)]
        omega
      omega
    · have : z.length * n.toNat ≤ 1000 * 1000 := Nat.mul_le_mul z2 (by omega)
      unfold PySem.Builtin.Str.tooLong
      exact decide_eq_false (by rw [sizeLine_eq]; omega)
    · rw [if_neg hn1, hone, if_neg (by decide)]
      exact ⟨by rw [sizeLine_eq]; exact hl, .str (timesS z n), H, I.tok _, ⟨_, rfl⟩, rq_val R (.str _) q⟩
  · cases a <;> cases b <;> first | exact h.elim | exact ⟨h.1, h.2.1, h.2.2.1, h.2.2.2.1, h.2.2.2.2.1, m _ h.2.2.2.2.2⟩
theorem ev_mulS (x : Str) (n : Int) (K) : opMulS (.str x) (.int n) K = (2 ≤ n ∧ n ≤ 1000 ∧ 0 < x.length ∧ x.length ≤ 1000 ∧ (timesS x n).length ≤ 16777216 ∧ K (.str (timesS x n))) := rfl
end DL
open PySem PySem.Spec PyProof.Rows L2 DL
local macro_rules | `(tactic| walk_at "d") => `(tactic| simp only [↓getS_z, ↓getS_s, ↓asBl_e, ↓asInt_e, ↓asLst_e, ↓asSeq_l, ↓asSeq_t, ↓ifK_t, ↓ifK_f, ↓ev_C, ↓ev_Var, ↓ev_frv, ↓ev_fro, ↓ev_topv, ↓ev_topo, ↓ev_frl, ↓ev_frd, ↓ev_odv, ↓ev_odn, ↓ev_fiv, ↓ev_fin, ↓ev_Op, ↓ev_Un, ↓ev_UL, ↓ev_Bb, ↓ev_Tst, ↓ev_AndT, ↓ev_OrT, ↓ev_NotT, ↓ev_And, ↓ev_Or, ↓ev_Not, ↓ev_IfE, ↓ev_A0, ↓ev_Ac, ↓ev_Tup, ↓ev_Lst, ↓ev_Frz, ↓ev_Call, ↓ev_NoP, ↓ev_Part, ↓ev_Sl, ↓ev_SeqI, ↓ev_EnumI, ↓ev_Rng1, ↓ev_Rng2, ↓ev_nm, ↓ev_tp, ↓ev_tp0, ↓ev_tpc, ↓ev_Next, ↓ev_Seq, ↓ev_Break, ↓ev_Cont, ↓ev_Drop, ↓ev_Ret, ↓ev_RetN, ↓ev_If, ↓ev_Set, ↓ev_SetL, ↓ev_SetP, ↓ev_rhv, ↓ev_rho, ↓ev_Par, ↓ev_For, ↓ev_Comp, ↓ev_Yes, ↓ev_ownz, ↓ev_owns, ↓ev_Append, ↓ev_Extend, ↓ev_Pop, ↓ev_PopAt, ↓ev_SetIx, ↓ev_wi0, ↓ev_wic, ↓ev_re0, ↓ev_rec, ↓ev_kvn, ↓ev_kvv, ↓ev_kvo, ↓ev_kvs, ↓ev_endrt, ↓ev_endnx, ↓ev_addi, ↓ev_addt, ↓ev_addl, ↓ev_adds, ↓ev_sub, ↓ev_muli, ↓ev_mull, ↓ev_mult, ↓ev_mod, ↓ev_div, ↓ev_pow, ↓ev_shl, ↓ev_cmp, ↓ev_lt, ↓ev_le, ↓ev_gt, ↓ev_ge, ↓ev_eqi, ↓ev_nei, ↓ev_eqs, ↓ev_nes, ↓ev_eqtt, ↓ev_eqll, ↓ev_nett, ↓ev_nell, ↓ev_isN, ↓ev_notN, ↓ev_neg, ↓ev_ixt, ↓ev_ixl, ↓ev_ix0, ↓ev_ix1, ↓ev_ix2, ↓ev_slt, ↓ev_sll, ↓ev_lent, ↓ev_lenl, ↓ev_tupt, ↓ev_tupl, ↓ev_inti, ↓ev_intb, ↓ev_abs, ↓ev_listt, ↓ev_listl, ↓ev_repr, ↓ev_Rev, ↓ev_isA, ↓ev_ndt, ↓ev_ndl, ↓ev_ndi, ↓ev_ndb, ↓ev_nds, ↓ev_ndn, ↓ev_iatt, ↓ev_iail, ↓ev_iaii, ↓ev_iabi, ↓ev_iaib, ↓ev_iabb, ↓ev_iass, ↓ev_iain, ↓ev_iain0, ↓ev_iatn0, ↓ev_Chain, ↓ev_Rng3, ↓asZip_l, ↓asZip_t, ↓ev_Zip, ↓ev_Rg1, ↓ev_Rg2, ↓ev_LstRg, ↓ev_TupRg, ↓ev_min2, ↓ev_max2, ↓ev_nnn, ↓ev_nni, ↓ev_nnt, ↓ev_nnl, ↓ev_nns, ↓ev_nnb, ↓ev_OpL, ↓ev_cat, ↓ev_rep, ↓ev_elrt, ↓ev_draw, ↓List.set_cons_zero, ↓List.set_cons_succ, ↓exists_eq_left', List.length_cons, List.length_nil, Nat.reduceAdd, Nat.reduceLeDiff, true_and, and_true, decide_true, decide_false, Bool.not_true, Bool.not_false, List.nil_append])
local macro_rules | `(tactic| walk_at "e") => `(tactic| simp only [↓getS_z, ↓getS_s, ↓asBl_e, ↓asInt_e, ↓asLst_e, ↓asSeq_l, ↓asSeq_t, ↓ifK_t, ↓ifK_f, ↓ev_C, ↓ev_Var, ↓ev_frv, ↓ev_fro, ↓ev_topv, ↓ev_topo, ↓ev_frl, ↓ev_frd, ↓ev_odv, ↓ev_odn, ↓ev_fiv, ↓ev_fin, ↓ev_Op, ↓ev_Un, ↓ev_UL, ↓ev_Bb, ↓ev_Tst, ↓ev_AndT, ↓ev_OrT, ↓ev_NotT, ↓ev_And, ↓ev_Or, ↓ev_Not, ↓ev_IfE, ↓ev_A0, ↓ev_Ac, ↓ev_Tup, ↓ev_Lst, ↓ev_Frz, ↓ev_NoP, ↓ev_Part, ↓ev_Sl, ↓ev_SeqI, ↓ev_EnumI, ↓ev_Rng1, ↓ev_Rng2, ↓ev_nm, ↓ev_tp, ↓ev_tp0, ↓ev_tpc, ↓ev_Next, ↓ev_Seq, ↓ev_Break, ↓ev_Cont, ↓ev_Drop, ↓ev_Ret, ↓ev_RetN, ↓ev_If, ↓ev_Set, ↓ev_SetL, ↓ev_SetP, ↓ev_rhv, ↓ev_rho, ↓ev_Par, ↓ev_For, ↓ev_Yes, ↓ev_ownz, ↓ev_owns, ↓ev_Append, ↓ev_Extend, ↓ev_Pop, ↓ev_PopAt, ↓ev_SetIx, ↓ev_wi0, ↓ev_wic, ↓ev_re0, ↓ev_rec, ↓ev_kvn, ↓ev_kvv, ↓ev_kvo, ↓ev_kvs, ↓ev_endrt, ↓ev_endnx, ↓ev_addi, ↓ev_addt, ↓ev_addl, ↓ev_adds, ↓ev_sub, ↓ev_muli, ↓ev_mull, ↓ev_mult, ↓ev_mod, ↓ev_div, ↓ev_pow, ↓ev_shl, ↓ev_cmp, ↓ev_lt, ↓ev_le, ↓ev_gt, ↓ev_ge, ↓ev_eqi, ↓ev_nei, ↓ev_eqs, ↓ev_nes, ↓ev_eqtt, ↓ev_eqll, ↓ev_nett, ↓ev_nell, ↓ev_isN, ↓ev_notN, ↓ev_neg, ↓ev_ixt, ↓ev_ixl, ↓ev_ix0, ↓ev_ix1, ↓ev_ix2, ↓ev_slt, ↓ev_sll, ↓ev_lent, ↓ev_lenl, ↓ev_tupt, ↓ev_tupl, ↓ev_inti, ↓ev_intb, ↓ev_abs, ↓ev_listt, ↓ev_listl, ↓ev_repr, ↓ev_Rev, ↓ev_isA, ↓ev_ndt, ↓ev_ndl, ↓ev_ndi, ↓ev_ndb, ↓ev_nds, ↓ev_ndn, ↓ev_iatt, ↓ev_iail, ↓ev_iaii, ↓ev_iabi, ↓ev_iaib, ↓ev_iabb, ↓ev_iass, ↓ev_iain, ↓ev_iain0, ↓ev_iatn0, ↓ev_Chain, ↓ev_Rng3, ↓asZip_l, ↓asZip_t, ↓ev_Zip, ↓ev_Rg1, ↓ev_Rg2, ↓ev_LstRg, ↓ev_TupRg, ↓ev_min2, ↓ev_max2, ↓ev_nnn, ↓ev_nni, ↓ev_nnt, ↓ev_nnl, ↓ev_nns, ↓ev_nnb, ↓ev_OpL, ↓ev_cat, ↓ev_rep, ↓ev_elrt, ↓evk_Comp, ↓evk_KC, ↓evk_Call, ↓evk_draw, ↓List.set_cons_zero, ↓List.set_cons_succ, ↓exists_eq_left', List.length_cons, List.length_nil, Nat.reduceAdd, Nat.reduceLeDiff, true_and, and_true, decide_true, decide_false, Bool.not_true, Bool.not_false, List.nil_append])
namespace DL
def W2 (p : Int × Int) : D := .tup [.int p.1, .int p.2]
def LotD (l : List (Int × Int)) : D := .tup (l.map W2)
def IsW (p : Int × Int) : Prop := 1 ≤ p.1 ∧ p.1 ≤ 1000000000000 ∧ 0 ≤ p.2 ∧ p.2 < p.1
def IsLot (l : List (Int × Int)) : Prop := ∀ p ∈ l, IsW p
def splitW (p : Int × Int) (n : Nat) : List (Int × Int) := (List.range n).map fun (k : Nat) => (p.1 * (n : Int), p.2 + (k : Int) * p.1)
inductive Gr : List (Int × Int) → Prop where
  | one : Gr [(1, 0)]
  | step {a b : List (Int × Int)} {p : Int × Int} {n : Nat} : Gr (a ++ p :: b) → 2 ≤ n → n ≤ 10 → Gr (a ++ splitW p n ++ b)
  | perm {l m : List (Int × Int)} : Gr l → l.Perm m → Gr m
abbrev Sm (t : Int) : Prop := t < 61 ∧ t ∣ 21600
theorem sm_mul {t : Int} {k : Nat} (h0 : 1 ≤ t) (h : Sm t) (h2 : 2 ≤ k) (h5 : k ≤ 5) (hm : t * (k : Int) < 61) : Sm (t * (k : Int)) := by
  refine ⟨hm, ?_⟩
  obtain ⟨n, rfl⟩ := Int.eq_ofNat_of_zero_le (show 0 ≤ t by omega)
  have key : ∀ n : Fin 61, ∀ k : Fin 6, 2 ≤ k.val → n.val ∣ 21600 → n.val * k.val < 61 → n.val * k.val ∣ 21600 := by decide +kernel
  have hn : n < 61 := by have := h.1; omega
  have hd : n ∣ 21600 := Int.natCast_dvd_natCast.mp h.2
  have hm' : n * k < 61 := by
    have : ((n * k : Nat) : Int) < 61 := by rw [Int.natCast_mul]; exact hm
    omega
  have := key ⟨n, hn⟩ ⟨k, by omega⟩ h2 hd hm'
  have e : ((n * k : Nat) : Int) ∣ ((21600 : Nat) : Int) := Int.natCast_dvd_natCast.mpr this
  rwa [Int.natCast_mul] at e
def GrLot (l : List (Int × Int)) : Prop := Gr l ∧ (∀ p ∈ l, IsW p ∧ Sm p.1)
def Cov (l : List (Int × Int)) : Prop := ∀ d : Int, ∃ p ∈ l, (d - p.2) % p.1 = 0
theorem ok_W2 (n : Nat) (p : Int × Int) : D.ok (n + 1) (W2 p) = true := by unfold W2; rw [ok_tup]; rfl
theorem ok_lotT (n : Nat) (l : List (Int × Int)) : D.ok (n + 2) (.tup (l.map W2)) = true := by
  rw [ok_tup, List.all_map, List.all_eq_true]; intro p _; exact ok_W2 n p
end DL
namespace DL
end DL
namespace DL
def shiftL (l : List (Int × Int)) (d : Int) : List (Int × Int) := l.map fun p => (p.1, (p.2 + d) % p.1)
end DL
namespace DL
end DL
namespace DL
theorem atI_lt {α : Type} {xs : List α} {i : Int} (h0 : 0 ≤ i) (h1 : i < xs.length) : ∃ d, atI xs i = some d ∧ d ∈ xs := by
  obtain ⟨n, rfl⟩ := Int.eq_ofNat_of_zero_le h0
  have hn : n < xs.length := by omega
  exact ⟨xs[n], atI_nat (List.getElem?_eq_getElem hn), List.getElem_mem hn⟩
def sp_law_one : DSp := fun ds K => ∃ xs, (ds = [.dk, .lst xs] ∨ ds = [.dk, .tup xs]) ∧ xs ≠ [] ∧ xs.length < 1000000 ∧ ∀ x ∈ xs, K x
theorem ms_law_one : MonoSp sp_law_one := fun ds K K' h ⟨t, e, p, p', q⟩ => ⟨t, e, p, p', fun x hx => h _ (q x hx)⟩
theorem len_law_one : ∀ ds Q, sp_law_one ds Q → ds.length = 2 := fun ds Q ⟨t, e, _⟩ => by rcases e with e | e <;> rw [e] <;> rfl
theorem one_of {K : D → Prop} {xs : List D} (h : ∀ x ∈ xs, K x) (h0 : xs ≠ [] := by exact (nomatch ·)) (hl : xs.length < 1000000 := by decide) : sp_law_one [.dk, .lst xs] K := ⟨xs, .inl rfl, h0, hl, h⟩
end DL
def b_law_one : DSm :=
  (dRet (dOp opIx (.n 1) (.v (dCall sp_draw (dAc (dVar 0) (dAc (dUn opLen (.n 1)) dA0))))))
def N_law_one : List Str := ["deck", "items"]
namespace DL
theorem law_one_ok : ∀ ds Q, sp_law_one ds Q → b_law_one (endD Q) (startD N_law_one ds) := by
  rintro _ Q ⟨xs, rfl | rfl, h0, hl, q⟩
  · show b_law_one (endD Q) [some (.val .dk), some (.val (.lst xs))]
    have hp := List.length_pos_iff.mpr h0
    unfold b_law_one
    walk_at "d"
    exact ⟨by omega, by omega, fun i h0 h1 => by obtain ⟨d, e, m⟩ := atI_lt h0 h1; exact ⟨d, e, q d m⟩⟩
  · show b_law_one (endD Q) [some (.val .dk), some (.val (.tup xs))]
    have hp := List.length_pos_iff.mpr h0
    unfold b_law_one
    walk_at "d"
    exact ⟨by omega, by omega, fun i h0 h1 => by obtain ⟨d, e, m⟩ := atI_lt h0 h1; exact ⟨d, e, q d m⟩⟩
end DL
namespace DL
def sp_law_mixed : DSp := fun ds K => ∃ xs, (ds = [.dk, .lst xs] ∨ ds = [.dk, .tup xs]) ∧ xs.length < 100000 ∧ ∀ ys, ys.Perm xs → K (.lst ys)
theorem ms_law_mixed : MonoSp sp_law_mixed := fun ds K K' h ⟨t, e, p, q⟩ => ⟨t, e, p, fun x hx => h _ (q x hx)⟩
theorem len_law_mixed : ∀ ds Q, sp_law_mixed ds Q → ds.length = 2 := fun ds Q ⟨t, e, _⟩ => by rcases e with e | e <;> rw [e] <;> rfl
theorem perm_erase {α : Type} : ∀ {l : List α} {j : Nat} {y : α}, l[j]? = some y → l.Perm (y :: l.eraseIdx j)
  | [], j, y, h => by simp at h
  | a :: l, 0, y, h => by simp at h; subst h; exact .refl _
  | a :: l, j + 1, y, h => by
    have h' : l[j]? = some y := by simpa using h
    exact ((perm_erase h').cons a).trans (.swap _ _ _)
theorem ixN_nat {n : Nat} {i : Int} (h0 : 0 ≤ i) (h1 : i < n) : ixN n i = some i.toNat := by
  unfold ixN; rw [if_pos h0, if_pos h1]
end DL
def b_law_mixed : DSm :=
  (dSeq (dPar 3 4 (.o (dUL opList (.n 1))) (.o (dLst dA0)))
  (dSeq (dFor (dRng1 (dUn opLen (.n 1))) (.nm 2) (dDrop (dAppend 4 (dPopAt 3 (dCall sp_draw (dAc (dVar 0) (dAc (dUn opLen (.n 3)) dA0)))))))
  (dRet (dVar 4))))
def N_law_mixed : List Str := ["deck", "items", "turn", "rest", "found"]
namespace DL
theorem law_mixed_ok : ∀ ds Q, sp_law_mixed ds Q → b_law_mixed (endD Q) (startD N_law_mixed ds) := by
  rintro _ Q ⟨xs, h, hl, q⟩
  have key : ∀ X : Sl, (∃ x, X = .val (.lst x) ∨ X = .val (.tup x)) → dForL (.nm 2) (dDrop (dAppend 4 (dPopAt 3 (dCall sp_draw (dAc (dVar 0) (dAc (dUn opLen (.n 3)) dA0))))))
      { endD Q with nx := dRet (dVar 4) (endD Q) } (rngD 0 xs.length) [some (.val .dk), some X, none, some (.own (.l xs)), some (.own (.l []))] := by
    intro X hX
    refine for_rng (fun i δ => ∃ s r f, δ = [some (.val .dk), some X, s, some (.own (.l r)), some (.own (.l f))] ∧ (f ++ r).Perm xs ∧ f.length = i) ⟨none, xs, [], rfl, .refl _, rfl⟩ ?_ ?_
    · rintro i _ hi ⟨s, r, f, rfl, hp, rfl⟩ nx hnx
      have hlen : f.length + r.length = xs.length := by rw [← List.length_append]; exact hp.length_eq
      walk_at "d"
      refine ⟨by omega, by omega, fun k h0 h1 => ?_⟩
      have hk : k.toNat < r.length := by omega
      refine ⟨k.toNat, r[k.toNat], ixN_nat h0 h1, by omega, List.getElem?_eq_getElem hk, by omega, ?_⟩
      refine hnx _ ⟨_, _, _, rfl, ?_, by simp⟩
      rw [List.append_assoc]
      exact ((perm_erase (List.getElem?_eq_getElem hk)).symm.append_left f).trans hp
    · rintro _ ⟨s, r, f, rfl, hp, hf⟩
      have hlen : f.length + r.length = xs.length := by rw [← List.length_append]; exact hp.length_eq
      have hr : r = [] := List.length_eq_zero_iff.mp (by omega)
      subst hr
      walk_at "d"
      exact q f (by simpa using hp)
  rcases h with rfl | rfl
  · show b_law_mixed (endD Q) [some (.val .dk), some (.val (.lst xs)), none, none, none]
    unfold b_law_mixed
    have k := key (.val (.lst xs)) ⟨xs, .inl rfl⟩
    walk_at "d"
    exact ⟨by omega, by omega, k⟩
  · show b_law_mixed (endD Q) [some (.val .dk), some (.val (.tup xs)), none, none, none]
    unfold b_law_mixed
    have k := key (.val (.tup xs)) ⟨xs, .inr rfl⟩
    walk_at "d"
    exact ⟨by omega, by omega, k⟩
end DL
namespace DL
end DL
namespace DL
def tally (l : List (Int × Int)) (d : Int) : Nat := (l.filter fun p => decide ((d - p.2) % p.1 = 0)).length
end DL
namespace DL
def sp_law_watch : DSp := fun ds K => ∃ ts : List Int, (ds = [.dk, .lst (ts.map D.int)] ∨ ds = [.dk, .tup (ts.map D.int)]) ∧ ts ≠ [] ∧ ts.length < 1000000 ∧ (∀ t ∈ ts, 0 < t ∧ t < 10000000000000000000000000000000000000000) ∧ ∀ t ∈ ts, ∀ f, 0 ≤ f → f < t → K (W2 (t, f))
theorem ms_law_watch : MonoSp sp_law_watch := fun ds K K' h ⟨t, e, a, b, c, q⟩ => ⟨t, e, a, b, c, fun t ht f h0 h1 => h _ (q t ht f h0 h1)⟩
theorem len_law_watch : ∀ ds Q, sp_law_watch ds Q → ds.length = 2 := fun ds Q ⟨t, e, _⟩ => by rcases e with e | e <;> rw [e] <;> rfl
end DL
def b_law_watch : DSm :=
  (dSeq (dSet 2 (dCall sp_law_one (dAc (dVar 0) (dAc (dVar 1) dA0))))
  (dRet (dTup (dAc (dVar 2) (dAc (dCall sp_draw (dAc (dVar 0) (dAc (dVar 2) dA0))) dA0)))))
def N_law_watch : List Str := ["deck", "turns", "turn"]
namespace DL
theorem law_watch_ok : ∀ ds Q, sp_law_watch ds Q → b_law_watch (endD Q) (startD N_law_watch ds) := by
  rintro _ Q ⟨ts, rfl | rfl, h0, hl, ht, q⟩
  · show b_law_watch (endD Q) [some (.val .dk), some (.val (.lst (ts.map D.int))), none]
    unfold b_law_watch
    walk_at "d"
    refine ⟨_, .inl rfl, by simpa using h0, by simpa using hl, fun x hx => ?_⟩
    obtain ⟨t, ht', rfl⟩ := List.mem_map.mp hx
    walk_at "d"
    exact ⟨ (ht t ht').1, (ht t ht').2, fun f h0 h1 => q t ht' f h0 h1⟩
  · show b_law_watch (endD Q) [some (.val .dk), some (.val (.tup (ts.map D.int))), none]
    unfold b_law_watch
    walk_at "d"
    refine ⟨_, .inr rfl, by simpa using h0, by simpa using hl, fun x hx => ?_⟩
    obtain ⟨t, ht', rfl⟩ := List.mem_map.mp hx
    walk_at "d"
    exact ⟨ (ht t ht').1, (ht t ht').2, fun f h0 h1 => q t ht' f h0 h1⟩
end DL
namespace DL
def sp_law_small_lot : DSp := fun ds K => ∃ m : Nat, ds = [.dk, .int m] ∧ m ≤ 1000 ∧ ∀ l, (∀ p ∈ l, IsW p ∧ Sm p.1) → l.length ≤ m → K (LotD l)
theorem ms_law_small_lot : MonoSp sp_law_small_lot := fun ds K K' h ⟨t, e, a, q⟩ => ⟨t, e, a, fun l hl h0 => h _ (q l hl h0)⟩
theorem len_law_small_lot : ∀ ds Q, sp_law_small_lot ds Q → ds.length = 2 := fun ds Q ⟨t, e, _⟩ => by rw [e]; rfl
theorem fa2_lot {P : Int × Int → Prop} : ∀ {ds : List D} {os : List (Option D)}, Fa2 (fun _ o => ∃ p, P p ∧ o = some (W2 p)) ds os → ∃ l : List (Int × Int), os.filterMap id = l.map W2 ∧ l.length = ds.length ∧ ∀ p ∈ l, P p
  | _, _, .nil => ⟨[], rfl, rfl, fun p h => (nomatch h)⟩
  | _, _, .cons ⟨p, hp, e⟩ t => by
    obtain ⟨l, e1, e2, e3⟩ := fa2_lot t
    refine ⟨p :: l, by rw [e, List.filterMap_cons, e1]; rfl, by simp [e2], ?_⟩
    intro x hx
    rcases List.mem_cons.mp hx with rfl | hx
    · exact hp
    · exact e3 x hx
theorem isW_of {t f : Int} (h : 1 ≤ t) (h' : t ≤ 1000000000000) (h0 : 0 ≤ f) (h1 : f < t) : IsW (t, f) := ⟨h, h', h0, h1⟩
end DL
def b_law_small_lot : DSm :=
  (dSeq (dSetL 2 (dLst (dAc (dFrz (dLst (dAc (dC (.int 2)) (dAc (dC (.int 3)) (dAc (dC (.int 4)) (dAc (dC (.int 6)) (dAc (dC (.int 12)) dA0))))))) (dAc (dFrz (dLst (dAc (dC (.int 2)) (dAc (dC (.int 4)) (dAc (dC (.int 8)) (dAc (dC (.int 16)) dA0)))))) (dAc (dFrz (dLst (dAc (dC (.int 3)) (dAc (dC (.int 6)) (dAc (dC (.int 9)) dA0))))) (dAc (dFrz (dLst (dAc (dC (.int 2)) (dAc (dC (.int 3)) (dAc (dC (.int 5)) (dAc (dC (.int 6)) (dAc (dC (.int 10)) (dAc (dC (.int 15)) (dAc (dC (.int 30)) dA0))))))))) (dAc (dFrz (dLst (dAc (dC (.int 1)) (dAc (dC (.int 2)) (dAc (dC (.int 3)) dA0))))) dA0)))))))
  (dSeq (dSet 3 (dCall sp_law_one (dAc (dVar 0) (dAc (dOp opAdd (.n 2) (.v (dFrz (dLst (dAc (dFrz (dLst (dAc (dC (.int 4)) (dAc (dC (.int 6)) (dAc (dC (.int 8)) (dAc (dC (.int 12)) (dAc (dC (.int 24)) dA0))))))) dA0))))) dA0))))
  (dRet (dUn opTuple (.v (dFrz (dComp (dRng1 (dCall sp_draw (dAc (dVar 0) (dAc (dOp opAdd (.n 1) (.v (dC (.int 1)))) dA0)))) (.nm 4) dYes (dCall sp_law_watch (dAc (dVar 0) (dAc (dVar 3) dA0))) [4])))))))
def N_law_small_lot : List Str := ["deck", "most", "some", "turns", "k"]
namespace DL
theorem law_small_lot_ok : ∀ ds Q, sp_law_small_lot ds Q → b_law_small_lot (endD Q) (startD N_law_small_lot ds) := by
  rintro _ Q ⟨m, rfl, hm, q⟩
  show b_law_small_lot (endD Q) [some (.val .dk), some (.val (.int m)), none, none, none]
  unfold b_law_small_lot
  walk_at "d"
  refine ⟨_, .inl rfl, (nomatch ·), by decide, fun x hx => ?_⟩
  have hx' : ∃ ts : List Int, x = .lst (ts.map D.int) ∧ ts ≠ [] ∧ ts.length < 1000000 ∧ ∀ t ∈ ts, 0 < t ∧ Sm t := by
    simp only [List.cons_append, List.nil_append, List.mem_cons, List.mem_nil_iff, or_false] at hx
    rcases hx with rfl | rfl | rfl | rfl | rfl | rfl
    · exact ⟨[2, 3, 4, 6, 12], rfl, by decide, by decide, by decide⟩
    · exact ⟨[2, 4, 8, 16], rfl, by decide, by decide, by decide⟩
    · exact ⟨[3, 6, 9], rfl, by decide, by decide, by decide⟩
    · exact ⟨[2, 3, 5, 6, 10, 15, 30], rfl, by decide, by decide, by decide⟩
    · exact ⟨[1, 2, 3], rfl, by decide, by decide, by decide⟩
    · exact ⟨[4, 6, 8, 12, 24], rfl, by decide, by decide, by decide⟩
  obtain ⟨ts, rfl, h0, hl, ht⟩ := hx'
  walk_at "d"
  refine ⟨by omega, by omega, fun i h0' h1 => ⟨by omega, by omega, ?_⟩⟩
  refine comp_run (fun _ o => ∃ p : Int × Int, (IsW p ∧ Sm p.1) ∧ o = some (W2 p)) _ _ (by simp [rngD_length]; omega) ?_ ?_
  · intro d hd C hC
    walk_at "d"
    exact ⟨ts, .inl rfl, h0, hl, fun t h => ⟨(ht t h).1, by have := (ht t h).2.1; omega⟩, fun t h f a b => hC _ ⟨(t, f), ⟨isW_of (ht t h).1 (by have := (ht t h).2.1; omega) a b, (ht t h).2⟩, rfl⟩⟩
  · intro os hos
    obtain ⟨l, e1, e2, e3⟩ := fa2_lot hos
    rw [rngD_length] at e2
    show Q (.tup ([] ++ os.filterMap id))
    rw [List.nil_append, e1]
    exact q l e3 (by omega)
end DL
namespace DL
def sp_law_grown : DSp := fun ds K => ∃ m : Nat, ds = [.dk, .int m] ∧ 1 ≤ m ∧ m ≤ 1000 ∧ ∀ l, GrLot l → l.length ≤ m → K (LotD l)
theorem ms_law_grown : MonoSp sp_law_grown := fun ds K K' h ⟨t, e, a, b, q⟩ => ⟨t, e, a, b, fun l hl h0 => h _ (q l hl h0)⟩
theorem len_law_grown : ∀ ds Q, sp_law_grown ds Q → ds.length = 2 := fun ds Q ⟨t, e, _⟩ => by rw [e]; rfl
theorem gr_ne {l : List (Int × Int)} (h : Gr l) : l ≠ [] := by
  induction h with
  | one => exact (nomatch ·)
  | step _ h2 _ ih =>
    intro e
    have := congrArg List.length e
    simp [splitW] at this
    omega
  | perm _ p ih => intro e; subst e; exact ih (by simpa using p)
theorem isW_split {p : Int × Int} {n : Nat} (h : IsW p) (hs : Sm p.1) (hn2 : 2 ≤ n) (hn5 : n ≤ 5) (hp : p.1 * (n : Int) < 61) : ∀ q ∈ splitW p n, IsW q ∧ Sm q.1 := by
  have hn : 1 ≤ n := by omega
  intro q hq
  unfold splitW at hq
  obtain ⟨k, hk, rfl⟩ := List.mem_map.mp hq
  have hk' : k < n := List.mem_range.mp hk
  obtain ⟨h1, h2, h3, h4⟩ := h
  have a1 : p.1 * 1 ≤ p.1 * (n : Int) := Int.mul_le_mul_of_nonneg_left (by omega) (by omega)
  have a2 : ((k : Int) + 1) * p.1 ≤ (n : Int) * p.1 := Int.mul_le_mul_of_nonneg_right (by omega) (by omega)
  have a3 : 0 ≤ (k : Int) * p.1 := Int.mul_nonneg (by omega) (by omega)
  rw [Int.add_mul, Int.one_mul, Int.mul_comm (n : Int)] at a2
  exact ⟨⟨by show 1 ≤ p.1 * (n : Int); omega, by show p.1 * (n : Int) ≤ _; omega, by show 0 ≤ p.2 + (k : Int) * p.1; omega, by show p.2 + (k : Int) * p.1 < p.1 * (n : Int); omega⟩, sm_mul h1 hs hn2 hn5 hp⟩
theorem map_perm_inv {α β : Type} {f : α → β} {ys : List β} {l : List α} (h : ys.Perm (l.map f)) : ∃ m : List α, m.Perm l ∧ ys = m.map f := by
  have key : ∀ (a b : List β), a.Perm b → ∀ l : List α, b = l.map f → ∃ m : List α, m.Perm l ∧ a = m.map f := by
    intro a b h
    induction h with
    | nil => intro l e; exact ⟨[], by rw [List.map_eq_nil_iff.mp e.symm], rfl⟩
    | cons x _ ih =>
      intro l e
      match l, e with
      | y :: l, e =>
        obtain ⟨e1, e2⟩ := List.cons.inj e
        obtain ⟨m, p, e3⟩ := ih l e2
        exact ⟨y :: m, p.cons _, by rw [e1, e3]; rfl⟩
    | swap x y l' =>
      intro l e
      match l, e with
      | u :: v :: l, e =>
        obtain ⟨e1, e2⟩ := List.cons.inj e
        obtain ⟨e3, e4⟩ := List.cons.inj e2
        exact ⟨v :: u :: l, .swap _ _ _, by rw [e1, e3, e4]; rfl⟩
    | trans _ _ ih1 ih2 =>
      intro l e
      obtain ⟨m, p, rfl⟩ := ih2 l e
      obtain ⟨m', p', rfl⟩ := ih1 m rfl
      exact ⟨m', p'.trans p, rfl⟩
  exact key _ _ h l rfl
theorem isW_perm {P : Int × Int → Prop} {l m : List (Int × Int)} (p : m.Perm l) (h : ∀ x ∈ l, P x) : ∀ x ∈ m, P x := fun x hx => h x (p.mem_iff.mp hx)
theorem cut_head {α : Type} {l : List α} {k : Nat} (h : k < l.length) : cutD l none (some (k : Int)) = l.take k := by
  unfold cutD
  rw [HT.sIx_none, HT.sIx_nat]
  simp
theorem cut_tail {α : Type} {l : List α} {k : Nat} (h : k < l.length) : cutD l (some ((k : Int) + 1)) none = l.drop (k + 1) := by
  unfold cutD
  rw [HT.sIx_none, show ((k : Int) + 1) = ((k + 1 : Nat) : Int) by omega, HT.sIx_nat]
  rw [Nat.min_eq_left (by omega)]
  exact List.take_of_length_le (by simp)
end DL
def b_law_grown : DSm :=
  (dSeq (dSetL 2 (dLst (dAc (dTup (dAc (dC (.int 1)) (dAc (dC (.int 0)) dA0))) dA0)))
  (dSeq (dFor (dRng1 (dCall sp_draw (dAc (dVar 0) (dAc (dC (.int 6)) dA0)))) (.nm 3) (dSeq (dSetP (.tp [(.nm 4), (.nm 5)]) (dTup (dAc (dCall sp_draw (dAc (dVar 0) (dAc (dUn opLen (.n 2)) dA0))) (dAc (dCall sp_law_one (dAc (dVar 0) (dAc (dFrz (dLst (dAc (dC (.int 2)) (dAc (dC (.int 2)) (dAc (dC (.int 3)) (dAc (dC (.int 4)) (dAc (dC (.int 5)) dA0))))))) dA0))) dA0))))
  (dSeq (dSetP (.tp [(.nm 6), (.nm 7)]) (dOp opIx (.n 2) (.n 4)))
  (dIf (dAndT (dTst (dOp opLe (.v (dOp opSub (.v (dOp opAdd (.v (dUn opLen (.n 2))) (.n 5))) (.v (dC (.int 1))))) (.n 1))) (dTst (dOp opLt (.v (dOp opMul (.n 6) (.n 5))) (.v (dC (.int 61)))))) (dSet 2 (dOp opAdd (.v (dOp opAdd (.v (dSl (.n 2) dNoP (dPart (dVar 4)))) (.v (dFrz (dComp (dRng1 (dVar 5)) (.nm 8) dYes (dTup (dAc (dOp opMul (.n 6) (.n 5)) (dAc (dOp opAdd (.n 7) (.v (dOp opMul (.n 8) (.n 6)))) dA0))) [8]))))) (.v (dSl (.n 2) (dPart (dOp opAdd (.n 4) (.v (dC (.int 1))))) dNoP)))) dNext))))
  (dRet (dUn opTuple (.v (dCall sp_law_mixed (dAc (dVar 0) (dAc (dVar 2) dA0))))))))
def N_law_grown : List Str := ["deck", "most", "lot", "step", "at", "parts", "turn", "first", "k"]
namespace DL
theorem law_grown_ok : ∀ ds Q, sp_law_grown ds Q → b_law_grown (endD Q) (startD N_law_grown ds) := by
  rintro _ Q ⟨m, rfl, hm1, hm, q⟩
  show b_law_grown (endD Q) [some (.val .dk), some (.val (.int m)), none, none, none, none, none, none, none]
  unfold b_law_grown
  walk_at "d"
  refine ⟨by decide, by decide, fun i h0 h1 => ⟨by omega, by omega, ?_⟩⟩
  refine for_rng (fun _ δ => ∃ (l : List (Int × Int)) (s a b c d e f : Option Sl), δ = [some (.val .dk), some (.val (.int m)), s, a, b, c, d, e, f] ∧ (s = some (.own (.l (l.map W2))) ∨ s = some (.val (.lst (l.map W2)))) ∧ GrLot l ∧ l.length ≤ m) ⟨[(1, 0)], _, _, _, _, _, _, _, rfl, .inl rfl, ⟨.one, by intro p hp; rcases List.mem_singleton.mp hp with rfl; exact ⟨isW_of (by decide) (by decide) (by decide) (by decide), by decide⟩⟩, hm1⟩ ?_ ?_
  · rintro j _ hj ⟨l, s, a, b, c, d, e, f, rfl, hs, hl, hlm⟩ nx hnx
    have hpos : 0 < l.length := by
      cases l with
      | nil => exact absurd rfl (gr_ne hl.1)
      | cons _ _ => simp
    have key : ∀ (v : Int) (pn : Nat), 0 ≤ v → v < l.length → 2 ≤ pn → pn ≤ 5 → ∃ x : Int × Int, atI (l.map W2) v = some (W2 x) ∧ x.1 < 61 ∧ IsW x ∧ v.toNat < l.length ∧
        (x.1 * (pn : Int) < 61 → (l.length : Int) + pn - 1 ≤ m → GrLot (l.take v.toNat ++ splitW x pn ++ l.drop (v.toNat + 1)) ∧ (l.take v.toNat ++ splitW x pn ++ l.drop (v.toNat + 1)).length ≤ m) := by
      intro v pn hv0 hv1 hp2 hp5
      obtain ⟨n, rfl⟩ := Int.eq_ofNat_of_zero_le hv0
      have hn : n < l.length := by omega
      have hx := hl.2 l[n] (List.getElem_mem hn)
      refine ⟨l[n], atI_nat (by simp [hn]), hx.2.1, hx.1, hn, fun h61 hlen => ?_⟩
      rw [show ((n : Int)).toNat = n from rfl]
      have el : l = l.take n ++ l[n] :: l.drop (n + 1) := by simp
      refine ⟨⟨.step (by rw [← el]; exact hl.1) hp2 (by omega), ?_⟩, ?_⟩
      · intro p hp
        rcases List.mem_append.mp hp with hp | hp
        · rcases List.mem_append.mp hp with hp | hp
          · exact hl.2 p (List.mem_of_mem_take hp)
          · exact isW_split hx.1 hx.2 hp2 hp5 h61 p hp
        · exact hl.2 p (List.mem_of_mem_drop hp)
      · simp [splitW]; omega
    have tk : ∀ v : Int, 0 ≤ v → v < l.length → cutD (l.map W2) none (some v) = (l.take v.toNat).map W2 ∧ cutD (l.map W2) (some (v + 1)) none = (l.drop (v.toNat + 1)).map W2 := by
      intro v hv0 hv1
      obtain ⟨n, rfl⟩ := Int.eq_ofNat_of_zero_le hv0
      rw [cut_head (by simp; omega), cut_tail (by simp; omega), List.map_take, List.map_drop]
      exact ⟨rfl, rfl⟩
    rcases hs with rfl | rfl
    all_goals
      walk_at "d"
      rw [List.length_map]
      refine ⟨by omega, by omega, fun v hv0 hv1 => ?_⟩
      refine ⟨_, .inl rfl, (nomatch ·), by decide, fun x hx => ?_⟩
      have hx' : ∃ pn : Nat, x = .int pn ∧ 2 ≤ pn ∧ pn ≤ 5 := by
        simp only [List.mem_cons, List.mem_nil_iff, or_false] at hx
        rcases hx with rfl | rfl | rfl | rfl | rfl
        · exact ⟨2, rfl, by decide, by decide⟩
        · exact ⟨2, rfl, by decide, by decide⟩
        · exact ⟨3, rfl, by decide, by decide⟩
        · exact ⟨4, rfl, by decide, by decide⟩
        · exact ⟨5, rfl, by decide, by decide⟩
      obtain ⟨pn, rfl, hp2, hp5⟩ := hx'
      obtain ⟨x, hx1, hx2, hx3, hx4, hx5⟩ := key v pn hv0 hv1 hp2 hp5
      obtain ⟨tk1, tk2⟩ := tk v hv0 hv1
      refine ⟨W2 x, hx1, ?_⟩
      unfold W2 at *
      walk_at "d"
      refine ifK_d (fun c1 => ?_) fun _ => hnx _ ⟨l, _, _, _, _, _, _, _, rfl, by simp, hl, hlm⟩
      refine ⟨.inl ⟨by have := hx3.1; omega, by have := hx3.2.1; omega⟩, ?_⟩
      refine ifK_d (fun c2 => ?_) fun _ => hnx _ ⟨l, _, _, _, _, _, _, _, rfl, by simp, hl, hlm⟩
      refine ⟨by omega, by omega, ?_⟩
      unfold rngD
      refine comp_map (fun k : Nat => D.int (0 + (k : Nat))) (fun k : Nat => W2 (x.1 * (pn : Int), x.2 + (k : Int) * x.1)) (by simp; omega) ?_ ?_
      · intro k hk C hC
        have hk' := List.mem_range.mp hk
        rw [Int.zero_add]
        walk_at "d"
        exact ⟨.inl ⟨by have := hx3.1; omega, by have := hx3.2.1; omega⟩, .inl ⟨by omega, by omega⟩, hC⟩
      · have e1 : (List.range (Int.toNat (pn : Int))).map (fun k : Nat => W2 (x.1 * (pn : Int), x.2 + (k : Int) * x.1)) = (splitW x pn).map W2 := by
          unfold splitW; rw [List.map_map]; rfl
        rw [List.length_map] at c1
        obtain ⟨g1, g2⟩ := hx5 c2 (by omega)
        have e2 := congrArg List.length tk1
        have e3 := congrArg List.length tk2
        have e4 : (splitW x pn).length = pn := by simp [splitW]
        rw [List.length_map] at e2 e3
        unfold W2 at *
        rw [e1]
        walk_at "d"
        rw [tk1, tk2]
        simp only [List.length_append, List.length_map, e4, List.length_take, List.length_drop]
        refine ⟨by omega, by omega, ?_⟩
        rw [← List.map_append, ← List.map_append]
        exact hnx _ ⟨_, _, _, _, _, _, _, _, rfl, .inr rfl, g1, g2⟩
  · rintro _ ⟨l, s, a, b, c, d, e, f, rfl, hs, hl, hlm⟩
    have key : sp_law_mixed [.dk, .lst (l.map W2)] fun d => opTuple d Q := by
      refine ⟨_, .inl rfl, by simp; omega, fun ys hys => ?_⟩
      obtain ⟨l', hp, rfl⟩ := map_perm_inv hys
      exact q l' ⟨.perm hl.1 hp.symm, isW_perm hp hl.2⟩ (by rw [hp.length_eq]; exact hlm)
    rcases hs with rfl | rfl
    · walk_at "d"
      exact key
    · walk_at "d"
      exact key
end DL
namespace DL
def sp_law_held_lot : DSp := fun ds K => ∃ m : Nat, ds = [.dk, .int m] ∧ 1 ≤ m ∧ m ≤ 1000 ∧ ∀ l, (∀ p ∈ l, IsW p ∧ Sm p.1) → Cov l → l.length ≤ m → K (LotD l)
theorem ms_law_held_lot : MonoSp sp_law_held_lot := fun ds K K' h ⟨t, e, a, b, q⟩ => ⟨t, e, a, b, fun l hl h0 h1 => h _ (q l hl h0 h1)⟩
theorem len_law_held_lot : ∀ ds Q, sp_law_held_lot ds Q → ds.length = 2 := fun ds Q ⟨t, e, _⟩ => by rw [e]; rfl
def holds (p : Int × Int) (d : Int) : Prop := (d - p.2) % p.1 = 0
theorem holds_iff {p : Int × Int} {d : Int} (h : 0 < p.1) : holds p d ↔ ∃ k, d = p.2 + k * p.1 := by
  unfold holds
  constructor
  · intro e
    have := Int.mul_ediv_add_emod (d - p.2) p.1
    exact ⟨(d - p.2) / p.1, by rw [Int.mul_comm]; omega⟩
  · rintro ⟨k, rfl⟩
    rw [show p.2 + k * p.1 - p.2 = k * p.1 by omega]
    exact Int.mul_emod_left _ _
theorem cov_perm {l m : List (Int × Int)} (p : m.Perm l) (h : Cov l) : Cov m := fun d => by
  obtain ⟨x, hx, e⟩ := h d
  exact ⟨x, p.mem_iff.mpr hx, e⟩
theorem split_holds {p : Int × Int} {n : Nat} {d : Int} (hp : 0 < p.1) (hn : 1 ≤ n) (h : holds p d) : ∃ q ∈ splitW p n, holds q d := by
  obtain ⟨k, rfl⟩ := (holds_iff hp).mp h
  have hn' : (0 : Int) < n := by omega
  have e := Int.mul_ediv_add_emod k n
  have h0 := Int.emod_nonneg k (show (n : Int) ≠ 0 by omega)
  have h1 := Int.emod_lt_of_pos k hn'
  refine ⟨(p.1 * (n : Int), p.2 + ((k % n).toNat : Int) * p.1), ?_, ?_⟩
  · unfold splitW
    exact List.mem_map.mpr ⟨(k % n).toNat, List.mem_range.mpr (by omega), rfl⟩
  · refine (holds_iff (Int.mul_pos hp hn')).mpr ⟨k / n, ?_⟩
    show p.2 + k * p.1 = p.2 + ((k % n).toNat : Int) * p.1 + k / n * (p.1 * n)
    have e2 : ((k % n).toNat : Int) = k % n := by omega
    rw [e2, Int.add_assoc, show k / n * (p.1 * n) = n * (k / n) * p.1 by rw [Int.mul_comm (n : Int) (k / n), Int.mul_assoc, Int.mul_comm p.1], ← Int.add_mul, show k % ↑n + ↑n * (k / ↑n) = k by omega]
theorem gr_cov {l : List (Int × Int)} (h : Gr l) : Cov l ∧ ∀ p ∈ l, 0 < p.1 := by
  induction h with
  | one => exact ⟨fun d => ⟨(1, 0), by simp, Int.emod_one _⟩, by simp⟩
  | @step a b p n _ h2 _ ih =>
    have hp := ih.2 p (by simp)
    refine ⟨fun d => ?_, fun q hq => ?_⟩
    · obtain ⟨q, hq, e⟩ := ih.1 d
      rcases List.mem_append.mp hq with hq | hq
      · exact ⟨q, by simp [hq], e⟩
      · rcases List.mem_cons.mp hq with rfl | hq
        · obtain ⟨r, hr, e'⟩ := split_holds (n := n) hp (by omega) e
          exact ⟨r, by simp [hr], e'⟩
        · exact ⟨q, by simp [hq], e⟩
    · rcases List.mem_append.mp hq with hq | hq
      · rcases List.mem_append.mp hq with hq | hq
        · exact ih.2 q (by simp [hq])
        · unfold splitW at hq
          obtain ⟨k, hk, rfl⟩ := List.mem_map.mp hq
          exact Int.mul_pos hp (by omega)
      · exact ih.2 q (by simp [hq])
  | perm _ p ih => exact ⟨cov_perm p.symm ih.1, isW_perm p.symm ih.2⟩
def shiftL' (l : List (Int × Int)) (d : Int) : List (Int × Int) := l.map fun p => (p.1, (p.2 + d) % p.1)
theorem isW_shift {P : Int → Prop} {l : List (Int × Int)} (d : Int) (h : ∀ p ∈ l, IsW p ∧ P p.1) : ∀ p ∈ shiftL' l d, IsW p ∧ P p.1 := by
  intro p hp
  obtain ⟨q, hq, rfl⟩ := List.mem_map.mp hp
  obtain ⟨⟨h1, h2, h3, h4⟩, hP⟩ := h q hq
  exact ⟨⟨h1, h2, Int.emod_nonneg _ (by omega), Int.emod_lt_of_pos _ (by omega)⟩, hP⟩
theorem holds_shift {p : Int × Int} {d e : Int} : holds (p.1, (p.2 + d) % p.1) (e + d) ↔ holds p e := by
  unfold holds
  show (e + d - (p.2 + d) % p.1) % p.1 = 0 ↔ (e - p.2) % p.1 = 0
  rw [Int.sub_emod, Int.emod_emod, ← Int.sub_emod, show e + d - (p.2 + d) = e - p.2 by omega]
theorem cov_shift {l : List (Int × Int)} (d : Int) (h : Cov l) : Cov (shiftL' l d) := fun e => by
  obtain ⟨p, hp, hh⟩ := h (e - d)
  refine ⟨_, List.mem_map.mpr ⟨p, hp, rfl⟩, ?_⟩
  have := holds_shift (p := p) (d := d) (e := e - d)
  rw [show e - d + d = e by omega] at this
  exact this.mpr hh
def lot5 : List (Int × Int) := [(2, 0), (3, 0), (4, 1), (6, 5), (12, 7)]
theorem cov5 : Cov lot5 := fun d => by
  have h : ∀ r : Fin 12, ∃ p ∈ lot5, ((r.val : Int) - p.2) % p.1 = 0 := by decide
  have h0 := Int.emod_nonneg d (show (12 : Int) ≠ 0 by decide)
  have h1 := Int.emod_lt_of_pos d (show (0 : Int) < 12 by decide)
  obtain ⟨p, hp, e⟩ := h ⟨(d % 12).toNat, by omega⟩
  refine ⟨p, hp, ?_⟩
  have hd : p.1 ∣ 12 := (show ∀ p ∈ lot5, p.1 ∣ 12 by decide) p hp
  have e2 : (((d % 12).toNat : Nat) : Int) = d % 12 := by omega
  rw [show (((⟨(d % 12).toNat, by omega⟩ : Fin 12)).val : Int) = d % 12 from e2] at e
  rw [Int.sub_emod, ← Int.emod_emod_of_dvd d hd, ← Int.sub_emod]
  exact e
theorem isW5 : ∀ p ∈ lot5, IsW p ∧ Sm p.1 := by
  unfold IsW; decide
end DL
def b_law_held_lot : DSm :=
  (dSeq (dSet 2 (dCall sp_law_one (dAc (dVar 0) (dAc (dFrz (dLst (dAc (dTup (dAc (dTup (dAc (dC (.int 2)) (dAc (dC (.int 0)) dA0))) (dAc (dTup (dAc (dC (.int 3)) (dAc (dC (.int 0)) dA0))) (dAc (dTup (dAc (dC (.int 4)) (dAc (dC (.int 1)) dA0))) (dAc (dTup (dAc (dC (.int 6)) (dAc (dC (.int 5)) dA0))) (dAc (dTup (dAc (dC (.int 12)) (dAc (dC (.int 7)) dA0))) dA0)))))) (dAc (dCall sp_law_grown (dAc (dVar 0) (dAc (dVar 1) dA0))) (dAc (dCall sp_law_grown (dAc (dVar 0) (dAc (dVar 1) dA0))) dA0))))) dA0))))
  (dSeq (dIf (dTst (dOp opGt (.v (dUn opLen (.n 2))) (.n 1))) (dSet 2 (dCall sp_law_grown (dAc (dVar 0) (dAc (dVar 1) dA0)))) dNext)
  (dSeq (dSet 3 (dCall sp_draw (dAc (dVar 0) (dAc (dC (.int 12)) dA0))))
  (dSeq (dSetL 4 (dComp (dSeqI (dVar 2)) (.tp [(.nm 5), (.nm 6)]) dYes (dTup (dAc (dVar 5) (dAc (dOp opMod (.v (dUn opInt (.v (dOp opAdd (.n 6) (.n 3))))) (.n 5)) dA0))) [5, 6]))
  (dSeq (dWhile (dAndT (dTst (dOp opLt (.v (dUn opLen (.n 4))) (.n 1))) (dTst (dOp opEq (.v (dCall sp_draw (dAc (dVar 0) (dAc (dC (.int 3)) dA0)))) (.v (dC (.int 0)))))) (dDrop (dAppend 4 (dCall sp_law_watch (dAc (dVar 0) (dAc (dFrz (dLst (dAc (dC (.int 2)) (dAc (dC (.int 3)) (dAc (dC (.int 4)) (dAc (dC (.int 6)) (dAc (dC (.int 8)) (dAc (dC (.int 12)) dA0)))))))) dA0))))))
  (dRet (dUn opTuple (.v (dCall sp_law_mixed (dAc (dVar 0) (dAc (dVar 4) dA0)))))))))))
def N_law_held_lot : List Str := ["deck", "most", "lot", "by", "moved", "turn", "first"]
namespace DL
theorem law_held_lot_ok : ∀ ds Q, sp_law_held_lot ds Q → b_law_held_lot (endD Q) (startD N_law_held_lot ds) := by
  rintro _ Q ⟨m, rfl, hm1, hm, q⟩
  show b_law_held_lot (endD Q) [some (.val .dk), some (.val (.int m)), none, none, none, none, none]
  unfold b_law_held_lot
  walk_at "d"
  refine ⟨m, rfl, hm1, hm, fun l1 g1 n1 => ⟨m, rfl, hm1, hm, fun l2 g2 n2 => ?_⟩⟩
  refine ⟨_, .inl rfl, (nomatch ·), by simp, fun x hx => ?_⟩
  have hx' : ∃ l : List (Int × Int), x = .tup (l.map W2) ∧ (∀ p ∈ l, IsW p ∧ Sm p.1) ∧ Cov l ∧ l.length ≤ 1000 := by
    simp only [List.mem_cons, List.mem_nil_iff, or_false] at hx
    rcases hx with rfl | rfl | rfl
    · exact ⟨lot5, rfl, isW5, cov5, by decide⟩
    · exact ⟨l1, rfl, g1.2, (gr_cov g1.1).1, by omega⟩
    · exact ⟨l2, rfl, g2.2, (gr_cov g2.1).1, by omega⟩
  obtain ⟨l, rfl, hl1, hl2, hl3⟩ := hx'
  clear hx
  walk_at "d"
  rw [List.length_map]
  refine if_call (.tup (l.map W2)) (fun d => ∃ l : List (Int × Int), d = .tup (l.map W2) ∧ (∀ p ∈ l, IsW p ∧ Sm p.1) ∧ Cov l ∧ l.length ≤ m) ms_law_grown (by walk_at "d"; exact id) ?_ ?_ ?_
  · exact fun _ => ⟨m, rfl, hm1, hm, fun l g n => ⟨l, rfl, g.2, (gr_cov g.1).1, n⟩⟩
  · exact fun c => ⟨l, rfl, hl1, hl2, by have := of_decide_eq_false c; omega⟩
  clear hl1 hl2 hl3 l g1 g2 n1 n2 l1 l2
  rintro _ ⟨l, rfl, hl1, hl2, hl3⟩
  refine ⟨by decide, by decide, fun by_ h0 h1 => ?_⟩
  walk_at "d"
  refine comp_map W2 (fun p => W2 (p.1, (p.2 + by_) % p.1)) (by omega) ?_ ?_
  · intro p' hp' C hC
    have hp1 := (hl1 p' hp').1.1
    unfold W2 at hC ⊢
    walk_at "d"
    exact ⟨by omega, hC⟩
  · have e : (l.map fun p => W2 (p.1, (p.2 + by_) % p.1)) = (shiftL' l by_).map W2 := by
      unfold shiftL'; rw [List.map_map]; rfl
    rw [e]
    walk_at "d"
    refine while_run (fun n δ => ∃ (l' : List (Int × Int)) (a b : Option Sl), δ = [some (.val .dk), some (.val (.int m)), some (.val (.tup (l.map W2))), some (.val (.int by_)), some (.own (.l (l'.map W2))), a, b] ∧ (∀ p ∈ l', IsW p ∧ Sm p.1) ∧ Cov l' ∧ l'.length ≤ m ∧ n = m - l'.length) _ ⟨_, _, _, rfl, isW_shift (P := Sm) by_ hl1, cov_shift by_ hl2, by simp [shiftL']; omega, rfl⟩ ?_
    rintro n _ ⟨l', a, b, rfl, g1, g2, g3, rfl⟩ nx hnx
    have hend : sp_law_mixed [.dk, .lst (l'.map W2)] fun d => opTuple d Q := by
      refine ⟨_, .inl rfl, by simp; omega, fun ys hys => ?_⟩
      obtain ⟨m', hp, rfl⟩ := map_perm_inv hys
      exact q m' (isW_perm hp g1) (cov_perm hp g2) (by rw [hp.length_eq]; exact g3)
    walk_at "d"
    rw [List.length_map]
    refine ifK_d (fun c1 => ⟨by decide, by decide, fun i _ _ => ?_⟩) fun _ => hend
    refine ifK_d (fun c2 => ?_) fun _ => hend
    refine ⟨[2, 3, 4, 6, 8, 12], .inl rfl, (nomatch ·), by decide, by decide, fun t ht f f0 f1 => ⟨by omega, ?_⟩⟩
    have ht' : 1 ≤ t ∧ Sm t := (show ∀ t ∈ [2, 3, 4, 6, 8, 12], (1 : Int) ≤ t ∧ Sm t by decide) t ht
    refine hnx (m - (l' ++ [(t, f)]).length) _ (by simp; omega) ⟨l' ++ [(t, f)], _, _, by simp only [List.map_append, List.map_cons, List.map_nil, W2] <;> rfl, ?_, ?_, by simp; omega, rfl⟩
    · intro p hp
      rcases List.mem_append.mp hp with hp | hp
      · exact g1 p hp
      · rcases List.mem_singleton.mp hp with rfl
        exact ⟨isW_of ht'.1 (by have := ht'.2.1; omega) f0 f1, ht'.2⟩
    · intro d
      obtain ⟨p, hp, e⟩ := g2 d
      exact ⟨p, by simp [hp], e⟩
end DL
namespace DL
def sp_law_great_lot : DSp := fun ds K => ∃ m : Nat, ds = [.dk, .int m] ∧ m ≤ 1000 ∧ ∀ l, IsLot l → l.length ≤ m → K (LotD l)
theorem ms_law_great_lot : MonoSp sp_law_great_lot := fun ds K K' h ⟨t, e, a, q⟩ => ⟨t, e, a, fun l hl h0 => h _ (q l hl h0)⟩
theorem len_law_great_lot : ∀ ds Q, sp_law_great_lot ds Q → ds.length = 2 := fun ds Q ⟨t, e, _⟩ => by rw [e]; rfl
end DL
def b_law_great_lot : DSm :=
  (dSeq (dPar 3 4 (.v (dCall sp_law_one (dAc (dVar 0) (dAc (dFrz (dLst (dAc (dC (.int 1)) (dAc (dC (.int 6)) (dAc (dC (.int 30)) (dAc (dC (.int 1000)) (dAc (dOp opPow (.v (dC (.int 2))) (.v (dC (.int 20)))) (dAc (dC (.int 999983)) dA0)))))))) dA0)))) (.o (dLst dA0)))
  (dSeq (dFor (dRng1 (dCall sp_draw (dAc (dVar 0) (dAc (dOp opAdd (.n 1) (.v (dC (.int 1)))) dA0)))) (.nm 2) (dSeq (dSet 5 (dOp opMul (.n 3) (.v (dOp opAdd (.v (dC (.int 1))) (.v (dCall sp_draw (dAc (dVar 0) (dAc (dC (.int 900)) dA0))))))))
  (dDrop (dAppend 4 (dTup (dAc (dVar 5) (dAc (dCall sp_draw (dAc (dVar 0) (dAc (dVar 5) dA0))) dA0)))))))
  (dRet (dUn opTuple (.n 4)))))
def N_law_great_lot : List Str := ["deck", "most", "k", "base", "found", "turn"]
namespace DL
theorem law_great_lot_ok : ∀ ds Q, sp_law_great_lot ds Q → b_law_great_lot (endD Q) (startD N_law_great_lot ds) := by
  rintro _ Q ⟨m, rfl, hm, q⟩
  show b_law_great_lot (endD Q) [some (.val .dk), some (.val (.int m)), none, none, none, none]
  unfold b_law_great_lot
  walk_at "d"
  refine ⟨⟨by decide, by decide, by decide⟩, _, .inl rfl, (nomatch ·), by decide, fun x hx => ?_⟩
  have hx' : ∃ b : Int, x = .int b ∧ 1 ≤ b ∧ b ≤ 1048576 := by
    simp only [List.mem_cons, List.mem_nil_iff, or_false] at hx
    rcases hx with rfl | rfl | rfl | rfl | rfl | rfl <;> exact ⟨_, rfl, by decide, by decide⟩
  obtain ⟨b, rfl, hb1, hb2⟩ := hx'
  refine ⟨by omega, by omega, fun i h0 h1 => ⟨by omega, by omega, ?_⟩⟩
  refine for_rng (fun k δ => ∃ (l : List (Int × Int)) (u v : Option Sl), δ = [some (.val .dk), some (.val (.int m)), u, some (.val (.int b)), some (.own (.l (l.map W2))), v] ∧ IsLot l ∧ l.length = k) ⟨[], _, _, rfl, fun p h => (nomatch h), rfl⟩ ?_ ?_
  · rintro k _ hk ⟨l, u, v, rfl, g1, rfl⟩ nx hnx
    walk_at "d"
    refine ⟨by decide, by decide, fun r r0 r1 => ?_⟩
    have a1 : b * 1 ≤ b * (1 + r) := Int.mul_le_mul_of_nonneg_left (by omega) (by omega)
    have a2 : b * (1 + r) ≤ 1048576 * (1 + r) := Int.mul_le_mul_of_nonneg_right (by omega) (by omega)
    refine ⟨.inl ⟨by omega, by omega⟩, by omega, by omega, fun f f0 f1 => ⟨by simp; omega, ?_⟩⟩
    refine hnx _ ⟨l ++ [(b * (1 + r), f)], _, _, by simp only [List.map_append, List.map_cons, List.map_nil, W2] <;> rfl, ?_, by simp⟩
    intro p hp
    rcases List.mem_append.mp hp with hp | hp
    · exact g1 p hp
    · rcases List.mem_singleton.mp hp with rfl
      exact isW_of (by omega) (by omega) f0 f1
  · rintro _ ⟨l, u, v, rfl, g1, g2⟩
    walk_at "d"
    exact q l g1 (by omega)
end DL
namespace DL
end DL
namespace DL
end DL
namespace DL
end DL
namespace DL
def IsDay (d : Int) : Prop := -2000000000000000000 < d ∧ d < 2000000000000000000
end DL
open PySem PySem.Spec PyProof.Rows L2 DL
namespace DL
def IsW0 (p : Int × Int) : Prop := 0 < p.1 ∧ 0 ≤ p.2 ∧ p.2 < p.1
def IsL0 (l : List (Int × Int)) : Prop := ∀ p ∈ l, IsW0 p
theorem IsLot.l0 {l : List (Int × Int)} (h : IsLot l) : IsL0 l := fun p hp => by
  obtain ⟨h1, h2, h3, h4⟩ := h p hp
  exact ⟨by omega, h3, h4⟩
theorem IsL0.pos {l : List (Int × Int)} (h : IsL0 l) : ∀ p ∈ l, 0 < p.1 := fun p hp => (h p hp).1
def holdL (l : List (Int × Int)) (d : Int) : List Int := (l.zipIdx).filterMap fun x => if (d - x.1.2) % x.1.1 = 0 then some (x.2 : Int) else none
theorem holdL_length (l : List (Int × Int)) (d : Int) : (holdL l d).length = tally l d := by
  unfold holdL
  have key : ∀ (l : List (Int × Int)) (n : Nat), ((l.zipIdx n).filterMap fun x => if (d - x.1.2) % x.1.1 = 0 then some (x.2 : Int) else none).length = tally l d := by
    intro l
    induction l with
    | nil => intro n; rfl
    | cons p l ih =>
      intro n
      have e := ih (n + 1)
      unfold tally at e ⊢
      rw [List.zipIdx_cons, List.filterMap_cons, List.filter_cons]
      by_cases c : (d - p.2) % p.1 = 0 <;> simp [c, e]
  exact key l 0
theorem tally_le (l : List (Int × Int)) (d : Int) : tally l d ≤ l.length := List.length_filter_le _ _
def IsFO (l : List (Int × Int)) (d : Int) (n : Nat) (r : D) : Prop :=
  (r = .non ∧ ∀ j : Nat, j < n → tally l (d + j) ≠ 0) ∨ ∃ j : Nat, j < n ∧ r = .int (d + j) ∧ tally l (d + j) = 0 ∧ ∀ i : Nat, i < j → tally l (d + i) ≠ 0
theorem zipIdx_range (l : List (Int × Int)) : l.zipIdx = (List.range l.length).map fun i => (l.getD i (1, 0), i) := by
  apply List.ext_getElem
  · simp
  · intro i h1 h2
    simp at h1 h2
    simp [h1]
theorem holdL_range (l : List (Int × Int)) (d : Int) : holdL l d = (List.range l.length).filterMap fun i => if (d - (l.getD i (1, 0)).2) % (l.getD i (1, 0)).1 = 0 then some (i : Int) else none := by
  unfold holdL
  rw [zipIdx_range, List.filterMap_map]
  rfl
theorem blk_intsT (l : List Int) : (D.tup (l.map D.int)).blk = l.length := by
  rw [blk_tup]
  induction l with
  | nil => rfl
  | cons a l ih => rw [List.map_cons, blks_cons, ih, blk_int, List.length_cons]; omega
theorem getD_mem {l : List (Int × Int)} {i : Nat} (h : i < l.length) : l.getD i (1, 0) ∈ l := by
  rw [List.getD_eq_getElem?_getD, List.getElem?_eq_getElem h]
  exact List.getElem_mem h
theorem ok_intT (n : Nat) (l : List Int) : D.ok (n + 1) (.tup (l.map D.int)) = true := by
  rw [ok_tup, List.all_map, List.all_eq_true]; intro p _; rfl
end DL
namespace DL
end DL
namespace DL
end DL
namespace DL
end DL
namespace DL
end DL
namespace DL
end DL
open PySem PySem.Spec PyProof.Rows L2 DL
namespace DL
def IsNH (l : List (Int × Int)) (d : Int) (r : D) : Prop :=
  (l = [] ∧ r = .non) ∨ ∃ m, r = .int m ∧ (∃ p ∈ l, m = d + (p.2 - d) % p.1) ∧ ∀ p ∈ l, m ≤ d + (p.2 - d) % p.1
theorem tally_pos {l : List (Int × Int)} {d : Int} : 0 < tally l d ↔ ∃ p ∈ l, (d - p.2) % p.1 = 0 := by
  unfold tally
  rw [List.length_pos_iff_exists_mem]
  constructor
  · rintro ⟨p, hp⟩
    have := List.mem_filter.mp hp
    exact ⟨p, this.1, of_decide_eq_true this.2⟩
  · rintro ⟨p, hp, e⟩
    exact ⟨p, List.mem_filter.mpr ⟨hp, decide_eq_true e⟩⟩
end DL
namespace DL
end DL
namespace DL
end DL
open PySem PySem.Spec PyProof.Rows L2 DL
namespace DL
theorem dvdL {s a : Int} (b : Int) (h : s ∣ a) : s ∣ b * a := Int.dvd_trans h (Int.dvd_mul_left _ _)
def lcmI (a b : Int) : Int := a / (Int.gcd a b : Int) * b
theorem gcdI_pos {a b : Int} (h : 0 < a ∨ 0 < b) : 0 < (Int.gcd a b : Int) := by
  have : Int.gcd a b ≠ 0 := by
    intro e
    have := Int.gcd_eq_zero_iff.mp e
    omega
  omega
theorem lcmI_eq {a b : Int} (ha : 0 < a) (hb : 0 < b) : lcmI a b = (Int.lcm a b : Int) := by
  obtain ⟨m, rfl⟩ := Int.eq_ofNat_of_zero_le (Int.le_of_lt ha)
  obtain ⟨n, rfl⟩ := Int.eq_ofNat_of_zero_le (Int.le_of_lt hb)
  unfold lcmI
  show (m : Int) / ((Nat.gcd m n : Nat) : Int) * n = ((Nat.lcm m n : Nat) : Int)
  rw [← Int.natCast_ediv, ← Int.natCast_mul]
  congr 1
  exact (Nat.mul_div_right_comm (Nat.gcd_dvd_left m n) n).symm
theorem lcmI_left {a b : Int} (ha : 0 < a) (hb : 0 < b) : a ∣ lcmI a b := by rw [lcmI_eq ha hb]; exact Int.dvd_lcm_left a b
theorem lcmI_right {a b : Int} : b ∣ lcmI a b := ⟨a / (Int.gcd a b : Int), by unfold lcmI; rw [Int.mul_comm]⟩
theorem lcmI_pos {a b : Int} (ha : 0 < a) (hb : 0 < b) : 0 < lcmI a b := by
  unfold lcmI
  refine Int.mul_pos ?_ hb
  have g := gcdI_pos (a := a) (b := b) (.inl ha)
  obtain ⟨k, hk⟩ := Int.gcd_dvd_left a b
  generalize (Int.gcd a b : Int) = c at g hk ⊢
  rw [hk, Int.mul_ediv_cancel_left _ (by omega)]
  rcases (show 0 < k ∨ k ≤ 0 by omega) with h | h
  · exact h
  · have := Int.mul_nonpos_of_nonneg_of_nonpos (a := c) (b := k) (by omega) h
    omega
theorem lcmI_dvd {a b x : Int} (ha : 0 < a) (hb : 0 < b) (h : a ∣ x) (h' : b ∣ x) : lcmI a b ∣ x := by
  rw [lcmI_eq ha hb]
  have e : Int.lcm a b ∣ x.natAbs := Int.lcm_dvd (by rw [Int.dvd_natAbs]; exact h) (by rw [Int.dvd_natAbs]; exact h')
  rw [← Int.dvd_natAbs]
  exact Int.natCast_dvd_natCast.mpr e
theorem lcmI_le {a b : Int} (ha : 0 < a) (hb : 0 < b) : lcmI a b ≤ a * b := by
  unfold lcmI
  refine Int.mul_le_mul_of_nonneg_right ?_ (by omega)
  exact Int.ediv_le_self _ (by omega)
def IsJoin (p q : Int × Int) (r : D) : Prop :=
  (r = .non ∧ ∀ d, ¬ (p.1 ∣ d - p.2 ∧ q.1 ∣ d - q.2)) ∨ ∃ f, r = W2 (lcmI p.1 q.1, f) ∧ 0 ≤ f ∧ f < lcmI p.1 q.1 ∧ p.1 ∣ f - p.2 ∧ q.1 ∣ f - q.2
theorem IsJoin.holds {p q : Int × Int} {f : Int} (hp : 0 < p.1) (hq : 0 < q.1) (h1 : p.1 ∣ f - p.2) (h2 : q.1 ∣ f - q.2) (d : Int) :
    lcmI p.1 q.1 ∣ d - f ↔ p.1 ∣ d - p.2 ∧ q.1 ∣ d - q.2 := by
  constructor
  · intro h
    have a := Int.dvd_trans (lcmI_left hp hq) h
    have b := Int.dvd_trans (lcmI_right (a := p.1)) h
    have a' := Int.dvd_add a h1
    have b' := Int.dvd_add b h2
    rw [show d - f + (f - p.2) = d - p.2 by omega] at a'
    rw [show d - f + (f - q.2) = d - q.2 by omega] at b'
    exact ⟨a', b'⟩
  · rintro ⟨a, b⟩
    refine lcmI_dvd hp hq ?_ ?_
    · have := Int.dvd_sub a h1
      rw [show d - p.2 - (f - p.2) = d - f by omega] at this
      exact this
    · have := Int.dvd_sub b h2
      rw [show d - q.2 - (f - q.2) = d - f by omega] at this
      exact this
end DL
namespace DL
end DL
namespace DL
end DL
namespace DL
end DL
namespace DL
end DL
namespace DL
end DL
open PySem PySem.Spec PyProof.Rows L2 DL
namespace DL
theorem bez : ∀ a b : Nat, ∃ x y : Int, (a : Int) * x + (b : Int) * y = (Nat.gcd a b : Int) := by
  intro a b
  induction a, b using Nat.gcd.induction with
  | H0 n => exact ⟨0, 1, by simp⟩
  | H1 m n h ih =>
    obtain ⟨x, y, e⟩ := ih
    rw [← Nat.gcd_rec] at e
    have d := Int.emod_add_mul_ediv (n : Int) m
    refine ⟨y - (n : Int) / m * x, x, ?_⟩
    rw [← e, Int.natCast_emod, Int.mul_sub]
    have : ((n : Int) % m) * x + m * ((n : Int) / m * x) = n * x := by
      rw [← Int.mul_assoc, ← Int.add_mul, d]
    omega
theorem bezI {a b : Int} (ha : 0 < a) (hb : 0 < b) : ∃ x y : Int, a * x + b * y = (Int.gcd a b : Int) := by
  obtain ⟨m, rfl⟩ := Int.eq_ofNat_of_zero_le (Int.le_of_lt ha)
  obtain ⟨n, rfl⟩ := Int.eq_ofNat_of_zero_le (Int.le_of_lt hb)
  exact bez m n
theorem solve_of {a u x : Int} (ha : 0 < a) (hu : 0 < u) (h : (Int.gcd a u : Int) ∣ x) : ∃ p, u ∣ a * p - x := by
  obtain ⟨s, t, e⟩ := bezI ha hu
  obtain ⟨k, rfl⟩ := h
  refine ⟨s * k, ⟨-(t * k), ?_⟩⟩
  rw [← e, Int.add_mul, Int.mul_neg, Int.mul_assoc, Int.mul_assoc]
  omega
theorem gcd_dvd_of {a u x p : Int} (h : u ∣ a * p - x) : (Int.gcd a u : Int) ∣ x := by
  have h1 : (Int.gcd a u : Int) ∣ a * p := Int.dvd_trans (Int.gcd_dvd_left a u) (Int.dvd_mul_right a p)
  have h2 : (Int.gcd a u : Int) ∣ a * p - x := Int.dvd_trans (Int.gcd_dvd_right a u) h
  have := Int.dvd_sub h1 h2
  rw [show a * p - (a * p - x) = x by omega] at this
  exact this
theorem gcd_lcmI {a b u x : Int} (ha : 0 < a) (hb : 0 < b) (hu : 0 < u) (h1 : (Int.gcd a u : Int) ∣ x) (h2 : (Int.gcd b u : Int) ∣ x) : (Int.gcd (lcmI a b) u : Int) ∣ x := by
  obtain ⟨p, hp⟩ := solve_of ha hu h1
  obtain ⟨q, hq⟩ := solve_of hb hu h2
  obtain ⟨s, t, e⟩ := bezI ha hb
  have g0 := gcdI_pos (a := a) (b := b) (.inl ha)
  obtain ⟨a', ea⟩ := Int.gcd_dvd_left a b
  obtain ⟨b', eb⟩ := Int.gcd_dvd_right a b
  generalize hg : (Int.gcd a b : Int) = g at e g0 ea eb
  have e1 : a' * s + b' * t = 1 := by
    have : g * (a' * s + b' * t) = g * 1 := by rw [Int.mul_add, ← Int.mul_assoc, ← Int.mul_assoc, ← ea, ← eb, e, Int.mul_one]
    exact Int.eq_of_mul_eq_mul_left (by omega) this
  have eL : lcmI a b = a' * b := by
    unfold lcmI
    rw [hg, ea, Int.mul_ediv_cancel_left _ (by omega)]
  have eL2 : lcmI a b = b' * a := by
    rw [eL, eb, ea, Int.mul_left_comm a' g b', Int.mul_left_comm b' g a', Int.mul_comm a' b']
  refine gcd_dvd_of (p := s * q + t * p) ?_
  have h3 : u ∣ a' * s * (b * q - x) + b' * t * (a * p - x) := Int.dvd_add (dvdL _ hq) (dvdL _ hp)
  have : lcmI a b * (s * q + t * p) - x = a' * s * (b * q - x) + b' * t * (a * p - x) := by
    have i1 : lcmI a b * (s * q) = a' * s * (b * q) := by rw [eL]; simp only [Int.mul_assoc, Int.mul_left_comm]
    have i2 : lcmI a b * (t * p) = b' * t * (a * p) := by rw [eL2]; simp only [Int.mul_assoc, Int.mul_left_comm]
    rw [Int.mul_add, i1, i2, Int.mul_sub, Int.mul_sub]
    have : x = a' * s * x + b' * t * x := by rw [← Int.add_mul, e1, Int.one_mul]
    omega
  rw [this]
  exact h3
def lcmL (l : List (Int × Int)) : Int := l.foldl (fun T p => lcmI T p.1) 1
theorem lcmL_snoc (l : List (Int × Int)) (p : Int × Int) : lcmL (l ++ [p]) = lcmI (lcmL l) p.1 := by
  unfold lcmL; rw [List.foldl_append]; rfl
theorem snoc_ind {α : Type} {P : List α → Prop} (h0 : P []) (hs : ∀ l a, P l → P (l ++ [a])) (l : List α) : P l := by
  have : ∀ r : List α, P r.reverse := by
    intro r
    induction r with
    | nil => exact h0
    | cons a r ih => rw [List.reverse_cons]; exact hs _ _ ih
  rw [← List.reverse_reverse l]; exact this _
theorem lcmL_pos {l : List (Int × Int)} : (∀ p ∈ l, 0 < p.1) → 0 < lcmL l := by
  induction l using snoc_ind with
  | h0 => intro _; decide
  | hs l a ih =>
    intro h
    rw [lcmL_snoc]
    exact lcmI_pos (ih fun p hp => h p (by simp [hp])) (h a (by simp))
theorem lcmL_le {l : List (Int × Int)} : (∀ p ∈ l, 0 < p.1 ∧ p.1 ≤ 1000000000000) → lcmL l ≤ 1000000000000 ^ l.length := by
  induction l using snoc_ind with
  | h0 => intro _; decide
  | hs l a ih =>
    intro h
    have h1 := ih fun p hp => h p (by simp [hp])
    have h0 := lcmL_pos (l := l) fun p hp => (h p (by simp [hp])).1
    have ha := h a (by simp)
    rw [lcmL_snoc, List.length_append, List.length_singleton, Int.pow_succ]
    refine Int.le_trans (lcmI_le h0 ha.1) (Int.le_trans (Int.mul_le_mul_of_nonneg_left ha.2 (by omega)) (Int.mul_le_mul_of_nonneg_right h1 (by omega)))
def PairM (l : List (Int × Int)) : Prop := ∀ p ∈ l, ∀ q ∈ l, (Int.gcd p.1 q.1 : Int) ∣ p.2 - q.2
def IsMeet (l : List (Int × Int)) (r : D) : Prop :=
  (r = .non ∧ ∀ d, ¬ ∀ p ∈ l, p.1 ∣ d - p.2) ∨ ∃ f, r = W2 (lcmL l, f) ∧ 0 ≤ f ∧ f < lcmL l ∧ ∀ p ∈ l, p.1 ∣ f - p.2
theorem gcd_lcmL {u x : Int} (hu : 0 < u) {l : List (Int × Int)} : (∀ p ∈ l, 0 < p.1) → (∀ p ∈ l, (Int.gcd p.1 u : Int) ∣ x) → (Int.gcd (lcmL l) u : Int) ∣ x := by
  induction l using snoc_ind with
  | h0 => intro _ _; rw [show lcmL [] = 1 from rfl, Int.one_gcd]; exact Int.one_dvd x
  | hs l a ih =>
    intro h h'
    rw [lcmL_snoc]
    exact gcd_lcmI (lcmL_pos fun p hp => h p (by simp [hp])) (h a (by simp)) hu (ih (fun p hp => h p (by simp [hp])) fun p hp => h' p (by simp [hp])) (h' a (by simp))
theorem lcmL_dvd {x : Int} {l : List (Int × Int)} : (∀ p ∈ l, 0 < p.1) → (∀ p ∈ l, p.1 ∣ x) → lcmL l ∣ x := by
  induction l using snoc_ind with
  | h0 => intro _ _; rw [show lcmL [] = 1 from rfl]; exact Int.one_dvd x
  | hs l a ih =>
    intro h h'
    rw [lcmL_snoc]
    exact lcmI_dvd (lcmL_pos fun p hp => h p (by simp [hp])) (h a (by simp)) (ih (fun p hp => h p (by simp [hp])) fun p hp => h' p (by simp [hp])) (h' a (by simp))
theorem dvd_lcmL {l : List (Int × Int)} : (∀ p ∈ l, 0 < p.1) → ∀ p ∈ l, p.1 ∣ lcmL l := by
  induction l using snoc_ind with
  | h0 => intro _ p hp; cases hp
  | hs l a ih =>
    intro h p hp
    rw [lcmL_snoc]
    have h0 := lcmL_pos (l := l) fun p hp => h p (by simp [hp])
    rcases List.mem_append.mp hp with hp | hp
    · exact Int.dvd_trans (ih (fun p hp => h p (by simp [hp])) p hp) (lcmI_left h0 (h a (by simp)))
    · rcases List.mem_singleton.mp hp with rfl
      exact lcmI_right
theorem pair_meet {l : List (Int × Int)} (hp : ∀ p ∈ l, 0 < p.1) {r : D} (h : IsMeet l r) : PairM l ↔ r ≠ .non := by
  constructor
  · intro hm e
    rcases h with ⟨_, h⟩ | ⟨f, e', _⟩
    ·
      have key : ∀ l : List (Int × Int), (∀ p ∈ l, 0 < p.1) → PairM l → ∃ d, ∀ p ∈ l, p.1 ∣ d - p.2 := by
        intro l
        induction l using snoc_ind with
        | h0 => intro _ _; exact ⟨0, fun p hp => nomatch hp⟩
        | hs l a ih =>
          intro hp hm
          obtain ⟨d, hd⟩ := ih (fun p hq => hp p (by simp [hq])) (fun p hq q hr => hm p (by simp [hq]) q (by simp [hr]))
          have ha := hp a (by simp)
          have hl : ∀ p ∈ l, 0 < p.1 := fun p hq => hp p (by simp [hq])
          have hg : (Int.gcd (lcmL l) a.1 : Int) ∣ a.2 - d := by
            refine gcd_lcmL ha hl fun p hq => ?_
            have h1 := hm a (by simp) p (by simp [hq])
            have h2 := Int.dvd_trans (Int.gcd_dvd_left p.1 a.1) (hd p hq)
            rw [Int.gcd_comm] at h1
            have := Int.dvd_sub h1 h2
            rw [show a.2 - p.2 - (d - p.2) = a.2 - d by omega] at this
            exact this
          obtain ⟨s, hs⟩ := solve_of (lcmL_pos hl) ha hg
          refine ⟨d + lcmL l * s, fun p hq => ?_⟩
          rcases List.mem_append.mp hq with hq | hq
          · have h1 := Int.dvd_add (hd p hq) (Int.dvd_trans (dvd_lcmL hl p hq) (Int.dvd_mul_right _ s))
            rw [show d - p.2 + lcmL l * s = d + lcmL l * s - p.2 by omega] at h1
            exact h1
          · rcases List.mem_singleton.mp hq with rfl
            rw [show d + lcmL l * s - p.2 = lcmL l * s - (p.2 - d) by omega]
            exact hs
      obtain ⟨d, hd⟩ := key l hp hm
      exact h d hd
    · rw [e] at e'; cases e'
  · intro hn
    rcases h with ⟨rfl, _⟩ | ⟨f, _, _, _, hf⟩
    · exact absurd rfl hn
    · intro p hp1 q hq1
      have h1 := Int.dvd_trans (Int.gcd_dvd_right p.1 q.1) (hf q hq1)
      have h2 := Int.dvd_trans (Int.gcd_dvd_left p.1 q.1) (hf p hp1)
      have := Int.dvd_sub h1 h2
      rw [show f - q.2 - (f - p.2) = p.2 - q.2 by omega] at this
      exact this
def pick (l : List (Int × Int)) (is : List Nat) : List (Int × Int) := is.map fun i => l.getD i (1, 0)
def natsT (is : List Nat) : D := .tup (is.map fun i : Nat => D.int (i : Int))
end DL
namespace DL
end DL
open PySem PySem.Spec PyProof.Rows L2 DL
namespace DL
mutual
def D.ilw : D → Bool
  | .non => true
  | .bl _ => true
  | .int i => decide (i.natAbs < 10 ^ 130)
  | .tup xs => ilws xs
  | .lst xs => ilws xs
  | _ => false
def ilws : List D → Bool
  | [] => true
  | x :: r => x.ilw && ilws r
end
theorem ilws_all (xs : List D) : ilws xs = xs.all D.ilw := by
  induction xs with
  | nil => simp [ilws]
  | cons x r ih => simp [ilws, ih]
theorem ten130 : 10 ^ 130 ≤ 2 ^ 1920 :=
  Nat.le_trans (Nat.pow_le_pow_left (show 10 ≤ 2 ^ 4 by decide) 130) (by rw [← Nat.pow_mul]; exact Nat.pow_le_pow_right (by decide) (by decide))
mutual
theorem D.ilw_short : ∀ d : D, d.ilw = true → PyData.showable d.py = true ∧ PyData.leavesShort 131 d.py = true
  | .non, _ => by simp [D.py, PyData.showable, PyData.leavesShort]
  | .bl _, _ => by simp [D.py, PyData.showable, PyData.leavesShort]
  | .int i, h => by
    have h' : i.natAbs < 10 ^ 130 := of_decide_eq_true (by simpa only [D.ilw] using h)
    simp only [D.py, PyData.showable, PyData.leavesShort]
    refine ⟨decide_eq_true ?_, decide_eq_true ?_⟩
    · by_cases hz : i.natAbs = 0
      · rw [hz]; decide
      · exact (Nat.log2_lt hz).mpr (Nat.lt_of_lt_of_le h' ten130)
    · have e := int_text_length_le10 (k := 130) (by decide) (a := i) h'
      show (Str.ofString (toString i)).length ≤ 131
      rw [PySem.ofString_length]; exact e
  | .tup xs, h => by simpa [D.py, PyData.showable, PyData.leavesShort] using ilws_short xs (by simpa [D.ilw] using h)
  | .lst xs, h => by simpa [D.py, PyData.showable, PyData.leavesShort] using ilws_short xs (by simpa [D.ilw] using h)
  | .str _, h => by simp [D.ilw] at h
  | .dct _ _, h => by simp [D.ilw] at h
  | .dk, h => by simp [D.ilw] at h
theorem ilws_short : ∀ ds : List D, ilws ds = true → PyData.showableAll (pys ds) = true ∧ PyData.leavesShortAll 131 (pys ds) = true
  | [], _ => by simp [pys, PyData.showableAll, PyData.leavesShortAll]
  | x :: r, h => by
    have h' : x.ilw = true ∧ ilws r = true := by simpa [ilws] using h
    have a := D.ilw_short x h'.1
    have b := ilws_short r h'.2
    simp [pys, PyData.showableAll, PyData.leavesShortAll, a, b]
end
theorem shw_ilw {d : D} (h : d.ilw = true) (hb : d.blk ≤ 100000) : d.shw = true := by
  obtain ⟨a, b⟩ := D.ilw_short d h
  have c := PyData.shown_le_bulk 131 (by decide) d.py b
  have hb' : d.py.bulk ≤ 100000 := hb
  have e : d.py.shown.length ≤ 16777216 := by
    have : (131 + 2) * d.py.bulk ≤ (131 + 2) * 100000 := Nat.mul_le_mul_left _ hb'
    omega
  unfold D.shw
  rw [a, decide_eq_true e]; rfl
end DL
namespace DL
def wholeD (d : D) (a b : Int) : Bool := match d with
  | .int v => decide (a ≤ v) && decide (v ≤ b)
  | _ => false
def sp_law_whole : DSp := fun ds K => ∃ (d : D) (a b : Int), ds = [d, .int a, .int b] ∧ d ≠ .dk ∧ K (.bl (wholeD d a b))
theorem ms_law_whole : MonoSp sp_law_whole := fun ds K K' h ⟨d, a, b, e, c, q⟩ => ⟨d, a, b, e, c, h _ q⟩
theorem len_law_whole : ∀ ds Q, sp_law_whole ds Q → ds.length = 3 := fun ds Q ⟨t, d, b, e, _⟩ => by rw [e]; rfl
end DL
def b_law_whole : DSm :=
  (dRet (dAnd (dUn (opIsA "int") (.n 0)) (dAnd (dNot (dUn (opIsA "bool") (.n 0))) (dChain (fun i j => decide (i ≤ j)) (fun i j => decide (i ≤ j)) (dVar 1) (dVar 0) (dVar 2)))))
def N_law_whole : List Str := ["value", "least", "most"]
namespace DL
theorem law_whole_ok : ∀ ds Q, sp_law_whole ds Q → b_law_whole (endD Q) (startD N_law_whole ds) := by
  rintro _ Q ⟨d, a, b, rfl, hd, q⟩
  show b_law_whole (endD Q) [some (.val d), some (.val (.int a)), some (.val (.int b))]
  unfold b_law_whole
  walk_at "e"
  refine ⟨hd, ?_⟩
  cases d with
  | int v =>
    walk_at "e"
    refine ifK_i (fun c => ?_) fun c => ?_
    · have q' : Q (.bl (decide (a ≤ v) && decide (v ≤ b))) := q
      rw [c, Bool.true_and] at q'
      exact q'
    · have q' : Q (.bl (decide (a ≤ v) && decide (v ≤ b))) := q
      rw [c, Bool.false_and] at q'
      exact q'
  | bl v => walk_at "e"; exact q
  | non => exact q
  | str v => exact q
  | tup v => exact q
  | lst v => exact q
  | dct t v => exact q
  | dk => exact absurd rfl hd
end DL
namespace DL
end DL
namespace DL
end DL
namespace DL
end DL
namespace DL
end DL
open PySem PySem.Spec PyProof.Rows L2 DL
namespace DL
theorem Fa2.snoc {α β : Type} {R : α → β → Prop} {l : List α} {m : List β} {a : α} {b : β} (h : Fa2 R l m) (r : R a b) : Fa2 R (l ++ [a]) (m ++ [b]) := by
  induction h with
  | nil => exact .cons r .nil
  | cons x _ ih => exact .cons x ih
theorem Fa2.right {α β : Type} {R : α → β → Prop} {l : List α} {m : List β} (h : Fa2 R l m) : ∀ b ∈ m, ∃ a ∈ l, R a b := by
  induction h with
  | nil => intro b hb; cases hb
  | @cons a b l m r _ ih =>
    intro x hx
    rcases List.mem_cons.mp hx with rfl | hx
    · exact ⟨a, by simp, r⟩
    · obtain ⟨y, hy, hr⟩ := ih x hx
      exact ⟨y, by simp [hy], hr⟩
end DL
namespace DL
end DL
namespace DL
end DL
open PySem PySem.Spec PyProof.Rows L2 DL
namespace DL
def IsLp (l : List (Int × Int)) : Prop := ∀ p ∈ l, 0 < p.1 ∧ p.1 ≤ 1000000000000
theorem IsLot.lp {l : List (Int × Int)} (h : IsLot l) : IsLp l := fun p hp => ⟨by have := (h p hp).1; omega, (h p hp).2.1⟩
theorem IsLp.pos {l : List (Int × Int)} (h : IsLp l) : ∀ p ∈ l, 0 < p.1 := fun p hp => (h p hp).1
def shareN (l : List (Int × Int)) : Int := (l.map fun p => lcmL l / p.1).sum
def fracD (a b : Int) : D := W2 (a / (Int.gcd a b : Int), b / (Int.gcd a b : Int))
theorem sum_nonneg : ∀ {l : List Int}, (∀ x ∈ l, 0 ≤ x) → 0 ≤ l.sum
  | [], _ => by simp
  | x :: l, h => by
    have a := h x (by simp)
    have b := sum_nonneg (l := l) fun y hy => h y (by simp [hy])
    simp; omega
theorem shareN_nonneg {l : List (Int × Int)} (h : IsLp l) : 0 ≤ shareN l := by
  refine sum_nonneg fun x hx => ?_
  obtain ⟨p, hp, rfl⟩ := List.mem_map.mp hx
  exact Int.ediv_nonneg (Int.le_of_lt (lcmL_pos h.pos)) (by have := (h p hp).1; omega)
end DL
namespace DL
end DL
namespace DL
end DL
namespace DL
end DL
namespace DL
end DL
namespace DL
def sp_law_dense_lot : DSp := fun ds K => ∃ m : Nat, ds = [.dk, .int m] ∧ 1 ≤ m ∧ m ≤ 30 ∧ ∀ l, IsLot l → l.length ≤ m → K (LotD l)
theorem ms_law_dense_lot : MonoSp sp_law_dense_lot := fun ds K K' h ⟨t, e, a, b, q⟩ => ⟨t, e, a, b, fun l hl h0 => h _ (q l hl h0)⟩
theorem len_law_dense_lot : ∀ ds Q, sp_law_dense_lot ds Q → ds.length = 2 := fun ds Q ⟨t, e, _⟩ => by rw [e]; rfl
end DL
def b_law_dense_lot : DSm :=
  (dSeq (dSetP (.tp [(.nm 3), (.nm 4)]) (dTup (dAc (dOp opAdd (.v (dC (.int 1))) (.v (dCall sp_draw (dAc (dVar 0) (dAc (dVar 1) dA0))))) (dAc (dCall sp_draw (dAc (dVar 0) (dAc (dC (.int 2000)) dA0))) dA0))))
  (dSeq (dSetL 2 (dComp (dRng1 (dVar 3)) (.nm 5) dYes (dTup (dAc (dOp opMul (.v (dC (.int 2))) (.v (dOp opShl (.v (dC (.int 1))) (.n 5)))) (dAc (dOp opMod (.v (dUn opInt (.v (dOp opAdd (.v (dOp opSub (.v (dOp opShl (.v (dC (.int 1))) (.n 5))) (.v (dC (.int 1))))) (.n 4))))) (.v (dOp opMul (.v (dC (.int 2))) (.v (dOp opShl (.v (dC (.int 1))) (.n 5)))))) dA0))) [5]))
  (dRet (dUn opTuple (.v (dCall sp_law_mixed (dAc (dVar 0) (dAc (dVar 2) dA0))))))))
def N_law_dense_lot : List Str := ["deck", "most", "lot", "many", "by", "k"]
namespace DL
theorem law_dense_lot_ok : ∀ ds Q, sp_law_dense_lot ds Q → b_law_dense_lot (endD Q) (startD N_law_dense_lot ds) := by
  rintro _ Q ⟨m, rfl, hm1, hm, q⟩
  show b_law_dense_lot (endD Q) [some (.val .dk), some (.val (.int m)), none, none, none, none]
  unfold b_law_dense_lot
  walk_at "e"
  refine ⟨by omega, by omega, fun a a0 a1 => ⟨by decide, by decide, fun b b0 b1 => ⟨by omega, by omega, ?_⟩⟩⟩
  unfold rngD
  refine comp_map (fun k : Nat => D.int (0 + (k : Nat))) (fun k => W2 (2 * 2 ^ k, (2 ^ k - 1 + b) % (2 * 2 ^ k))) (by simp; omega) ?_ ?_
  · intro k hk C hC
    have hk' := List.mem_range.mp hk
    have hp : (2 : Int) ^ k ≤ 2 ^ 30 := by
      have : (2 : Nat) ^ k ≤ 2 ^ 30 := Nat.pow_le_pow_right (by decide) (by omega)
      exact_mod_cast this
    have hp30 : (2 : Int) ^ 30 = 1073741824 := by decide
    have hp0 : (0 : Int) < 2 ^ k := Int.pow_pos (by decide)
    rw [Int.zero_add]
    walk_at "e"
    rw [show ((k : Int)).toNat = k from rfl, Int.one_mul]
    refine ⟨⟨by omega, by omega, by decide⟩, .inl ⟨by decide, by decide⟩, ⟨by omega, by omega, by decide⟩, ⟨by omega, by omega, by decide⟩, .inl ⟨by decide, by decide⟩, by omega, hC⟩
  walk_at "e"
  have e : ((List.range (1 + a).toNat).map fun k : Nat => W2 (2 * 2 ^ k, (2 ^ k - 1 + b) % (2 * 2 ^ k))) = ((List.range (1 + a).toNat).map fun k : Nat => ((2 * 2 ^ k, (2 ^ k - 1 + b) % (2 * 2 ^ k)) : Int × Int)).map W2 := by rw [List.map_map]; rfl
  rw [e]
  refine ⟨_, .inl rfl, by simp; omega, fun ys hys => ?_⟩
  obtain ⟨m', hp, rfl⟩ := map_perm_inv hys
  refine q m' (isW_perm hp ?_) (by rw [hp.length_eq]; simp; omega)
  intro p hp
  obtain ⟨k, hk, rfl⟩ := List.mem_map.mp hp
  have hk' := List.mem_range.mp hk
  have hp : (2 : Int) ^ k ≤ 2 ^ 30 := by
    have : (2 : Nat) ^ k ≤ 2 ^ 30 := Nat.pow_le_pow_right (by decide) (by omega)
    exact_mod_cast this
  have hp30 : (2 : Int) ^ 30 = 1073741824 := by decide
  have hp0 : (0 : Int) < 2 ^ k := Int.pow_pos (by decide)
  exact isW_of (by omega) (by omega) (Int.emod_nonneg _ (by omega)) (Int.emod_lt_of_pos _ (by omega))
end DL
namespace DL
def sp_law_any_lot : DSp := fun ds K => ∃ m : Nat, ds = [.dk, .int m] ∧ 1 ≤ m ∧ m ≤ 30 ∧ ∀ l, IsLot l → l.length ≤ m → K (LotD l)
theorem ms_law_any_lot : MonoSp sp_law_any_lot := fun ds K K' h ⟨t, e, a, b, q⟩ => ⟨t, e, a, b, fun l hl h0 => h _ (q l hl h0)⟩
theorem len_law_any_lot : ∀ ds Q, sp_law_any_lot ds Q → ds.length = 2 := fun ds Q ⟨t, e, _⟩ => by rw [e]; rfl
end DL
def b_law_any_lot : DSm :=
  (dSeq (dSet 2 (dCall sp_draw (dAc (dVar 0) (dAc (dC (.int 5)) dA0))))
  (dSeq (dIf (dTst (dOp opEq (.n 2) (.v (dC (.int 0))))) (dRet (dCall sp_law_small_lot (dAc (dVar 0) (dAc (dVar 1) dA0)))) dNext)
  (dSeq (dIf (dTst (dOp opEq (.n 2) (.v (dC (.int 1))))) (dRet (dCall sp_law_grown (dAc (dVar 0) (dAc (dVar 1) dA0)))) dNext)
  (dSeq (dIf (dTst (dOp opEq (.n 2) (.v (dC (.int 4))))) (dRet (dCall sp_law_dense_lot (dAc (dVar 0) (dAc (dVar 1) dA0)))) dNext)
  (dRet (dIfE (dTst (dOp opEq (.n 2) (.v (dC (.int 2))))) (dCall sp_law_held_lot (dAc (dVar 0) (dAc (dVar 1) dA0))) (dCall sp_law_great_lot (dAc (dVar 0) (dAc (dVar 1) dA0)))))))))
def N_law_any_lot : List Str := ["deck", "most", "way"]
namespace DL
theorem law_any_lot_ok : ∀ ds Q, sp_law_any_lot ds Q → b_law_any_lot (endD Q) (startD N_law_any_lot ds) := by
  rintro _ Q ⟨m, rfl, hm1, hm, q⟩
  show b_law_any_lot (endD Q) [some (.val .dk), some (.val (.int m)), none]
  unfold b_law_any_lot
  walk_at "e"
  refine ⟨by decide, by decide, fun i _ _ => ?_⟩
  refine ifK_i (fun _ => ⟨m, rfl, by omega, fun l g n => q l (fun p hp => (g p hp).1) n⟩) fun _ => ?_
  refine ifK_i (fun _ => ⟨m, rfl, hm1, by omega, fun l g n => q l (fun p hp => (g.2 p hp).1) n⟩) fun _ => ?_
  refine ifK_i (fun _ => ⟨m, rfl, hm1, hm, q⟩) fun _ => ?_
  refine ifK_i (fun _ => ⟨m, rfl, hm1, by omega, fun l g _ n => q l (fun p hp => (g p hp).1) n⟩) fun _ => ?_
  exact ⟨m, rfl, by omega, q⟩
end DL
namespace DL
end DL
namespace DL
end DL
open PySem PySem.Spec PyProof.Rows L2 DL
namespace DL
end DL
namespace DL
end DL
namespace DL
end DL
namespace DL
end DL
namespace DL
end DL
namespace DL
end DL
namespace DL
end DL
open PySem PySem.Spec PyProof.Rows L2 DL
namespace DL
def sumN (f : Nat → Int) : Nat → Int
  | 0 => 0
  | n + 1 => sumN f n + f n
theorem sumN_congr {f g : Nat → Int} : ∀ {n : Nat}, (∀ i, i < n → f i = g i) → sumN f n = sumN g n
  | 0, _ => rfl
  | n + 1, h => by
    show sumN f n + f n = sumN g n + g n
    rw [sumN_congr fun i hi => h i (by omega), h n (by omega)]
theorem sumN_add (f g : Nat → Int) : ∀ n, sumN (fun i => f i + g i) n = sumN f n + sumN g n
  | 0 => rfl
  | n + 1 => by
    show sumN (fun i => f i + g i) n + (f n + g n) = sumN f n + f n + (sumN g n + g n)
    rw [sumN_add f g n]; omega
theorem sumN_mul (c : Int) (f : Nat → Int) : ∀ n, sumN (fun i => c * f i) n = c * sumN f n
  | 0 => by show (0 : Int) = c * 0; omega
  | n + 1 => by
    show sumN (fun i => c * f i) n + c * f n = c * (sumN f n + f n)
    rw [sumN_mul c f n, Int.mul_add]
theorem sumN_zero : ∀ n, sumN (fun _ => 0) n = 0
  | 0 => rfl
  | n + 1 => by show sumN (fun _ => 0) n + 0 = 0; rw [sumN_zero n]; rfl
theorem sumN_swap (f : Nat → Nat → Int) (m : Nat) : ∀ n, sumN (fun i => sumN (fun j => f i j) m) n = sumN (fun j => sumN (fun i => f i j) n) m
  | 0 => by
    show (0 : Int) = sumN (fun _ => 0) m
    rw [sumN_zero]
  | n + 1 => by
    show sumN (fun i => sumN (fun j => f i j) m) n + sumN (fun j => f n j) m = sumN (fun j => sumN (fun i => f i j) n + f n j) m
    rw [sumN_swap f m n, sumN_add]
theorem sumN_one {f : Nat → Int} {k : Nat} : ∀ {n : Nat}, k < n → (∀ i, i < n → i ≠ k → f i = 0) → sumN f n = f k
  | n + 1, hk, h => by
    show sumN f n + f n = f k
    rcases Nat.lt_or_ge k n with c | c
    · rw [sumN_one c fun i hi => h i (by omega), h n (by omega) (by omega)]; omega
    · have : k = n := by omega
      subst this
      rw [sumN_congr (g := fun _ => 0) fun i hi => h i (by omega) (by omega), sumN_zero]; omega
def sumD (g : Int → Int) (b : Int) (n : Nat) : Int := sumN (fun i => g (b + (i : Nat))) n
theorem div_step {t x : Int} (h : 0 < t) : x / t - (x - 1) / t = if t ∣ x then 1 else 0 := by
  have e := Int.emod_add_mul_ediv x t
  have r0 := Int.emod_nonneg x (show t ≠ 0 by omega)
  have r1 := Int.emod_lt_of_pos x h
  by_cases c : t ∣ x
  · rw [if_pos c]
    have z := Int.emod_eq_zero_of_dvd c
    rw [z] at e
    have : (x - 1) / t = x / t - 1 := ((Int.ediv_emod_unique h).mpr ⟨show (t - 1) + t * (x / t - 1) = x - 1 by rw [Int.mul_sub]; omega, by omega, by omega⟩).1
    omega
  · rw [if_neg c]
    have z : x % t ≠ 0 := fun z => c (Int.dvd_of_emod_eq_zero z)
    have : (x - 1) / t = x / t := ((Int.ediv_emod_unique h).mpr ⟨show (x % t - 1) + t * (x / t) = x - 1 by omega, by omega, by omega⟩).1
    omega
theorem days_sum {t f : Int} (h : 0 < t) (b : Int) : ∀ n : Nat, (b + n - 1 - f) / t - (b - 1 - f) / t = sumD (fun d => if t ∣ d - f then 1 else 0) b n
  | 0 => by
    show (b + (0 : Nat) - 1 - f) / t - (b - 1 - f) / t = 0
    rw [show b + ((0 : Nat) : Int) - 1 - f = b - 1 - f by omega]; omega
  | n + 1 => by
    have ih := days_sum (f := f) h b n
    show _ = sumD (fun d => if t ∣ d - f then 1 else 0) b n + (if t ∣ b + (n : Nat) - f then 1 else 0)
    rw [← ih, ← div_step h, show b + ((n + 1 : Nat) : Int) - 1 - f = b + (n : Nat) - f by omega, show b + (n : Nat) - f - 1 = b + (n : Nat) - 1 - f by omega]
    omega
inductive Ext1 (p : Int × Int) : List (Nat × (Int × Int)) → List (Nat × (Int × Int)) → Prop where
  | nil : Ext1 p [] []
  | no {x F G} : Ext1 p F G → (∀ d, ¬ (x.2.1 ∣ d - x.2.2 ∧ p.1 ∣ d - p.2)) → Ext1 p (F ++ [x]) G
  | yes {x F G f} : Ext1 p F G → 0 ≤ f → f < lcmI x.2.1 p.1 → x.2.1 ∣ f - x.2.2 → p.1 ∣ f - p.2 → Ext1 p (F ++ [x]) (G ++ [(x.1 + 1, (lcmI x.2.1 p.1, f))])
end DL
namespace DL
theorem sumD_add (f g : Int → Int) (b : Int) (n : Nat) : sumD (fun d => f d + g d) b n = sumD f b n + sumD g b n := sumN_add _ _ n
theorem sumD_congr {f g : Int → Int} {b : Int} {n : Nat} (h : ∀ d, f d = g d) : sumD f b n = sumD g b n := sumN_congr fun i _ => h _
def listF (s : Nat → Int) (n : Nat) : List D := (List.range n).map fun m => .int (s m)
def cntF (l : List (Int × Int)) (b : Int) (n : Nat) : Nat → Int := fun k => sumD (fun d => if tally l d = k then 1 else 0) b n
def sg (t : Nat) : Int := if t % 2 = 0 then 1 else -1
end DL
namespace DL
end DL
namespace DL
end DL
namespace DL
end DL
namespace DL
end DL
open PySem PySem.Spec PyProof.Rows L2 DL
namespace DL
end DL
namespace DL
end DL
namespace DL
end DL
namespace DL
end DL
namespace DL
end DL
namespace DL
theorem cnt_le (l : List (Int × Int)) (b : Int) (k : Nat) : ∀ n : Nat, 0 ≤ cntF l b n k ∧ cntF l b n k ≤ n
  | 0 => ⟨Int.le_refl _, Int.le_refl _⟩
  | n + 1 => by
    obtain ⟨h1, h2⟩ := cnt_le l b k n
    show 0 ≤ cntF l b n k + (if tally l (b + (n : Nat)) = k then 1 else 0) ∧ cntF l b n k + (if tally l (b + (n : Nat)) = k then 1 else 0) ≤ ((n + 1 : Nat) : Int)
    split <;> omega
theorem listF_ints (s : Nat → Int) (n : Nat) : listF s n = ((List.range n).map s).map D.int := by
  unfold listF; rw [List.map_map]; rfl
theorem sumN_const (c : Int) : ∀ n : Nat, sumN (fun _ => c) n = c * n
  | 0 => by show (0 : Int) = c * 0; omega
  | n + 1 => by
    show sumN (fun _ => c) n + c = c * ((n + 1 : Nat) : Int)
    rw [sumN_const c n, show ((n + 1 : Nat) : Int) = (n : Int) + 1 by omega, Int.mul_add, Int.mul_one]
end DL
open PySem PySem.Spec PyProof.Rows L2 DL
local macro_rules | `(tactic| walk_at "d") => `(tactic| simp only [↓getS_z, ↓getS_s, ↓asBl_e, ↓asInt_e, ↓asLst_e, ↓asSeq_l, ↓asSeq_t, ↓ifK_t, ↓ifK_f, ↓ev_C, ↓ev_Var, ↓ev_frv, ↓ev_fro, ↓ev_topv, ↓ev_topo, ↓ev_frl, ↓ev_frd, ↓ev_odv, ↓ev_odn, ↓ev_fiv, ↓ev_fin, ↓ev_Op, ↓ev_Un, ↓ev_UL, ↓ev_Bb, ↓ev_Tst, ↓ev_AndT, ↓ev_OrT, ↓ev_NotT, ↓ev_And, ↓ev_Or, ↓ev_Not, ↓ev_IfE, ↓ev_A0, ↓ev_Ac, ↓ev_Tup, ↓ev_Lst, ↓ev_Frz, ↓ev_Call, ↓ev_NoP, ↓ev_Part, ↓ev_Sl, ↓ev_SeqI, ↓ev_EnumI, ↓ev_Rng1, ↓ev_Rng2, ↓ev_nm, ↓ev_tp, ↓ev_tp0, ↓ev_tpc, ↓ev_Next, ↓ev_Seq, ↓ev_Break, ↓ev_Cont, ↓ev_Drop, ↓ev_Ret, ↓ev_RetN, ↓ev_If, ↓ev_Set, ↓ev_SetL, ↓ev_SetP, ↓ev_rhv, ↓ev_rho, ↓ev_Par, ↓ev_For, ↓ev_Comp, ↓ev_Yes, ↓ev_ownz, ↓ev_owns, ↓ev_Append, ↓ev_Extend, ↓ev_Pop, ↓ev_PopAt, ↓ev_SetIx, ↓ev_wi0, ↓ev_wic, ↓ev_re0, ↓ev_rec, ↓ev_kvn, ↓ev_kvv, ↓ev_kvo, ↓ev_kvs, ↓ev_endrt, ↓ev_endnx, ↓ev_addi, ↓ev_addt, ↓ev_addl, ↓ev_adds, ↓ev_sub, ↓ev_muli, ↓ev_mull, ↓ev_mult, ↓ev_mod, ↓ev_div, ↓ev_pow, ↓ev_shl, ↓ev_cmp, ↓ev_lt, ↓ev_le, ↓ev_gt, ↓ev_ge, ↓ev_eqi, ↓ev_nei, ↓ev_eqs, ↓ev_nes, ↓ev_eqtt, ↓ev_eqll, ↓ev_nett, ↓ev_nell, ↓ev_isN, ↓ev_notN, ↓ev_neg, ↓ev_ixt, ↓ev_ixl, ↓ev_ix0, ↓ev_ix1, ↓ev_ix2, ↓ev_slt, ↓ev_sll, ↓ev_lent, ↓ev_lenl, ↓ev_tupt, ↓ev_tupl, ↓ev_inti, ↓ev_intb, ↓ev_abs, ↓ev_listt, ↓ev_listl, ↓ev_repr, ↓ev_Rev, ↓ev_isA, ↓ev_ndt, ↓ev_ndl, ↓ev_ndi, ↓ev_ndb, ↓ev_nds, ↓ev_ndn, ↓ev_iatt, ↓ev_iail, ↓ev_iaii, ↓ev_iabi, ↓ev_iaib, ↓ev_iabb, ↓ev_iass, ↓ev_iain, ↓ev_iain0, ↓ev_iatn0, ↓ev_Chain, ↓ev_Rng3, ↓asZip_l, ↓asZip_t, ↓ev_Zip, ↓ev_Rg1, ↓ev_Rg2, ↓ev_LstRg, ↓ev_TupRg, ↓ev_min2, ↓ev_max2, ↓ev_nnn, ↓ev_nni, ↓ev_nnt, ↓ev_nnl, ↓ev_nns, ↓ev_nnb, ↓ev_OpL, ↓ev_cat, ↓ev_rep, ↓ev_elrt, ↓ev_draw, ↓ev_ownDz, ↓ev_ownDs, ↓ev_DPut, ↓ev_newD, ↓ev_disp1, ↓ev_ParL, ↓ev_R0, ↓ev_Rc, ↓ev_sls0, ↓ev_slsc, ↓ev_inl, ↓ev_int, ↓ev_ind, ↓ev_ninl, ↓ev_nint, ↓ev_nind, ↓ev_getD, ↓ev_listD, ↓ev_dictC, ↓ev_keyi, ↓ev_keys, ↓ev_IfT, ↓ev_Index, ↓List.set_cons_zero, ↓List.set_cons_succ, ↓exists_eq_left', List.length_cons, List.length_nil, Nat.reduceAdd, Nat.reduceLeDiff, true_and, and_true, decide_true, decide_false, Bool.not_true, Bool.not_false, List.nil_append])
local macro_rules | `(tactic| walk_at "e") => `(tactic| simp only [↓getS_z, ↓getS_s, ↓asBl_e, ↓asInt_e, ↓asLst_e, ↓asSeq_l, ↓asSeq_t, ↓ifK_t, ↓ifK_f, ↓ev_C, ↓ev_Var, ↓ev_frv, ↓ev_fro, ↓ev_topv, ↓ev_topo, ↓ev_frl, ↓ev_frd, ↓ev_odv, ↓ev_odn, ↓ev_fiv, ↓ev_fin, ↓ev_Op, ↓ev_Un, ↓ev_UL, ↓ev_Bb, ↓ev_Tst, ↓ev_AndT, ↓ev_OrT, ↓ev_NotT, ↓ev_And, ↓ev_Or, ↓ev_Not, ↓ev_IfE, ↓ev_A0, ↓ev_Ac, ↓ev_Tup, ↓ev_Lst, ↓ev_Frz, ↓ev_NoP, ↓ev_Part, ↓ev_Sl, ↓ev_SeqI, ↓ev_EnumI, ↓ev_Rng1, ↓ev_Rng2, ↓ev_nm, ↓ev_tp, ↓ev_tp0, ↓ev_tpc, ↓ev_Next, ↓ev_Seq, ↓ev_Break, ↓ev_Cont, ↓ev_Drop, ↓ev_Ret, ↓ev_RetN, ↓ev_If, ↓ev_Set, ↓ev_SetL, ↓ev_SetP, ↓ev_rhv, ↓ev_rho, ↓ev_Par, ↓ev_For, ↓ev_Yes, ↓ev_ownz, ↓ev_owns, ↓ev_Append, ↓ev_Extend, ↓ev_Pop, ↓ev_PopAt, ↓ev_SetIx, ↓ev_wi0, ↓ev_wic, ↓ev_re0, ↓ev_rec, ↓ev_kvn, ↓ev_kvv, ↓ev_kvo, ↓ev_kvs, ↓ev_endrt, ↓ev_endnx, ↓ev_addi, ↓ev_addt, ↓ev_addl, ↓ev_adds, ↓ev_sub, ↓ev_muli, ↓ev_mull, ↓ev_mult, ↓ev_mod, ↓ev_div, ↓ev_pow, ↓ev_shl, ↓ev_cmp, ↓ev_lt, ↓ev_le, ↓ev_gt, ↓ev_ge, ↓ev_eqi, ↓ev_nei, ↓ev_eqs, ↓ev_nes, ↓ev_eqtt, ↓ev_eqll, ↓ev_nett, ↓ev_nell, ↓ev_isN, ↓ev_notN, ↓ev_neg, ↓ev_ixt, ↓ev_ixl, ↓ev_ix0, ↓ev_ix1, ↓ev_ix2, ↓ev_slt, ↓ev_sll, ↓ev_lent, ↓ev_lenl, ↓ev_tupt, ↓ev_tupl, ↓ev_inti, ↓ev_intb, ↓ev_abs, ↓ev_listt, ↓ev_listl, ↓ev_repr, ↓ev_Rev, ↓ev_isA, ↓ev_ndt, ↓ev_ndl, ↓ev_ndi, ↓ev_ndb, ↓ev_nds, ↓ev_ndn, ↓ev_iatt, ↓ev_iail, ↓ev_iaii, ↓ev_iabi, ↓ev_iaib, ↓ev_iabb, ↓ev_iass, ↓ev_iain, ↓ev_iain0, ↓ev_iatn0, ↓ev_Chain, ↓ev_Rng3, ↓asZip_l, ↓asZip_t, ↓ev_Zip, ↓ev_Rg1, ↓ev_Rg2, ↓ev_LstRg, ↓ev_TupRg, ↓ev_min2, ↓ev_max2, ↓ev_nnn, ↓ev_nni, ↓ev_nnt, ↓ev_nnl, ↓ev_nns, ↓ev_nnb, ↓ev_OpL, ↓ev_cat, ↓ev_rep, ↓ev_elrt, ↓evk_Comp, ↓evk_KC, ↓evk_Call, ↓evk_draw, ↓ev_ownDz, ↓ev_ownDs, ↓ev_DPut, ↓ev_newD, ↓ev_disp1, ↓ev_ParL, ↓ev_R0, ↓ev_Rc, ↓ev_sls0, ↓ev_slsc, ↓ev_inl, ↓ev_int, ↓ev_ind, ↓ev_ninl, ↓ev_nint, ↓ev_nind, ↓ev_getD, ↓ev_listD, ↓ev_dictC, ↓ev_keyi, ↓ev_keys, ↓ev_IfT, ↓ev_Index, ↓List.set_cons_zero, ↓List.set_cons_succ, ↓exists_eq_left', List.length_cons, List.length_nil, Nat.reduceAdd, Nat.reduceLeDiff, true_and, and_true, decide_true, decide_false, Bool.not_true, Bool.not_false, List.nil_append])
namespace DL
theorem days_full {t f : Int} {W : Nat} (h : 0 < t) (hd : t ∣ (W : Int)) : sumD (fun d => if t ∣ d - f then 1 else 0) 0 W = (W : Int) / t := by
  rw [← days_sum h 0 W]
  obtain ⟨k, hk⟩ := hd
  rw [show 0 + (W : Int) - 1 - f = (0 - 1 - f) + t * k by omega, Int.add_mul_ediv_left _ _ (by omega), hk, Int.mul_ediv_cancel_left _ (by omega)]
  omega
theorem tally_cons (p : Int × Int) (l : List (Int × Int)) (d : Int) : (tally (p :: l) d : Int) = (if p.1 ∣ d - p.2 then 1 else 0) + (tally l d : Int) := by
  unfold tally
  rw [List.filter_cons]
  by_cases c : p.1 ∣ d - p.2
  · rw [if_pos c, if_pos (decide_eq_true (Int.emod_eq_zero_of_dvd c)), List.length_cons]; omega
  · rw [if_neg c, if_neg (by simpa using fun h => c (Int.dvd_of_emod_eq_zero h))]; omega
theorem tally_full {W : Nat} : ∀ {l : List (Int × Int)}, (∀ p ∈ l, 0 < p.1 ∧ p.1 ∣ (W : Int)) → sumD (fun d => (tally l d : Int)) 0 W = (l.map fun p => (W : Int) / p.1).sum
  | [], _ => sumN_zero W
  | p :: l, h => by
    rw [sumD_congr (fun d => tally_cons p l d), sumD_add, days_full (h p (by simp)).1 (h p (by simp)).2, tally_full fun q hq => h q (by simp [hq])]
    rfl
end DL
namespace DL
end DL
namespace DL
end DL
namespace DL
end DL
open PySem PySem.Spec PyProof.Rows L2 DL
namespace DL
def gO (l : List (Int × Int)) (d : Int) (n : Nat) : Int := cntF l d n 0
def gH (l : List (Int × Int)) (d : Int) (n : Nat) : Int := n - cntF l d n 0
def IsNth (g : Nat → Int) (c : Int) (n : Nat) : Prop := g n = c - 1 ∧ g (n + 1) = c
end DL
namespace DL
end DL
namespace DL
end DL
namespace DL
def IsHA (l : List (Int × Int)) (d c : Int) (r : D) : Prop := (l = [] ∧ r = .non) ∨ ∃ n : Nat, r = .int (d + n) ∧ l ≠ [] ∧ IsNth (gH l d) c n ∧ tally l (d + n) ≠ 0 ∧ (n : Int) ≤ c * 1000000000000
end DL
namespace DL
end DL
namespace DL
end DL
open PySem PySem.Spec PyProof.Rows L2 DL
namespace DL
def IsPr (q : Nat) : Prop := 2 ≤ q ∧ ∀ m, m ∣ q → m = 1 ∨ m = q
theorem pr_factor : ∀ n : Nat, 2 ≤ n → ∃ q, IsPr q ∧ q ∣ n := by
  intro n
  induction n using Nat.strongRecOn with
  | ind n ih =>
    intro h
    by_cases c : ∀ m, m ∣ n → m = 1 ∨ m = n
    · exact ⟨n, ⟨h, c⟩, Nat.dvd_refl n⟩
    · obtain ⟨m, c⟩ := Classical.not_forall.mp c
      have c1 : m ∣ n := Classical.byContradiction fun k => c fun k' => absurd k' k
      have c2 : m ≠ 1 := fun e => c fun _ => .inl e
      have c3 : m ≠ n := fun e => c fun _ => .inr e
      have hle := Nat.le_of_dvd (by omega) c1
      have h0 : m ≠ 0 := by rintro rfl; have := Nat.eq_zero_of_zero_dvd c1; omega
      obtain ⟨q, hq, hd⟩ := ih m (by omega) (by omega)
      exact ⟨q, hq, Nat.dvd_trans hd c1⟩
theorem pr_mul {q a b : Nat} (hq : IsPr q) (h : q ∣ a * b) : q ∣ a ∨ q ∣ b := by
  rcases hq.2 (Nat.gcd q a) (Nat.gcd_dvd_left q a) with e | e
  · exact .inr (Nat.Coprime.dvd_of_dvd_mul_left (show Nat.gcd q a = 1 from e) h)
  · exact .inl (by rw [← e]; exact Nat.gcd_dvd_right q a)
def Per (R : Nat) (u : Int → Int) : Prop := ∀ n, u (n + (R : Int)) = u n
theorem Per.mulN {R : Nat} {u : Int → Int} (h : Per R u) (n : Int) : ∀ k : Nat, u (n + (k : Int) * R) = u n
  | 0 => by simp
  | k + 1 => by rw [show n + ((k + 1 : Nat) : Int) * R = n + (k : Int) * R + R by rw [Int.natCast_add, Int.add_mul]; simp; omega, h, h.mulN n k]
theorem Per.mul {R : Nat} {u : Int → Int} (h : Per R u) (n k : Int) : u (n + k * R) = u n := by
  rcases Int.le_total 0 k with c | c
  · obtain ⟨j, rfl⟩ := Int.eq_ofNat_of_zero_le c; exact h.mulN n j
  · obtain ⟨j, hj⟩ := Int.eq_ofNat_of_zero_le (show 0 ≤ -k by omega)
    have := h.mulN (n + k * R) j
    rw [← hj, show n + k * (R : Int) + -k * R = n by rw [Int.neg_mul]; omega] at this
    exact this.symm
theorem Per.dvd {R : Nat} {u : Int → Int} (h : Per R u) {n m : Int} (hd : (R : Int) ∣ n - m) : u n = u m := by
  obtain ⟨k, hk⟩ := hd
  have := h.mul m k
  rw [show m + k * (R : Int) = n by rw [Int.mul_comm]; omega] at this
  exact this
def cyc (q : Nat) (s : Int) (u : Int → Int) (n : Int) : Int := sumN (fun j => u (n + (j : Nat) * s)) q
theorem cyc_add (q : Nat) (s : Int) (u v : Int → Int) (n : Int) : cyc q s (fun n => u n + v n) n = cyc q s u n + cyc q s v n := sumN_add _ _ q
theorem cyc_mul (q : Nat) (s c : Int) (u : Int → Int) (n : Int) : cyc q s (fun n => c * u n) n = c * cyc q s u n := sumN_mul c _ q
theorem sumN_head (f : Nat → Int) : ∀ n, sumN f (n + 1) = f 0 + sumN (fun i => f (i + 1)) n
  | 0 => by show (0 : Int) + f 0 = f 0 + 0; omega
  | n + 1 => by
    show sumN f (n + 1) + f (n + 1) = f 0 + (sumN (fun i => f (i + 1)) n + f (n + 1))
    rw [sumN_head f n]; omega
theorem cyc_step {q : Nat} {s : Int} {u : Int → Int} (h : ∀ n, u (n + (q : Int) * s) = u n) (n : Int) : cyc q s u (n + s) = cyc q s u n := by
  unfold cyc
  have e1 : sumN (fun j => u (n + s + (j : Nat) * s)) q = sumN (fun j => (fun j : Nat => u (n + (j : Int) * s)) (j + 1)) q := sumN_congr fun j _ => by
    show u (n + s + (j : Nat) * s) = u (n + ((j + 1 : Nat) : Int) * s)
    congr 1
    rw [Int.natCast_add, Int.add_mul]; simp; omega
  have e2 := sumN_head (fun j : Nat => u (n + (j : Int) * s)) q
  have e3 : sumN (fun j : Nat => u (n + (j : Int) * s)) (q + 1) = sumN (fun j : Nat => u (n + (j : Int) * s)) q + u (n + (q : Int) * s) := rfl
  rw [h] at e3
  have e4 : (fun j : Nat => u (n + (j : Int) * s)) 0 = u n := by simp
  simp only at e1 e2 e3 e4
  rw [e1]
  omega
theorem cyc_mulN {q : Nat} {s : Int} {u : Int → Int} (h : ∀ n, u (n + (q : Int) * s) = u n) (n : Int) : ∀ k : Nat, cyc q s u (n + (k : Int) * s) = cyc q s u n
  | 0 => by simp
  | k + 1 => by rw [show n + ((k + 1 : Nat) : Int) * s = n + (k : Int) * s + s by rw [Int.natCast_add, Int.add_mul]; simp; omega, cyc_step h, cyc_mulN h n k]
structure InK (R : Nat) (u : Int → Int) : Prop where
  per : Per R u
  kil : ∀ q, IsPr q → q ∣ R → ∀ n, cyc q ((R / q : Nat) : Int) u n = 0
theorem InK.zero (R : Nat) : InK R (fun _ => 0) := ⟨fun _ => rfl, fun q _ _ n => sumN_zero q⟩
theorem InK.shift {R : Nat} {u : Int → Int} (h : InK R u) (k : Int) : InK R (fun n => u (n + k)) := by
  refine ⟨fun n => ?_, fun q hq hd n => ?_⟩
  · show u (n + R + k) = u (n + k)
    rw [show n + (R : Int) + k = n + k + R by omega, h.per]
  · rw [← h.kil q hq hd (n + k)]
    exact sumN_congr fun j _ => by
      show u (n + (j : Nat) * ((R / q : Nat) : Int) + k) = u (n + k + (j : Nat) * ((R / q : Nat) : Int))
      congr 1; omega
theorem InK.add {R : Nat} {u v : Int → Int} (h : InK R u) (h' : InK R v) : InK R (fun n => u n + v n) :=
  ⟨fun n => by show u (n + R) + v (n + R) = _; rw [h.per, h'.per], fun q hq hd n => by rw [cyc_add, h.kil q hq hd, h'.kil q hq hd]; rfl⟩
theorem InK.mul {R : Nat} {u : Int → Int} (h : InK R u) (c : Int) : InK R (fun n => c * u n) :=
  ⟨fun n => by show c * u (n + R) = _; rw [h.per], fun q hq hd n => by rw [cyc_mul, h.kil q hq hd]; simp⟩
theorem InK.sub {R : Nat} {u v : Int → Int} (h : InK R u) (h' : InK R v) : InK R (fun n => u n - v n) := by
  have := h.add (h'.mul (-1))
  have e : (fun n => u n + -1 * v n) = fun n => u n - v n := by funext n; omega
  rw [e] at this
  exact this
theorem InK.inj {R : Nat} {u : Int → Int} (h : InK R u) (hR : 0 < R) {k : Int} (hk : ¬ (R : Int) ∣ k) (hs : ∀ n, u (n + k) = u n) (n : Int) : u n = 0 := by
  have hg0 : 0 < (Int.gcd k R : Int) := gcdI_pos (.inr (by omega))
  obtain ⟨x, y, e⟩ := bez k.natAbs R
  have hsn : ∀ (j : Nat) (n : Int), u (n + (j : Int) * k) = u n := by
    intro j
    induction j with
    | zero => intro n; simp
    | succ j ih => intro n; rw [show n + ((j + 1 : Nat) : Int) * k = n + (j : Int) * k + k by rw [Int.natCast_add, Int.add_mul]; simp; omega, hs, ih]
  have hsi : ∀ (z n : Int), u (n + z * k) = u n := by
    intro z n
    rcases Int.le_total 0 z with c | c
    · obtain ⟨j, rfl⟩ := Int.eq_ofNat_of_zero_le c; exact hsn j n
    · obtain ⟨j, hj⟩ := Int.eq_ofNat_of_zero_le (show 0 ≤ -z by omega)
      have := hsn j (n + z * k)
      rw [← hj, show n + z * k + -z * k = n by rw [Int.neg_mul]; omega] at this
      exact this.symm
  have hgp : ∀ n : Int, u (n + (Nat.gcd k.natAbs R : Int)) = u n := by
    intro n
    rw [← e]
    have : (k.natAbs : Int) * x = (if 0 ≤ k then x else -x) * k := by
      split
      · rw [Int.natAbs_of_nonneg (by assumption), Int.mul_comm]
      · rw [Int.ofNat_natAbs_of_nonpos (by omega), Int.neg_mul, Int.neg_mul, Int.mul_comm]
    rw [this, show n + ((if 0 ≤ k then x else -x) * k + (R : Int) * y) = n + (if 0 ≤ k then x else -x) * k + y * (R : Int) by rw [Int.mul_comm y]; omega, h.per.mul, hsi]
  obtain ⟨r, hr⟩ := Nat.gcd_dvd_right k.natAbs R
  have hgk : (Nat.gcd k.natAbs R : Int) ∣ k := by
    rw [← Int.dvd_natAbs]
    exact Int.natCast_dvd_natCast.mpr (Nat.gcd_dvd_left _ _)
  generalize Nat.gcd k.natAbs R = g at hgp hr hgk
  have hr2 : 2 ≤ r := by
    rcases Nat.lt_or_ge r 2 with c | c
    · exfalso
      have : r = 0 ∨ r = 1 := by omega
      rcases this with rfl | rfl
      · omega
      · rw [Nat.mul_one] at hr; rw [hr] at hk; exact hk hgk
    · exact c
  obtain ⟨q, hq, t, ht⟩ := pr_factor r hr2
  have hq0 : 0 < q := by have := hq.1; omega
  have hqR : R = q * (g * t) := by rw [hr, ht]; simp only [Nat.mul_left_comm]
  have hdiv : R / q = g * t := by rw [hqR]; exact Nat.mul_div_cancel_left _ hq0
  have hgn : ∀ (j : Nat) (n : Int), u (n + (j : Int) * g) = u n := by
    intro j
    induction j with
    | zero => intro n; simp
    | succ j ih => intro n; rw [show n + ((j + 1 : Nat) : Int) * g = n + (j : Int) * g + g by rw [Int.natCast_add, Int.add_mul]; simp; omega, hgp, ih]
  have hk0 := h.kil q hq ⟨_, hqR⟩ n
  unfold cyc at hk0
  rw [hdiv, sumN_congr (g := fun _ => u n) fun j _ => by
    have := hgn (j * t) n
    rw [← this]; congr 2
    rw [Int.natCast_mul, Int.natCast_mul, Int.mul_assoc, Int.mul_comm (t : Int)], sumN_const] at hk0
  rcases Int.mul_eq_zero.mp hk0 with c | c
  · exact c
  · omega
theorem exK {R : Nat} (hR : 0 < R) : ∃ u, InK R u ∧ u 0 ≠ 0 := by
  have key : ∀ B : Nat, ∃ (u : Int → Int) (P : Nat), Per R u ∧ (∀ q, q < B → IsPr q → q ∣ R → ∀ n, cyc q ((R / q : Nat) : Int) u n = 0) ∧ u 0 ≠ 0 ∧ (∀ n, u n ≠ 0 → (R : Int) ∣ n * P) ∧ (∀ q, B ≤ q → IsPr q → ¬ q ∣ P) := by
    intro B
    induction B with
    | zero =>
      refine ⟨fun n => if (R : Int) ∣ n then 1 else 0, 1, fun n => ?_, fun q h => absurd h (by omega), by simp, fun n h => ?_, fun q _ hq h => ?_⟩
      · have : (R : Int) ∣ n + R ↔ (R : Int) ∣ n := Int.dvd_add_left (Int.dvd_refl _)
        simp only [this]
      · by_cases c : (R : Int) ∣ n
        · simpa using c
        · exact absurd (if_neg c) h
      · have := Nat.le_of_dvd (by omega) h
        have := hq.1; omega
    | succ B ih =>
      obtain ⟨u, P, h1, h2, h3, h4, h5⟩ := ih
      by_cases c : IsPr B ∧ B ∣ R
      · obtain ⟨hB, s, hs⟩ := c
        have hB0 : 0 < B := by have := hB.1; omega
        have hdiv : R / B = s := by rw [hs]; exact Nat.mul_div_cancel_left _ hB0
        have hs0 : 0 < s := by rcases Nat.eq_zero_or_pos s with e | e; · rw [e] at hs; omega
                               · exact e
        have hup : ∀ n, u (n + (B : Int) * (s : Int)) = u n := fun n => by rw [← Int.natCast_mul, ← hs]; exact h1 n
        have hnz : ∀ j : Nat, 0 < j → j < B → u ((j : Int) * s) = 0 := by
          intro j j0 j1
          refine Classical.byContradiction fun hu => ?_
          have hd := h4 _ hu
          rw [hs] at hd
          have hd' : B * s ∣ j * s * P := by
            rw [← Int.natCast_dvd_natCast]; simpa using hd
          have hd2 : B ∣ j * P := by
            obtain ⟨w, hw⟩ := hd'
            refine ⟨w, Nat.eq_of_mul_eq_mul_left hs0 ?_⟩
            rw [show s * (j * P) = j * s * P by rw [Nat.mul_comm j s, Nat.mul_assoc], hw, show s * (B * w) = B * s * w by rw [Nat.mul_comm B s, Nat.mul_assoc]]
          rcases pr_mul hB hd2 with k | k
          · have := Nat.le_of_dvd j0 k; omega
          · exact h5 B (Nat.le_refl _) hB k
        refine ⟨fun n => (B : Int) * u n - cyc B s u n, B * P, fun n => ?_, fun q hq hq2 hqR n => ?_, ?_, fun n h => ?_, fun q hq hq2 h => ?_⟩
        · show (B : Int) * u (n + R) - cyc B s u (n + R) = _
          rw [h1]
          congr 1
          refine sumN_congr fun j _ => ?_
          rw [show n + (R : Int) + (j : Nat) * (s : Int) = n + (j : Nat) * (s : Int) + R by omega, h1]
        · have hc : cyc q ((R / q : Nat) : Int) (fun n => (B : Int) * u n - cyc B s u n) n = (B : Int) * cyc q ((R / q : Nat) : Int) u n - cyc q ((R / q : Nat) : Int) (fun n => cyc B s u n) n := by
            have e : (fun n => (B : Int) * u n - cyc B s u n) = fun n => (B : Int) * u n + -1 * cyc B s u n := by funext n; omega
            rw [e, cyc_add, cyc_mul, cyc_mul]
            show (B : Int) * cyc q ((R / q : Nat) : Int) u n + -1 * cyc q ((R / q : Nat) : Int) (fun n => cyc B (s : Int) u n) n = _
            omega
          rw [hc]
          by_cases e : q = B
          · subst e
            rw [hdiv]
            have : cyc q s (fun n => cyc q s u n) n = q * cyc q s u n := by
              show sumN (fun j => cyc q s u (n + (j : Nat) * (s : Int))) q = _
              rw [sumN_congr fun j _ => cyc_mulN hup n j, sumN_const, Int.mul_comm]
            rw [this]; omega
          · have hz := h2 q (by omega) hq2 hqR
            rw [hz]
            have : cyc q ((R / q : Nat) : Int) (fun n => cyc B s u n) n = 0 := by
              show sumN (fun i => sumN (fun j => u (n + (i : Nat) * ((R / q : Nat) : Int) + (j : Nat) * (s : Int))) B) q = 0
              rw [sumN_swap, sumN_congr (g := fun _ => 0) fun j _ => ?_, sumN_zero]
              have := hz (n + (j : Nat) * (s : Int))
              rw [← this]
              exact sumN_congr fun i _ => by congr 1; omega
            rw [this]; omega
        · show (B : Int) * u 0 - cyc B s u 0 ≠ 0
          have : cyc B s u 0 = u 0 := by
            unfold cyc
            rw [sumN_one (k := 0) hB0 fun j hj hj0 => by rw [Int.zero_add]; exact hnz j (by omega) hj]
            simp
          rw [this]
          intro e
          have e2 : ((B : Int) - 1) * u 0 = 0 := by rw [Int.sub_mul]; omega
          rcases Int.mul_eq_zero.mp e2 with c | c
          · have := hB.1; omega
          · exact h3 c
        · have : ∃ j : Nat, u (n + (j : Int) * s) ≠ 0 := by
            refine Classical.byContradiction fun hno => ?_
            have hall : ∀ j : Nat, u (n + (j : Int) * s) = 0 := fun j => Classical.byContradiction fun k => hno ⟨j, k⟩
            apply h
            show (B : Int) * u n - cyc B s u n = 0
            have e0 := hall 0
            rw [show n + ((0 : Nat) : Int) * (s : Int) = n by simp] at e0
            have e1 : cyc B s u n = 0 := by
              unfold cyc
              rw [sumN_congr (g := fun _ => 0) fun j _ => hall j, sumN_zero]
            rw [e0, e1]; simp
          obtain ⟨j, hj⟩ := this
          have hd := h4 _ hj
          have hd2 : (R : Int) ∣ (n + (j : Int) * s) * P * B := Int.dvd_trans hd (Int.dvd_mul_right _ _)
          have hd3 : (R : Int) ∣ (j : Int) * s * P * B := by
            rw [hs]
            exact ⟨(j : Int) * P, by rw [Int.natCast_mul]; simp only [Int.mul_assoc, Int.mul_comm, Int.mul_left_comm]⟩
          have := Int.dvd_sub hd2 hd3
          rw [show (n + (j : Int) * s) * P * B - (j : Int) * s * P * B = n * ((B * P : Nat) : Int) by
            rw [Int.add_mul, Int.add_mul, Int.natCast_mul, Int.mul_comm (B : Int), ← Int.mul_assoc]; omega] at this
          exact this
        · rcases pr_mul hq2 h with k | k
          · rcases hB.2 q k with e | e
            · have := hq2.1; omega
            · omega
          · exact h5 q (by omega) hq2 k
      · refine ⟨u, P, h1, fun q hq hq2 hqR => ?_, h3, h4, fun q hq => h5 q (by omega)⟩
        by_cases e : q = B
        · subst e; exact absurd ⟨hq2, hqR⟩ c
        · exact h2 q (by omega) hq2 hqR
  obtain ⟨u, P, h1, h2, h3, _⟩ := key (R + 1)
  exact ⟨u, ⟨h1, fun q hq hd => h2 q (by have := Nat.le_of_dvd hR hd; omega) hq hd⟩, h3⟩
def ES (R : Nat) : List Int → (Int → Int → Int) → Prop
  | [], f => ∀ d n, f d n = 0
  | t :: T, f => ∃ A : Int → Int, Per R A ∧ ∃ g, ES R T g ∧ ∀ d n, f d n = A (n - d * t) + g d n
theorem ES.of {R : Nat} : ∀ {T : List Int} {f g : Int → Int → Int}, (∀ d n, f d n = g d n) → ES R T f → ES R T g
  | [], f, g, e, h => fun d n => by rw [← e, h d n]
  | t :: T, f, g, e, ⟨A, hA, k, hk, h⟩ => ⟨A, hA, k, hk, fun d n => by rw [← e, h d n]⟩
theorem ES.zero {R : Nat} : ∀ {T : List Int}, ES R T (fun _ _ => 0)
  | [] => fun _ _ => rfl
  | t :: T => ⟨fun _ => 0, fun _ => rfl, _, ES.zero, fun _ _ => rfl⟩
theorem ES.add {R : Nat} : ∀ {T : List Int} {f g : Int → Int → Int}, ES R T f → ES R T g → ES R T (fun d n => f d n + g d n)
  | [], f, g, h, h' => fun d n => by show f d n + g d n = 0; rw [h d n, h' d n]; rfl
  | t :: T, f, g, ⟨A, hA, k, hk, h⟩, ⟨A', hA', k', hk', h'⟩ => ⟨fun n => A n + A' n, fun n => by show A (n + R) + A' (n + R) = _; rw [hA, hA'], _, ES.add hk hk', fun d n => by show f d n + g d n = A (n - d * t) + A' (n - d * t) + (k d n + k' d n); rw [h d n, h' d n]; omega⟩
theorem ES.mul {R : Nat} (c : Int) : ∀ {T : List Int} {f : Int → Int → Int}, ES R T f → ES R T (fun d n => c * f d n)
  | [], f, h => fun d n => by show c * f d n = 0; rw [h d n]; simp
  | t :: T, f, ⟨A, hA, k, hk, h⟩ => ⟨fun n => c * A n, fun n => by show c * A (n + R) = _; rw [hA], _, ES.mul c hk, fun d n => by show c * f d n = c * A (n - d * t) + c * k d n; rw [h d n, Int.mul_add]⟩
theorem ES.sub {R : Nat} {T : List Int} {f g : Int → Int → Int} (h : ES R T f) (h' : ES R T g) : ES R T (fun d n => f d n - g d n) :=
  ES.of (fun d n => by omega) (ES.add h (ES.mul (-1) h'))
theorem ES.one {R : Nat} {A : Int → Int} (hA : Per R A) {t : Int} : ∀ {T : List Int}, (∃ s ∈ T, (R : Int) ∣ t - s) → ES R T (fun d n => A (n - d * t))
  | [], ⟨s, hs, _⟩ => by cases hs
  | s :: T, ⟨x, hx, hd⟩ => by
    by_cases c : (R : Int) ∣ t - s
    · refine ⟨A, hA, _, ES.zero, fun d n => ?_⟩
      show A (n - d * t) = A (n - d * s) + 0
      rw [Int.add_zero]
      refine hA.dvd ?_
      rw [show n - d * t - (n - d * s) = -d * (t - s) by rw [Int.mul_sub, Int.neg_mul, Int.neg_mul]; omega]
      exact Int.dvd_trans c (Int.dvd_mul_left _ _)
    · have hx' : x ∈ T := by
        rcases List.mem_cons.mp hx with rfl | h
        · exact absurd hd c
        · exact h
      exact ⟨fun _ => 0, fun _ => rfl, _, ES.one hA ⟨x, hx', hd⟩, fun d n => by show A (n - d * t) = 0 + A (n - d * t); omega⟩
theorem ES.turn {R : Nat} (a m : Int) : ∀ {T : List Int} {f : Int → Int → Int}, ES R T f → ES R (T.map (· + m)) (fun d n => f d (n + (a - d) * m))
  | [], f, h => fun d n => h d _
  | t :: T, f, ⟨A, hA, k, hk, h⟩ => ⟨fun n => A (n + a * m), fun n => by
      show A (n + R + a * m) = A (n + a * m)
      rw [show n + (R : Int) + a * m = n + a * m + R by omega, hA], _, ES.turn a m hk, fun d n => by
      show f d (n + (a - d) * m) = A (n - d * (t + m) + a * m) + k d (n + (a - d) * m)
      rw [h d]
      congr 2
      rw [Int.sub_mul, Int.mul_add]; omega⟩
theorem ES.next {R : Nat} (t : Int) : ∀ {T : List Int} {f : Int → Int → Int}, ES R T f → ES R T (fun d n => f (d + 1) n - f d (n - t))
  | [], f, h => fun d n => by show f (d + 1) n - f d (n - t) = 0; rw [h, h]; rfl
  | s :: T, f, ⟨A, hA, k, hk, h⟩ => ⟨fun n => A (n - s) - A (n - t), fun n => by
      show A (n + R - s) - A (n + R - t) = A (n - s) - A (n - t)
      rw [show n + (R : Int) - s = n - s + R by omega, show n + (R : Int) - t = n - t + R by omega, hA, hA], _, ES.next t hk, fun d n => by
      show f (d + 1) n - f d (n - t) = A (n - d * s - s) - A (n - d * s - t) + (k (d + 1) n - k d (n - t))
      rw [h, h, show n - (d + 1) * s = n - d * s - s by rw [Int.add_mul]; omega, show n - t - d * s = n - d * s - t by omega]
      omega⟩
theorem ES.all {R : Nat} : ∀ {T : List Int} {f : Int → Int → Int} {b : Int}, ES R T f → (∀ i : Nat, i < T.length → ∀ n, f (b + i) n = 0) → ∀ d n, f d n = 0
  | [], f, b, h, _ => h
  | t :: T, f, b, hf, h0 => by
    have hf0 : ES R T (fun d n => f (d + 1) n - f d (n - t)) := by
      obtain ⟨A, hA, k, hk, h⟩ := hf
      refine ES.of (fun d n => ?_) (ES.next t hk)
      show k (d + 1) n - k d (n - t) = f (d + 1) n - f d (n - t)
      rw [h, h, show n - t - d * t = n - (d + 1) * t by rw [Int.add_mul]; omega]
      omega
    have hs := ES.all (b := b) hf0 fun i hi n => by
      show f (b + i + 1) n - f (b + i) (n - t) = 0
      have e1 := h0 (i + 1) (by simp; omega) n
      have e2 := h0 i (by simp; omega) (n - t)
      rw [show b + ((i + 1 : Nat) : Int) = b + i + 1 by omega] at e1
      rw [e1, e2]; rfl
    have hstep : ∀ d n, f (d + 1) n = f d (n - t) := fun d n => by
      have : f (d + 1) n - f d (n - t) = 0 := hs d n
      omega
    have hb : ∀ n, f b n = 0 := fun n => by
      have := h0 0 (by simp) n
      rwa [show b + ((0 : Nat) : Int) = b by simp] at this
    have hup : ∀ k : Nat, ∀ n, f (b + k) n = 0 := by
      intro k
      induction k with
      | zero => intro n; rw [show b + ((0 : Nat) : Int) = b by simp]; exact hb n
      | succ k ih => intro n; rw [show b + ((k + 1 : Nat) : Int) = b + k + 1 by omega, hstep, ih]
    have hdn : ∀ k : Nat, ∀ n, f (b - k) n = 0 := by
      intro k
      induction k with
      | zero => intro n; rw [show b - ((0 : Nat) : Int) = b by simp]; exact hb n
      | succ k ih =>
        intro n
        have := hstep (b - ((k + 1 : Nat) : Int)) (n + t)
        rw [show b - ((k + 1 : Nat) : Int) + 1 = b - k by omega, ih, show n + t - t = n by omega] at this
        exact this.symm
    intro d n
    rcases Int.le_total b d with c | c
    · obtain ⟨k, hk⟩ := Int.exists_add_of_le c
      rw [hk]; exact hup k n
    · obtain ⟨k, hk⟩ := Int.exists_add_of_le c
      rw [show d = b - k by omega]; exact hdn k n
def SS : List (Int × Int) → List Int
  | [] => [0]
  | e :: ps => SS ps ++ (SS ps).map (· + e.2)
end DL
namespace DL
def entL (R : Int) : List (Int × Int) → List Int → List (Int × Int)
  | p :: l, w :: ws => (p.2, w * (R / p.1)) :: entL R l ws
  | _, _ => []
end DL
open PySem PySem.Spec PyProof.Rows L2 DL
namespace DL
def AllHeld (l : List (Int × Int)) : Prop := ∀ x, tally l x ≠ 0
def IsOA (l : List (Int × Int)) (d c : Int) (r : D) : Prop := (r = .non ∧ AllHeld l) ∨ ∃ n : Nat, r = .int (d + n) ∧ ¬ AllHeld l ∧ IsNth (gO l d) c n ∧ tally l (d + n) = 0 ∧ (n : Int) ≤ c * 1024
theorem pow10 {n : Nat} (h : n ≤ 10) : 2 ^ n ≤ 1024 := Nat.pow_le_pow_right (n := 2) (by decide) h
end DL
namespace DL
end DL
namespace DL
end DL
open PySem PySem.Spec PyProof.Rows L2 DL
namespace DL
theorem SS_cons (e : Int × Int) (ps : List (Int × Int)) (t : Int) : t ∈ SS (e :: ps) ↔ t ∈ SS ps ∨ ∃ u ∈ SS ps, t = u + e.2 := by
  show t ∈ SS ps ++ (SS ps).map (· + e.2) ↔ _
  rw [List.mem_append, List.mem_map]
  constructor
  · rintro (h | ⟨u, hu, rfl⟩)
    · exact .inl h
    · exact .inr ⟨u, hu, rfl⟩
  · rintro (h | ⟨u, hu, rfl⟩)
    · exact .inl h
    · exact .inr ⟨u, hu, rfl⟩
def IsSet (R : Int) (ps : List (Int × Int)) (ks : List Int) : Prop := (∀ s ∈ ks, 0 ≤ s ∧ s < R ∧ ∃ t ∈ SS ps, R ∣ t - s) ∧ ∀ t ∈ SS ps, ∃ s ∈ ks, R ∣ t - s
def IsSums (l : List (Int × Int)) (ws : List Int) (ys : List Int) : Prop := ys.Pairwise (· < ·) ∧ IsSet (lcmL l) (entL (lcmL l) l ws) ys
theorem mod_uniq {R s t : Int} (h0 : 0 ≤ s) (h1 : s < R) (g0 : 0 ≤ t) (g1 : t < R) (hd : R ∣ s - t) : s = t := by
  obtain ⟨k, hk⟩ := hd
  have : k = 0 := by
    rcases Int.lt_trichotomy k 0 with c | c | c
    · have : R * k ≤ R * (-1) := Int.mul_le_mul_of_nonneg_left (by omega) (by omega)
      omega
    · exact c
    · have : R * 1 ≤ R * k := Int.mul_le_mul_of_nonneg_left (by omega) (by omega)
      omega
  subst this; omega
theorem IsSet.mem {R : Int} {ps : List (Int × Int)} {ks : List Int} (h : IsSet R ps ks) (s : Int) : s ∈ ks ↔ 0 ≤ s ∧ s < R ∧ ∃ t ∈ SS ps, R ∣ t - s := by
  refine ⟨h.1 s, fun ⟨h0, h1, t, ht, hd⟩ => ?_⟩
  obtain ⟨u, hu, hd2⟩ := h.2 t ht
  obtain ⟨g0, g1, _⟩ := h.1 u hu
  have := Int.dvd_sub hd2 hd
  rw [show t - u - (t - s) = s - u by omega] at this
  rw [mod_uniq h0 h1 g0 g1 this]; exact hu
theorem eqv_intD (a b : Int) : (D.int a).eqv (.int b) = decide (a = b) := keyD_eqv (.inl a) (.inl b) |>.trans (by simp)
def onesL (l : List (Int × Int)) : List Int := List.replicate l.length 1
end DL
namespace DL
end DL
namespace DL
end DL
namespace DL
def IsOD (l : List (Int × Int)) (m : Int) (r : D) : Prop :=
  (r = .non ∧ ∀ d, m ≤ tally l d) ∨ ∃ n : Nat, r = .int n ∧ (tally l n : Int) < m ∧ (∀ i : Nat, i < n → m ≤ tally l i) ∧ n < 2 ^ l.length ∧ ∀ ys, IsSums l (onesL l) ys → n < ys.length
end DL
namespace DL
theorem IsOD.isNon {l : List (Int × Int)} {m : Int} {r : D} (h : IsOD l m r) : r.isNon = true ↔ ∀ d, m ≤ tally l d := by
  rcases h with ⟨rfl, h⟩ | ⟨n, rfl, h1, _⟩
  · exact ⟨fun _ => h, fun _ => rfl⟩
  · exact ⟨fun e => (nomatch e), fun h => by have := h n; omega⟩
end DL
open PySem PySem.Spec PyProof.Rows L2 DL
namespace DL
end DL
namespace DL
end DL
namespace DL
end DL
namespace DL
end DL
namespace DL
end DL
namespace DL
end DL
namespace DL
end DL
open PySem PySem.Spec PyProof.Rows L2 DL
namespace DL
def IsOut1 (p : Int × Int) (l : List (Int × Int)) (r : D) : Prop :=
  (r = .non ∧ ∀ k : Int, tally l (p.2 + p.1 * k) ≠ 0) ∨ ∃ n : Nat, r = .int (p.2 + p.1 * n) ∧ tally l (p.2 + p.1 * n) = 0 ∧ (∀ i : Nat, i < n → tally l (p.2 + p.1 * i) ≠ 0) ∧ n < 2 ^ l.length
theorem holds_form {p : Int × Int} {d : Int} (h : p.1 ∣ d - p.2) : ∃ k, d = p.2 + p.1 * k := by
  obtain ⟨k, hk⟩ := h
  exact ⟨k, by omega⟩
def IsOut (one l : List (Int × Int)) (r : D) : Prop :=
  (r = .non ∧ ∀ p ∈ one, IsOut1 p l .non) ∨ ∃ pre p post, one = pre ++ p :: post ∧ (∀ q ∈ pre, IsOut1 q l .non) ∧ IsOut1 p l r ∧ r ≠ .non
def Within (one l : List (Int × Int)) : Prop := ∀ d, tally one d ≠ 0 → tally l d ≠ 0
theorem tally_pos' {l : List (Int × Int)} {d : Int} : tally l d ≠ 0 ↔ ∃ p ∈ l, p.1 ∣ d - p.2 := by
  have := tally_pos (l := l) (d := d)
  constructor
  · intro h
    obtain ⟨p, hp, e⟩ := this.mp (by omega)
    exact ⟨p, hp, Int.dvd_of_emod_eq_zero e⟩
  · rintro ⟨p, hp, e⟩
    have := this.mpr ⟨p, hp, Int.emod_eq_zero_of_dvd e⟩
    omega
theorem IsOut1.non_iff {p : Int × Int} {l : List (Int × Int)} : IsOut1 p l .non ↔ ∀ d, p.1 ∣ d - p.2 → tally l d ≠ 0 := by
  constructor
  · rintro (⟨_, h⟩ | ⟨n, e, _⟩) d hd
    · obtain ⟨k, rfl⟩ := holds_form hd; exact h k
    · cases e
  · intro h
    refine .inl ⟨rfl, fun k => h _ ⟨k, by omega⟩⟩
theorem IsOut.isNon {one l : List (Int × Int)} {r : D} (h : IsOut one l r) : r.isNon = true ↔ Within one l := by
  rcases h with ⟨rfl, h⟩ | ⟨pre, p, post, e, h1, h2, h3⟩
  · refine ⟨fun _ d hd => ?_, fun _ => rfl⟩
    obtain ⟨p, hp, hd'⟩ := tally_pos'.mp hd
    exact IsOut1.non_iff.mp (h p hp) d hd'
  · constructor
    · intro hn
      rcases h2 with ⟨rfl, _⟩ | ⟨n, rfl, _⟩
      · exact absurd rfl h3
      · cases hn
    · intro hw
      rcases h2 with ⟨rfl, _⟩ | ⟨n, rfl, ht, _⟩
      · exact absurd rfl h3
      · exact absurd ht (hw _ (tally_pos'.mpr ⟨p, by rw [e]; simp, ⟨n, by omega⟩⟩))
theorem IsOut.tell {one l : List (Int × Int)} {r : D} (ho : IsLot one) (hn : l.length ≤ 10) (h : IsOut one l r) : r = .non ∨ ∃ x : Int, r = .int x ∧ tally one x ≠ 0 ∧ tally l x = 0 ∧ 0 ≤ x ∧ x < 2000000000000000 := by
  rcases h with ⟨rfl, h⟩ | ⟨pre, p, post, e, h1, h2, h3⟩
  · exact .inl rfl
  · rcases h2 with ⟨rfl, _⟩ | ⟨n, rfl, ht, _, hb⟩
    · exact absurd rfl h3
    · have hp : p ∈ one := by rw [e]; simp
      obtain ⟨w1, w2, w3, w4⟩ := ho p hp
      have hP := pow10 hn
      have hm : p.1 * (n : Int) ≤ 1000000000000 * 1024 := Int.mul_le_mul w2 (by omega) (by omega) (by omega)
      have hm0 : 0 ≤ p.1 * (n : Int) := Int.mul_nonneg (by omega) (by omega)
      exact .inr ⟨_, rfl, tally_pos'.mpr ⟨p, hp, ⟨n, by omega⟩⟩, ht, by omega, by omega⟩
end DL
namespace DL
end DL
namespace DL
end DL
namespace DL
end DL
namespace DL
end DL
namespace DL
end DL
namespace DL
end DL
namespace DL
end DL
namespace DL
def others (l : List (Int × Int)) (i : Nat) : List (Int × Int) := pick l ((List.range l.length).filter fun j => decide (j ≠ i))
end DL
namespace DL
end DL
open PySem PySem.Spec PyProof.Rows L2 DL
namespace DL
theorem within_refl (l : List (Int × Int)) : Within l l := fun _ h => h
theorem tally_append (a b : List (Int × Int)) (d : Int) : tally (a ++ b) d = tally a d + tally b d := by
  unfold tally; rw [List.filter_append, List.length_append]
theorem within_mono {a l m : List (Int × Int)} (h : Within a l) (hs : ∀ p ∈ l, p ∈ m) : Within a m := fun d hd => by
  obtain ⟨p, hp, e⟩ := tally_pos'.mp (h d hd)
  exact tally_pos'.mpr ⟨p, hs p hp, e⟩
theorem Within.trans {a b c : List (Int × Int)} (h : Within a b) (h' : Within b c) : Within a c := fun d hd => h' d (h d hd)
theorem isW_splitD {p : Int × Int} {n : Nat} (h : IsW p) (hn : 1 ≤ n) (hp : p.1 * (n : Int) ≤ 1000000000000) : ∀ q ∈ splitW p n, IsW q := by
  intro q hq
  obtain ⟨k, hk, rfl⟩ := List.mem_map.mp hq
  have hk' := List.mem_range.mp hk
  obtain ⟨w1, w2, w3, w4⟩ := h
  have a : p.1 * 1 ≤ p.1 * (n : Int) := Int.mul_le_mul_of_nonneg_left (by omega) (by omega)
  have b : (k : Int) * p.1 ≤ ((n : Int) - 1) * p.1 := Int.mul_le_mul_of_nonneg_right (by omega) (by omega)
  have c : ((n : Int) - 1) * p.1 = p.1 * n - p.1 := by rw [Int.sub_mul, Int.mul_comm (n : Int)]; omega
  have e : 0 ≤ (k : Int) * p.1 := Int.mul_nonneg (by omega) (by omega)
  exact isW_of (by omega) hp (by omega) (by omega)
end DL
namespace DL
end DL
namespace DL
end DL
namespace DL
theorem bool_iff {a b : Bool} {P : Prop} (h : a = true ↔ P) (h' : b = true ↔ P) : a = b := by
  cases a <;> cases b
  · rfl
  · exact h.mpr (h'.mp rfl)
  · exact (h'.mpr (h.mp rfl)).symm
  · rfl
end DL
open PySem PySem.Spec PyProof.Rows L2 DL
namespace DL
def IsLT (l : List (Int × Int)) (m : Nat) : Prop := (∃ d, tally l d = m) ∧ ∀ d, m ≤ tally l d
def IsGT (l : List (Int × Int)) (m : Nat) : Prop := (∃ d, tally l d = m) ∧ ∀ d, tally l d ≤ m
theorem SS_zero : ∀ ps : List (Int × Int), (0 : Int) ∈ SS ps
  | [] => by simp [SS]
  | e :: ps => (SS_cons _ _ _).mpr (.inl (SS_zero ps))
theorem IsSums.ne {l : List (Int × Int)} {ws ys : List Int} (h : IsSums l ws ys) : 0 < ys.length := by
  obtain ⟨s, hs, _⟩ := h.2.2 0 (SS_zero _)
  exact List.length_pos_iff.mpr (by rintro rfl; cases hs)
end DL
namespace DL
end DL
namespace DL
def holdsB (p : Int × Int) (d : Int) : Bool := decide ((d - p.2) % p.1 = 0)
theorem holdsB_iff {p : Int × Int} {d : Int} : holdsB p d = true ↔ p.1 ∣ d - p.2 := by
  unfold holdsB
  rw [decide_eq_true_eq]
  exact ⟨Int.dvd_of_emod_eq_zero, Int.emod_eq_zero_of_dvd⟩
theorem tally_ix (l : List (Int × Int)) (d : Int) : ((List.range l.length).filter fun i => holdsB (l.getD i (1, 0)) d).length = tally l d := by
  rw [← holdL_length, holdL_range]
  induction List.range l.length with
  | nil => rfl
  | cons i r ih =>
    rw [List.filter_cons, List.filterMap_cons]
    unfold holdsB at ih ⊢
    by_cases c : (d - (l.getD i (1, 0)).2) % (l.getD i (1, 0)).1 = 0
    · simp only [c, decide_true, if_true, List.length_cons]
      rw [ih]
    · simp only [c, decide_false, if_false]
      exact ih
theorem nodup_sub_length {a b : List Nat} (h : a.Nodup) (hs : ∀ x ∈ a, x ∈ b) : a.length ≤ b.length := by
  induction a generalizing b with
  | nil => simp
  | cons x a ih =>
    rw [List.nodup_cons] at h
    have hx : x ∈ b := hs x (by simp)
    have := ih (b := b.erase x) h.2 fun y hy => by
      have hne : y ≠ x := fun e => h.1 (e ▸ hy)
      exact (List.mem_erase_of_ne hne).mpr (hs y (by simp [hy]))
    rw [List.length_erase_of_mem hx] at this
    have : 0 < b.length := List.length_pos_iff.mpr (by rintro rfl; cases hx)
    simp; omega
end DL
namespace DL
end DL
namespace DL
def meetB (p q : Int × Int) : Bool := decide ((p.2 - q.2) % (Int.gcd p.1 q.1 : Int) = 0)
end DL
namespace DL
theorem meetB_iff {p q : Int × Int} : meetB p q = true ↔ (Int.gcd p.1 q.1 : Int) ∣ p.2 - q.2 := by
  unfold meetB
  rw [decide_eq_true_eq]
  exact ⟨Int.dvd_of_emod_eq_zero, Int.emod_eq_zero_of_dvd⟩
theorem pairM_snoc {g : List (Int × Int)} {p : Int × Int} : PairM (g ++ [p]) ↔ PairM g ∧ ∀ q ∈ g, meetB p q = true := by
  constructor
  · intro h
    exact ⟨fun a ha b hb => h a (by simp [ha]) b (by simp [hb]), fun q hq => meetB_iff.mpr (h p (by simp) q (by simp [hq]))⟩
  · rintro ⟨h1, h2⟩ a ha b hb
    rcases List.mem_append.mp ha with ka | ka <;> rcases List.mem_append.mp hb with kb | kb
    · exact h1 a ka b kb
    · rw [List.mem_singleton.mp kb]
      have := meetB_iff.mp (h2 a ka)
      rw [Int.gcd_comm]
      have := Int.dvd_neg.mpr this
      rwa [show -(p.2 - a.2) = a.2 - p.2 by omega] at this
    · rw [List.mem_singleton.mp ka]
      exact meetB_iff.mp (h2 b kb)
    · rw [List.mem_singleton.mp ka, List.mem_singleton.mp kb]
      rw [Int.sub_self]; exact Int.dvd_zero _
theorem all_pair {g : List (Int × Int)} {d : Int} (h : ∀ p ∈ g, p.1 ∣ d - p.2) : PairM g := fun p hp q hq => by
  have h1 := Int.dvd_trans (Int.gcd_dvd_left p.1 q.1) (h p hp)
  have h2 := Int.dvd_trans (Int.gcd_dvd_right p.1 q.1) (h q hq)
  have := Int.dvd_sub h2 h1
  rwa [show d - q.2 - (d - p.2) = p.2 - q.2 by omega] at this
theorem pair_day {l : List (Int × Int)} (hl : ∀ p ∈ l, 0 < p.1) (h : PairM l) : ∃ d, ∀ p ∈ l, p.1 ∣ d - p.2 := by
  refine Classical.byContradiction fun hno => ?_
  have hm : IsMeet l .non := .inl ⟨rfl, fun d hd => hno ⟨d, hd⟩⟩
  exact (pair_meet hl hm).mp h rfl
end DL
namespace DL
end DL
open PySem PySem.Spec PyProof.Rows L2 DL
namespace DL
end DL
namespace DL
end DL
namespace DL
end DL
namespace DL
end DL
namespace DL
theorem Fa2.get {α β : Type} {R : α → β → Prop} {l : List α} {m : List β} (h : Fa2 R l m) : ∀ {i : Nat} {b : β}, m[i]? = some b → ∃ a, l[i]? = some a ∧ R a b := by
  induction h with
  | nil => intro i b e; simp at e
  | cons r _ ih =>
    intro i b e
    cases i with
    | zero => simp at e; subst e; exact ⟨_, by simp, r⟩
    | succ i => obtain ⟨a, e1, e2⟩ := ih (i := i) (b := b) (by simpa using e); exact ⟨a, by simpa using e1, e2⟩
end DL
namespace DL
end DL
namespace DL
end DL
open PySem PySem.Spec PyProof.Rows L2 DL
namespace DL
end DL
namespace DL
end DL
open PySem PySem.Spec PyProof.Rows L2 DL
local macro_rules | `(tactic| walk_at "d") => `(tactic| simp only [↓getS_z, ↓getS_s, ↓asBl_e, ↓asInt_e, ↓asLst_e, ↓asSeq_l, ↓asSeq_t, ↓ifK_t, ↓ifK_f, ↓ev_C, ↓ev_Var, ↓ev_frv, ↓ev_fro, ↓ev_topv, ↓ev_topo, ↓ev_frl, ↓ev_frd, ↓ev_odv, ↓ev_odn, ↓ev_fiv, ↓ev_fin, ↓ev_Op, ↓ev_Un, ↓ev_UL, ↓ev_Bb, ↓ev_Tst, ↓ev_AndT, ↓ev_OrT, ↓ev_NotT, ↓ev_And, ↓ev_Or, ↓ev_Not, ↓ev_IfE, ↓ev_A0, ↓ev_Ac, ↓ev_Tup, ↓ev_Lst, ↓ev_Frz, ↓ev_Call, ↓ev_NoP, ↓ev_Part, ↓ev_Sl, ↓ev_SeqI, ↓ev_EnumI, ↓ev_Rng1, ↓ev_Rng2, ↓ev_nm, ↓ev_tp, ↓ev_tp0, ↓ev_tpc, ↓ev_Next, ↓ev_Seq, ↓ev_Break, ↓ev_Cont, ↓ev_Drop, ↓ev_Ret, ↓ev_RetN, ↓ev_If, ↓ev_Set, ↓ev_SetL, ↓ev_SetP, ↓ev_rhv, ↓ev_rho, ↓ev_Par, ↓ev_For, ↓ev_Comp, ↓ev_Yes, ↓ev_ownz, ↓ev_owns, ↓ev_Append, ↓ev_Extend, ↓ev_Pop, ↓ev_PopAt, ↓ev_SetIx, ↓ev_wi0, ↓ev_wic, ↓ev_re0, ↓ev_rec, ↓ev_kvn, ↓ev_kvv, ↓ev_kvo, ↓ev_kvs, ↓ev_endrt, ↓ev_endnx, ↓ev_addi, ↓ev_addt, ↓ev_addl, ↓ev_adds, ↓ev_sub, ↓ev_muli, ↓ev_mull, ↓ev_mult, ↓ev_mod, ↓ev_div, ↓ev_pow, ↓ev_shl, ↓ev_cmp, ↓ev_lt, ↓ev_le, ↓ev_gt, ↓ev_ge, ↓ev_eqi, ↓ev_nei, ↓ev_eqs, ↓ev_nes, ↓ev_eqtt, ↓ev_eqll, ↓ev_nett, ↓ev_nell, ↓ev_isN, ↓ev_notN, ↓ev_neg, ↓ev_ixt, ↓ev_ixl, ↓ev_ix0, ↓ev_ix1, ↓ev_ix2, ↓ev_slt, ↓ev_sll, ↓ev_lent, ↓ev_lenl, ↓ev_tupt, ↓ev_tupl, ↓ev_inti, ↓ev_intb, ↓ev_abs, ↓ev_listt, ↓ev_listl, ↓ev_repr, ↓ev_Rev, ↓ev_isA, ↓ev_ndt, ↓ev_ndl, ↓ev_ndi, ↓ev_ndb, ↓ev_nds, ↓ev_ndn, ↓ev_iatt, ↓ev_iail, ↓ev_iaii, ↓ev_iabi, ↓ev_iaib, ↓ev_iabb, ↓ev_iass, ↓ev_iain, ↓ev_iain0, ↓ev_iatn0, ↓ev_Chain, ↓ev_Rng3, ↓asZip_l, ↓asZip_t, ↓ev_Zip, ↓ev_Rg1, ↓ev_Rg2, ↓ev_LstRg, ↓ev_TupRg, ↓ev_min2, ↓ev_max2, ↓ev_nnn, ↓ev_nni, ↓ev_nnt, ↓ev_nnl, ↓ev_nns, ↓ev_nnb, ↓ev_OpL, ↓ev_cat, ↓ev_rep, ↓ev_elrt, ↓ev_draw, ↓ev_ownDz, ↓ev_ownDs, ↓ev_DPut, ↓ev_newD, ↓ev_disp1, ↓ev_ParL, ↓ev_R0, ↓ev_Rc, ↓ev_sls0, ↓ev_slsc, ↓ev_inl, ↓ev_int, ↓ev_ind, ↓ev_ninl, ↓ev_nint, ↓ev_nind, ↓ev_getD, ↓ev_listD, ↓ev_dictC, ↓ev_keyi, ↓ev_keys, ↓ev_IfT, ↓ev_Index, ↓asTup_e, ↓ev_RevT, ↓ev_Remove, ↓ev_isB, ↓ev_notB, ↓List.set_cons_zero, ↓List.set_cons_succ, ↓exists_eq_left', List.length_cons, List.length_nil, Nat.reduceAdd, Nat.reduceLeDiff, true_and, and_true, decide_true, decide_false, Bool.not_true, Bool.not_false, List.nil_append])
local macro_rules | `(tactic| walk_at "e") => `(tactic| simp only [↓getS_z, ↓getS_s, ↓asBl_e, ↓asInt_e, ↓asLst_e, ↓asSeq_l, ↓asSeq_t, ↓ifK_t, ↓ifK_f, ↓ev_C, ↓ev_Var, ↓ev_frv, ↓ev_fro, ↓ev_topv, ↓ev_topo, ↓ev_frl, ↓ev_frd, ↓ev_odv, ↓ev_odn, ↓ev_fiv, ↓ev_fin, ↓ev_Op, ↓ev_Un, ↓ev_UL, ↓ev_Bb, ↓ev_Tst, ↓ev_AndT, ↓ev_OrT, ↓ev_NotT, ↓ev_And, ↓ev_Or, ↓ev_Not, ↓ev_IfE, ↓ev_A0, ↓ev_Ac, ↓ev_Tup, ↓ev_Lst, ↓ev_Frz, ↓ev_NoP, ↓ev_Part, ↓ev_Sl, ↓ev_SeqI, ↓ev_EnumI, ↓ev_Rng1, ↓ev_Rng2, ↓ev_nm, ↓ev_tp, ↓ev_tp0, ↓ev_tpc, ↓ev_Next, ↓ev_Seq, ↓ev_Break, ↓ev_Cont, ↓ev_Drop, ↓ev_Ret, ↓ev_RetN, ↓ev_If, ↓ev_Set, ↓ev_SetL, ↓ev_SetP, ↓ev_rhv, ↓ev_rho, ↓ev_Par, ↓ev_For, ↓ev_Yes, ↓ev_ownz, ↓ev_owns, ↓ev_Append, ↓ev_Extend, ↓ev_Pop, ↓ev_PopAt, ↓ev_SetIx, ↓ev_wi0, ↓ev_wic, ↓ev_re0, ↓ev_rec, ↓ev_kvn, ↓ev_kvv, ↓ev_kvo, ↓ev_kvs, ↓ev_endrt, ↓ev_endnx, ↓ev_addi, ↓ev_addt, ↓ev_addl, ↓ev_adds, ↓ev_sub, ↓ev_muli, ↓ev_mull, ↓ev_mult, ↓ev_mod, ↓ev_div, ↓ev_pow, ↓ev_shl, ↓ev_cmp, ↓ev_lt, ↓ev_le, ↓ev_gt, ↓ev_ge, ↓ev_eqi, ↓ev_nei, ↓ev_eqs, ↓ev_nes, ↓ev_eqtt, ↓ev_eqll, ↓ev_nett, ↓ev_nell, ↓ev_isN, ↓ev_notN, ↓ev_neg, ↓ev_ixt, ↓ev_ixl, ↓ev_ix0, ↓ev_ix1, ↓ev_ix2, ↓ev_slt, ↓ev_sll, ↓ev_lent, ↓ev_lenl, ↓ev_tupt, ↓ev_tupl, ↓ev_inti, ↓ev_intb, ↓ev_abs, ↓ev_listt, ↓ev_listl, ↓ev_repr, ↓ev_Rev, ↓ev_isA, ↓ev_ndt, ↓ev_ndl, ↓ev_ndi, ↓ev_ndb, ↓ev_nds, ↓ev_ndn, ↓ev_iatt, ↓ev_iail, ↓ev_iaii, ↓ev_iabi, ↓ev_iaib, ↓ev_iabb, ↓ev_iass, ↓ev_iain, ↓ev_iain0, ↓ev_iatn0, ↓ev_Chain, ↓ev_Rng3, ↓asZip_l, ↓asZip_t, ↓ev_Zip, ↓ev_Rg1, ↓ev_Rg2, ↓ev_LstRg, ↓ev_TupRg, ↓ev_min2, ↓ev_max2, ↓ev_nnn, ↓ev_nni, ↓ev_nnt, ↓ev_nnl, ↓ev_nns, ↓ev_nnb, ↓ev_OpL, ↓ev_cat, ↓ev_rep, ↓ev_elrt, ↓evk_Comp, ↓evk_KC, ↓evk_Call, ↓evk_draw, ↓ev_ownDz, ↓ev_ownDs, ↓ev_DPut, ↓ev_newD, ↓ev_disp1, ↓ev_ParL, ↓ev_R0, ↓ev_Rc, ↓ev_sls0, ↓ev_slsc, ↓ev_inl, ↓ev_int, ↓ev_ind, ↓ev_ninl, ↓ev_nint, ↓ev_nind, ↓ev_getD, ↓ev_listD, ↓ev_dictC, ↓ev_keyi, ↓ev_keys, ↓ev_IfT, ↓ev_Index, ↓asTup_e, ↓ev_RevT, ↓ev_Remove, ↓ev_isB, ↓ev_notB, ↓List.set_cons_zero, ↓List.set_cons_succ, ↓exists_eq_left', List.length_cons, List.length_nil, Nat.reduceAdd, Nat.reduceLeDiff, true_and, and_true, decide_true, decide_false, Bool.not_true, Bool.not_false, List.nil_append])
namespace DL
inductive TrimR (l : List (Int × Int)) : List Nat → List Nat → List Nat → Prop where
  | nil {st} : TrimR l [] st st
  | drop {i r st res} : Within [l.getD i (1, 0)] (pick l (st.filter fun j => decide (j ≠ i))) → TrimR l r (st.filter fun j => decide (j ≠ i)) res → TrimR l (i :: r) st res
  | keep {i r st res} : ¬ Within [l.getD i (1, 0)] (pick l (st.filter fun j => decide (j ≠ i))) → TrimR l r st res → TrimR l (i :: r) st res
theorem TrimR.sub {l : List (Int × Int)} : ∀ {a st r : List Nat}, TrimR l a st r → r.Sublist st
  | _, _, _, .nil => .refl _
  | _, _, _, .drop _ h => h.sub.trans (List.filter_sublist)
  | _, _, _, .keep _ h => h.sub
theorem mem_pick {l : List (Int × Int)} {is : List Nat} {p : Int × Int} : p ∈ pick l is ↔ ∃ i ∈ is, l.getD i (1, 0) = p := by
  unfold pick; rw [List.mem_map]
theorem TrimR.holds {l : List (Int × Int)} : ∀ {a st r : List Nat}, TrimR l a st r → Within (pick l st) (pick l r)
  | _, _, _, .nil => within_refl _
  | _, _, _, .drop (i := i) (st := st) c h => by
    refine Within.trans (fun d hd => ?_) h.holds
    obtain ⟨p, hp, hpd⟩ := tally_pos'.mp hd
    obtain ⟨j, hj, rfl⟩ := mem_pick.mp hp
    by_cases e : j = i
    · subst e
      exact c d (tally_pos'.mpr ⟨_, List.mem_singleton.mpr rfl, hpd⟩)
    · exact tally_pos'.mpr ⟨_, mem_pick.mpr ⟨j, List.mem_filter.mpr ⟨hj, decide_eq_true e⟩, rfl⟩, hpd⟩
  | _, _, _, .keep _ h => h.holds
theorem TrimR.least {l : List (Int × Int)} : ∀ {a st r : List Nat}, TrimR l a st r → ∀ i ∈ a, i ∈ r → ¬ Within [l.getD i (1, 0)] (pick l (r.filter fun j => decide (j ≠ i)))
  | _, _, _, .nil, i, hi, _ => nomatch hi
  | _, _, _, .drop (i := k) c h, i, hi, hr => by
    rcases List.mem_cons.mp hi with rfl | hi
    · have := (List.mem_filter.mp (h.sub.subset hr)).2
      simp at this
    · exact h.least i hi hr
  | _, _, _, .keep (i := k) c h, i, hi, hr => by
    rcases List.mem_cons.mp hi with rfl | hi
    · intro w
      refine c (within_mono w fun p hp => ?_)
      obtain ⟨j, hj, rfl⟩ := mem_pick.mp hp
      obtain ⟨h1, h2⟩ := List.mem_filter.mp hj
      exact mem_pick.mpr ⟨j, List.mem_filter.mpr ⟨h.sub.subset h1, h2⟩, rfl⟩
    · exact h.least i hi hr
def IsTrim (l : List (Int × Int)) (r : List Nat) : Prop := TrimR l (List.range l.length).reverse (List.range l.length) r
theorem IsTrim.lt {l : List (Int × Int)} {r : List Nat} (h : IsTrim l r) : (∀ i ∈ r, i < l.length) ∧ r.length ≤ l.length := by
  refine ⟨fun i hi => List.mem_range.mp (h.sub.subset hi), ?_⟩
  have := h.sub.length_le
  simpa using this
end DL
namespace DL
end DL
namespace DL
end DL
namespace DL
def cutW (p : Int × Int) (n : Nat) : List (Int × Int) := (List.range n).map fun k : Nat => (p.1 * n, p.2 + (k : Int) * p.1)
end DL
open PySem PySem.Spec PyProof.Rows L2 DL
namespace DL
def hpB (p : Int × Int) (s r : Int) : Bool := decide (s % p.1 = 0) && decide (r % p.1 = p.2)
mutual
inductive VP (l : List (Int × Int)) : D → Int → Int → Nat → Nat → Prop where
  | leaf {i : Nat} {s r : Int} {k : Nat} : i < l.length → hpB (l.getD i (1, 0)) s r = true → VP l (.tup [.str "held", .int (i : Nat)]) s r 1 k
  | node {ps : List D} {n w : Nat} {s r : Int} {k : Nat} : VPs l ps (s * (n : Nat)) s r w k → ps.length = n → 2 ≤ n → n ≤ 3000 → VP l (.tup [.str "split", .int (n : Nat), .tup ps]) s r (w + 1) (k + 1)
inductive VPs (l : List (Int × Int)) : List D → Int → Int → Int → Nat → Nat → Prop where
  | nil {S st r : Int} {k : Nat} : VPs l [] S st r 0 k
  | cons {p : D} {ps : List D} {S st r : Int} {w w' : Nat} {k : Nat} : VP l p S r w k → VPs l ps S st (r + st) w' k → VPs l (p :: ps) S st r (w + w') k
end
theorem VPs.snoc {l : List (Int × Int)} {k : Nat} : ∀ {ps : List D} {p : D} {S st r : Int} {w w' : Nat}, VPs l ps S st r w k → VP l p S (r + (ps.length : Nat) * st) w' k → VPs l (ps ++ [p]) S st r (w + w') k
  | [], p, S, st, r, _, w', .nil, h => by
    have : r + ((([] : List D).length : Nat) : Int) * st = r := by simp
    rw [this] at h
    have := VPs.cons h (VPs.nil (l := l) (S := S) (st := st) (r := r + st))
    rw [Nat.zero_add]
    simpa using this
  | q :: ps, p, S, st, r, _, w', .cons (w := a) (w' := b) h1 h2, h => by
    have e : r + (((q :: ps).length : Nat) : Int) * st = r + st + (ps.length : Nat) * st := by
      rw [List.length_cons, show ((ps.length + 1 : Nat) : Int) = (ps.length : Int) + 1 by omega, Int.add_mul, Int.one_mul]; omega
    rw [e] at h
    have := VPs.cons h1 (h2.snoc h)
    rw [Nat.add_assoc]
    exact this
def PA (l : List (Int × Int)) (s r : Int) (n k : Nat) (d : D) : Prop := (d = .non ∧ ∃ x, s ∣ x - r ∧ tally l x = 0) ∨ ∃ w, w + 1 ≤ 2 * n ∧ VP l d s r w k
end DL
namespace DL
end DL
namespace DL
end DL
namespace DL
def ldF (n k : Nat) : Nat := ((List.range (n + 1)).find? fun j => decide (k ≤ j ∧ j ∣ n)).getD 0
end DL
namespace DL
theorem VP.isNon {l : List (Int × Int)} {d : D} {s r : Int} {w k : Nat} (h : VP l d s r w k) : d.isNon = false := by cases h <;> rfl
end DL
open PySem PySem.Spec PyProof.Rows L2 DL
namespace DL
end DL
namespace DL
def sp_is_integer : DSp := fun ds K => ∃ (d : D) (a b : Int), ds = [d, .int a, .int b] ∧ d ≠ .dk ∧ K (.bl (wholeD d a b))
theorem ms_is_integer : MonoSp sp_is_integer := fun ds K K' h ⟨d, a, b, e, c, q⟩ => ⟨d, a, b, e, c, h _ q⟩
theorem len_is_integer : ∀ ds Q, sp_is_integer ds Q → ds.length = 3 := fun ds Q ⟨t, d, b, e, _⟩ => by rw [e]; rfl
end DL
def b_is_integer : DSm :=
  (dRet (dAnd (dUn (opIsA "int") (.n 0)) (dAnd (dNot (dUn (opIsA "bool") (.n 0))) (dChain (fun i j => decide (i ≤ j)) (fun i j => decide (i ≤ j)) (dVar 1) (dVar 0) (dVar 2)))))
def N_is_integer : List Str := ["value", "low", "high"]
namespace DL
theorem is_integer_ok : ∀ ds Q, sp_is_integer ds Q → b_is_integer (endD Q) (startD N_is_integer ds) := by
  rintro _ Q ⟨d, a, b, rfl, hd, q⟩
  show b_is_integer (endD Q) [some (.val d), some (.val (.int a)), some (.val (.int b))]
  unfold b_is_integer
  walk_at "e"
  refine ⟨hd, ?_⟩
  cases d with
  | int v =>
    walk_at "e"
    refine ifK_i (fun c => ?_) fun c => ?_
    · have q' : Q (.bl (decide (a ≤ v) && decide (v ≤ b))) := q
      rw [c, Bool.true_and] at q'
      exact q'
    · have q' : Q (.bl (decide (a ≤ v) && decide (v ≤ b))) := q
      rw [c, Bool.false_and] at q'
      exact q'
  | bl v => walk_at "e"; exact q
  | non => exact q
  | str v => exact q
  | tup v => exact q
  | lst v => exact q
  | dct t v => exact q
  | dk => exact absurd rfl hd
end DL
namespace DL
end DL
namespace DL
end DL
namespace DL
def WP (l : List (Int × Int)) (xs : List (D × Int × Int)) (w : Nat) : Prop := ∃ ws : List Nat, Fa2 (fun x w => ∃ k, k ≤ 12 ∧ VP l x.1 x.2.1 x.2.2 w k) xs ws ∧ ws.sum = w
theorem VP.pos {l : List (Int × Int)} {d : D} {s r : Int} {w k : Nat} (h : VP l d s r w k) : 0 < w := by cases h <;> omega
theorem WP.len {l : List (Int × Int)} {a : List (D × Int × Int)} {w : Nat} (h : WP l a w) : a.length ≤ w := by
  obtain ⟨ws, h1, rfl⟩ := h
  induction h1 with
  | nil => simp
  | cons r _ ih => obtain ⟨k, _, r⟩ := r; have := r.pos; simp; omega
theorem VPs.wp {l : List (Int × Int)} {S st : Int} {m : Nat} (hm : m ≤ 12) : ∀ {ps : List D} {r : Int} {w : Nat} (k : Nat) (r0 : Int), r = r0 + (k : Int) * st → VPs l ps S st r w m → WP l ((ps.zipIdx k).map fun x => (x.1, S, r0 + (x.2 : Int) * st)) w
  | [], _, _, _, _, _, .nil => ⟨[], .nil, rfl⟩
  | p :: ps, r, _, k, r0, e, .cons h1 h2 => by
    obtain ⟨ws, h3, h4⟩ := h2.wp hm (k + 1) r0 (by rw [e, show ((k + 1 : Nat) : Int) = (k : Int) + 1 by omega, Int.add_mul, Int.one_mul]; omega)
    refine ⟨_ :: ws, .cons ⟨m, hm, by show VP l p S (r0 + (k : Int) * st) _ _; rw [← e]; exact h1⟩ h3, by rw [List.sum_cons, h4]⟩
end DL
namespace DL
end DL
open PySem PySem.Spec PyProof.Rows L2 DL
namespace DL
end DL
namespace DL
end DL
namespace DL
def IsMP (l : List (Int × Int)) (d : D) : Prop :=
  (d = .non ∧ ∀ i j : Nat, i < j → j < l.length → meetB (l.getD i (1, 0)) (l.getD j (1, 0)) = false) ∨
  ∃ i j : Nat, i < j ∧ j < l.length ∧ d = .tup [.int i, .int j] ∧ meetB (l.getD i (1, 0)) (l.getD j (1, 0)) = true ∧ ∀ a b : Nat, a < b → b < l.length → (a < i ∨ (a = i ∧ b < j)) → meetB (l.getD a (1, 0)) (l.getD b (1, 0)) = false
end DL
namespace DL
theorem meetB_comm (p q : Int × Int) : meetB p q = meetB q p := by
  refine bool_iff meetB_iff (meetB_iff.trans ?_)
  rw [Int.gcd_comm]
  constructor
  · intro h; have := Int.dvd_neg.mpr h; rwa [show -(q.2 - p.2) = p.2 - q.2 by omega] at this
  · intro h; have := Int.dvd_neg.mpr h; rwa [show -(p.2 - q.2) = q.2 - p.2 by omega] at this
end DL
namespace DL
end DL
namespace DL
def Exact (l : List (Int × Int)) : Prop := ∀ d, tally l d = 1
theorem two_hold {l : List (Int × Int)} {d : Int} (h : 2 ≤ tally l d) : ∃ i j : Nat, i < j ∧ j < l.length ∧ meetB (l.getD i (1, 0)) (l.getD j (1, 0)) = true := by
  rw [← tally_ix] at h
  have hs : ((List.range l.length).filter fun i => holdsB (l.getD i (1, 0)) d).Pairwise (· < ·) := List.Pairwise.filter _ List.pairwise_lt_range
  have hm : ∀ i ∈ (List.range l.length).filter (fun i => holdsB (l.getD i (1, 0)) d), i < l.length ∧ holdsB (l.getD i (1, 0)) d = true := fun i hi => ⟨List.mem_range.mp (List.mem_filter.mp hi).1, (List.mem_filter.mp hi).2⟩
  generalize (List.range l.length).filter (fun i => holdsB (l.getD i (1, 0)) d) = F at h hs hm
  match F, h, hs, hm with
  | i :: j :: r, _, hs, hm =>
    have hij := (List.pairwise_cons.mp hs).1 j (by simp)
    obtain ⟨_, h1⟩ := hm i (by simp)
    obtain ⟨h2, h3⟩ := hm j (by simp)
    refine ⟨i, j, hij, h2, ?_⟩
    have := all_pair (g := [l.getD i (1, 0), l.getD j (1, 0)]) (d := d) fun x hx => by
      simp only [List.mem_cons, List.mem_nil_iff, or_false] at hx
      rcases hx with rfl | rfl
      · exact holdsB_iff.mp h1
      · exact holdsB_iff.mp h3
    exact meetB_iff.mpr (this _ (by simp) _ (by simp))
  | [_], h, _, _ => simp at h
  | [], h, _, _ => simp at h
theorem hold_two {l : List (Int × Int)} (hl : ∀ p ∈ l, 0 < p.1) {i j : Nat} (hij : i < j) (hj : j < l.length) (h : meetB (l.getD i (1, 0)) (l.getD j (1, 0)) = true) : ∃ d, 2 ≤ tally l d := by
  have hP : PairM [l.getD i (1, 0), l.getD j (1, 0)] := (pairM_snoc (g := [l.getD i (1, 0)]) (p := l.getD j (1, 0))).mpr ⟨fun a ha b hb => by
    rw [List.mem_singleton.mp ha, List.mem_singleton.mp hb, Int.sub_self]; exact Int.dvd_zero _, fun a ha => by
    rw [List.mem_singleton.mp ha, meetB_comm]; exact h⟩
  obtain ⟨d, hd⟩ := pair_day (l := [l.getD i (1, 0), l.getD j (1, 0)]) (fun x hx => by
    simp only [List.mem_cons, List.mem_nil_iff, or_false] at hx
    rcases hx with rfl | rfl
    · exact hl _ (getD_mem (by omega))
    · exact hl _ (getD_mem hj)) hP
  refine ⟨d, ?_⟩
  rw [← tally_ix]
  have := nodup_sub_length (a := [i, j]) (b := (List.range l.length).filter fun i => holdsB (l.getD i (1, 0)) d) (by simp; omega) fun x hx => by
    simp only [List.mem_cons, List.mem_nil_iff, or_false] at hx
    rcases hx with rfl | rfl
    · exact List.mem_filter.mpr ⟨List.mem_range.mpr (by omega), holdsB_iff.mpr (hd _ (by simp))⟩
    · exact List.mem_filter.mpr ⟨List.mem_range.mpr hj, holdsB_iff.mpr (hd _ (by simp))⟩
  simpa using this
end DL
namespace DL
theorem tally_md {W : Int} : ∀ {l : List (Int × Int)}, (∀ p ∈ l, p.1 ∣ W) → ∀ d, tally l (d % W) = tally l d
  | [], _, _ => rfl
  | p :: l, h, d => by
    have e := tally_cons p l d
    have e2 := tally_cons p l (d % W)
    have ih := tally_md (l := l) (fun q hq => h q (by simp [hq])) d
    have hm := Int.emod_add_mul_ediv d W
    have hp : p.1 ∣ d % W - p.2 ↔ p.1 ∣ d - p.2 := by
      rw [show d - p.2 = d % W - p.2 + W * (d / W) by omega]
      exact (Int.dvd_add_left (Int.dvd_trans (h p (by simp)) (Int.dvd_mul_right _ _))).symm
    simp only [hp] at e2
    omega
theorem sumN_le1 {f : Nat → Int} (h : ∀ i, f i ≤ 1) : ∀ n : Nat, sumN f n ≤ n
  | 0 => by show (0 : Int) ≤ 0; omega
  | n + 1 => by
    have := sumN_le1 h n
    have := h n
    show sumN f n + f n ≤ _
    omega
theorem sumN_all1 {f : Nat → Int} (h : ∀ i, f i ≤ 1) : ∀ {n : Nat}, sumN f n = n → ∀ i, i < n → f i = 1
  | 0, _, i, hi => by omega
  | n + 1, e, i, hi => by
    have h1 := sumN_le1 h n
    have h2 := h n
    have e' : sumN f n + f n = ((n + 1 : Nat) : Int) := e
    by_cases c : i = n
    · rw [c]; omega
    · exact sumN_all1 h (n := n) (by omega) i (by omega)
theorem exact_iff {l : List (Int × Int)} (hl : IsLp l) : Exact l ↔ shareN l = lcmL l ∧ ∀ i j : Nat, i < j → j < l.length → meetB (l.getD i (1, 0)) (l.getD j (1, 0)) = false := by
  have hL0 := lcmL_pos hl.pos
  obtain ⟨R, hR⟩ : ∃ R : Nat, lcmL l = R := ⟨_, (Int.toNat_of_nonneg (by omega)).symm⟩
  have hdv : ∀ p ∈ l, 0 < p.1 ∧ p.1 ∣ (R : Int) := fun p hp => ⟨(hl p hp).1, by rw [← hR]; exact dvd_lcmL hl.pos p hp⟩
  have hS : sumD (fun d => (tally l d : Int)) 0 R = shareN l := by
    rw [tally_full hdv]; unfold shareN; rw [hR]
  constructor
  · intro h
    refine ⟨?_, fun i j h1 h2 => ?_⟩
    · rw [← hS, hR]
      unfold sumD
      rw [sumN_congr (g := fun _ => 1) (fun i _ => by show ((tally l (0 + (i : Nat)) : Nat) : Int) = 1; rw [h]; rfl), sumN_const]
      omega
    · cases c : meetB (l.getD i (1, 0)) (l.getD j (1, 0)) with
      | false => rfl
      | true =>
        obtain ⟨d, hd⟩ := hold_two hl.pos h1 h2 c
        have := h d; omega
  · rintro ⟨h1, h2⟩ d
    have hle : ∀ d, (tally l d : Int) ≤ 1 := fun d => by
      refine Classical.byContradiction fun c => ?_
      obtain ⟨i, j, a, b, e⟩ := two_hold (l := l) (d := d) (by omega)
      rw [h2 i j a b] at e; cases e
    rw [← tally_md (fun p hp => dvd_lcmL hl.pos p hp) d]
    have e1 := Int.emod_nonneg d (show lcmL l ≠ 0 by omega)
    have e2 := Int.emod_lt_of_pos d hL0
    have hS' : sumN (fun i => (tally l (0 + (i : Nat)) : Int)) R = R := by
      have : sumD (fun d => (tally l d : Int)) 0 R = (R : Int) := by rw [hS, h1, hR]
      exact this
    have := sumN_all1 (f := fun i => (tally l (0 + (i : Nat)) : Int)) (fun i => hle _) hS' (d % lcmL l).toNat (by omega)
    simp only [Int.zero_add] at this
    rw [Int.toNat_of_nonneg e1] at this
    omega
end DL
namespace DL
theorem IsMP.isNon {l : List (Int × Int)} {d : D} (h : IsMP l d) : d.isNon = true ↔ ∀ i j : Nat, i < j → j < l.length → meetB (l.getD i (1, 0)) (l.getD j (1, 0)) = false := by
  rcases h with ⟨rfl, h⟩ | ⟨i, j, h1, h2, rfl, h3, _⟩
  · exact ⟨fun _ => h, fun _ => rfl⟩
  · exact ⟨fun e => (nomatch e), fun h => by rw [h i j h1 h2] at h3; cases h3⟩
end DL
namespace DL
end DL
open PySem PySem.Spec PyProof.Rows L2 DL
namespace DL
end DL
namespace DL
end DL
namespace DL
end DL
open PySem PySem.Spec PyProof.Rows L2 DL
local macro_rules | `(tactic| walk_at "d") => `(tactic| simp only [↓getS_z, ↓getS_s, ↓asBl_e, ↓asInt_e, ↓asLst_e, ↓asSeq_l, ↓asSeq_t, ↓ifK_t, ↓ifK_f, ↓ev_C, ↓ev_Var, ↓ev_frv, ↓ev_fro, ↓ev_topv, ↓ev_topo, ↓ev_frl, ↓ev_frd, ↓ev_odv, ↓ev_odn, ↓ev_fiv, ↓ev_fin, ↓ev_Op, ↓ev_Un, ↓ev_UL, ↓ev_Bb, ↓ev_Tst, ↓ev_AndT, ↓ev_OrT, ↓ev_NotT, ↓ev_And, ↓ev_Or, ↓ev_Not, ↓ev_IfE, ↓ev_A0, ↓ev_Ac, ↓ev_Tup, ↓ev_Lst, ↓ev_Frz, ↓ev_Call, ↓ev_NoP, ↓ev_Part, ↓ev_Sl, ↓ev_SeqI, ↓ev_EnumI, ↓ev_Rng1, ↓ev_Rng2, ↓ev_nm, ↓ev_tp, ↓ev_tp0, ↓ev_tpc, ↓ev_Next, ↓ev_Seq, ↓ev_Break, ↓ev_Cont, ↓ev_Drop, ↓ev_Ret, ↓ev_RetN, ↓ev_If, ↓ev_Set, ↓ev_SetL, ↓ev_SetP, ↓ev_rhv, ↓ev_rho, ↓ev_Par, ↓ev_For, ↓ev_Comp, ↓ev_Yes, ↓ev_ownz, ↓ev_owns, ↓ev_Append, ↓ev_Extend, ↓ev_Pop, ↓ev_PopAt, ↓ev_SetIx, ↓ev_wi0, ↓ev_wic, ↓ev_re0, ↓ev_rec, ↓ev_kvn, ↓ev_kvv, ↓ev_kvo, ↓ev_kvs, ↓ev_endrt, ↓ev_endnx, ↓ev_addi, ↓ev_addt, ↓ev_addl, ↓ev_adds, ↓ev_sub, ↓ev_muli, ↓ev_mull, ↓ev_mult, ↓ev_mod, ↓ev_div, ↓ev_pow, ↓ev_shl, ↓ev_cmp, ↓ev_lt, ↓ev_le, ↓ev_gt, ↓ev_ge, ↓ev_eqi, ↓ev_nei, ↓ev_eqs, ↓ev_nes, ↓ev_eqtt, ↓ev_eqll, ↓ev_nett, ↓ev_nell, ↓ev_isN, ↓ev_notN, ↓ev_neg, ↓ev_ixt, ↓ev_ixl, ↓ev_ix0, ↓ev_ix1, ↓ev_ix2, ↓ev_slt, ↓ev_sll, ↓ev_lent, ↓ev_lenl, ↓ev_tupt, ↓ev_tupl, ↓ev_inti, ↓ev_intb, ↓ev_abs, ↓ev_listt, ↓ev_listl, ↓ev_repr, ↓ev_Rev, ↓ev_isA, ↓ev_ndt, ↓ev_ndl, ↓ev_ndi, ↓ev_ndb, ↓ev_nds, ↓ev_ndn, ↓ev_iatt, ↓ev_iail, ↓ev_iaii, ↓ev_iabi, ↓ev_iaib, ↓ev_iabb, ↓ev_iass, ↓ev_iain, ↓ev_iain0, ↓ev_iatn0, ↓ev_Chain, ↓ev_Rng3, ↓asZip_l, ↓asZip_t, ↓ev_Zip, ↓ev_Rg1, ↓ev_Rg2, ↓ev_LstRg, ↓ev_TupRg, ↓ev_min2, ↓ev_max2, ↓ev_nnn, ↓ev_nni, ↓ev_nnt, ↓ev_nnl, ↓ev_nns, ↓ev_nnb, ↓ev_OpL, ↓ev_cat, ↓ev_rep, ↓ev_elrt, ↓ev_draw, ↓ev_ownDz, ↓ev_ownDs, ↓ev_DPut, ↓ev_newD, ↓ev_disp1, ↓ev_ParL, ↓ev_R0, ↓ev_Rc, ↓ev_sls0, ↓ev_slsc, ↓ev_inl, ↓ev_int, ↓ev_ind, ↓ev_ninl, ↓ev_nint, ↓ev_nind, ↓ev_getD, ↓ev_listD, ↓ev_dictC, ↓ev_keyi, ↓ev_keys, ↓ev_IfT, ↓ev_Index, ↓asTup_e, ↓ev_RevT, ↓ev_Remove, ↓ev_isB, ↓ev_notB, ↓ev_Count, ↓List.set_cons_zero, ↓List.set_cons_succ, ↓exists_eq_left', List.length_cons, List.length_nil, Nat.reduceAdd, Nat.reduceLeDiff, true_and, and_true, decide_true, decide_false, Bool.not_true, Bool.not_false, List.nil_append])
local macro_rules | `(tactic| walk_at "e") => `(tactic| simp only [↓getS_z, ↓getS_s, ↓asBl_e, ↓asInt_e, ↓asLst_e, ↓asSeq_l, ↓asSeq_t, ↓ifK_t, ↓ifK_f, ↓ev_C, ↓ev_Var, ↓ev_frv, ↓ev_fro, ↓ev_topv, ↓ev_topo, ↓ev_frl, ↓ev_frd, ↓ev_odv, ↓ev_odn, ↓ev_fiv, ↓ev_fin, ↓ev_Op, ↓ev_Un, ↓ev_UL, ↓ev_Bb, ↓ev_Tst, ↓ev_AndT, ↓ev_OrT, ↓ev_NotT, ↓ev_And, ↓ev_Or, ↓ev_Not, ↓ev_IfE, ↓ev_A0, ↓ev_Ac, ↓ev_Tup, ↓ev_Lst, ↓ev_Frz, ↓ev_NoP, ↓ev_Part, ↓ev_Sl, ↓ev_SeqI, ↓ev_EnumI, ↓ev_Rng1, ↓ev_Rng2, ↓ev_nm, ↓ev_tp, ↓ev_tp0, ↓ev_tpc, ↓ev_Next, ↓ev_Seq, ↓ev_Break, ↓ev_Cont, ↓ev_Drop, ↓ev_Ret, ↓ev_RetN, ↓ev_If, ↓ev_Set, ↓ev_SetL, ↓ev_SetP, ↓ev_rhv, ↓ev_rho, ↓ev_Par, ↓ev_For, ↓ev_Yes, ↓ev_ownz, ↓ev_owns, ↓ev_Append, ↓ev_Extend, ↓ev_Pop, ↓ev_PopAt, ↓ev_SetIx, ↓ev_wi0, ↓ev_wic, ↓ev_re0, ↓ev_rec, ↓ev_kvn, ↓ev_kvv, ↓ev_kvo, ↓ev_kvs, ↓ev_endrt, ↓ev_endnx, ↓ev_addi, ↓ev_addt, ↓ev_addl, ↓ev_adds, ↓ev_sub, ↓ev_muli, ↓ev_mull, ↓ev_mult, ↓ev_mod, ↓ev_div, ↓ev_pow, ↓ev_shl, ↓ev_cmp, ↓ev_lt, ↓ev_le, ↓ev_gt, ↓ev_ge, ↓ev_eqi, ↓ev_nei, ↓ev_eqs, ↓ev_nes, ↓ev_eqtt, ↓ev_eqll, ↓ev_nett, ↓ev_nell, ↓ev_isN, ↓ev_notN, ↓ev_neg, ↓ev_ixt, ↓ev_ixl, ↓ev_ix0, ↓ev_ix1, ↓ev_ix2, ↓ev_slt, ↓ev_sll, ↓ev_lent, ↓ev_lenl, ↓ev_tupt, ↓ev_tupl, ↓ev_inti, ↓ev_intb, ↓ev_abs, ↓ev_listt, ↓ev_listl, ↓ev_repr, ↓ev_Rev, ↓ev_isA, ↓ev_ndt, ↓ev_ndl, ↓ev_ndi, ↓ev_ndb, ↓ev_nds, ↓ev_ndn, ↓ev_iatt, ↓ev_iail, ↓ev_iaii, ↓ev_iabi, ↓ev_iaib, ↓ev_iabb, ↓ev_iass, ↓ev_iain, ↓ev_iain0, ↓ev_iatn0, ↓ev_Chain, ↓ev_Rng3, ↓asZip_l, ↓asZip_t, ↓ev_Zip, ↓ev_Rg1, ↓ev_Rg2, ↓ev_LstRg, ↓ev_TupRg, ↓ev_min2, ↓ev_max2, ↓ev_nnn, ↓ev_nni, ↓ev_nnt, ↓ev_nnl, ↓ev_nns, ↓ev_nnb, ↓ev_OpL, ↓ev_cat, ↓ev_rep, ↓ev_elrt, ↓evk_Comp, ↓evk_KC, ↓evk_Call, ↓evk_draw, ↓ev_ownDz, ↓ev_ownDs, ↓ev_DPut, ↓ev_newD, ↓ev_disp1, ↓ev_ParL, ↓ev_R0, ↓ev_Rc, ↓ev_sls0, ↓ev_slsc, ↓ev_inl, ↓ev_int, ↓ev_ind, ↓ev_ninl, ↓ev_nint, ↓ev_nind, ↓ev_getD, ↓ev_listD, ↓ev_dictC, ↓ev_keyi, ↓ev_keys, ↓ev_IfT, ↓ev_Index, ↓asTup_e, ↓ev_RevT, ↓ev_Remove, ↓ev_isB, ↓ev_notB, ↓ev_Count, ↓List.set_cons_zero, ↓List.set_cons_succ, ↓exists_eq_left', List.length_cons, List.length_nil, Nat.reduceAdd, Nat.reduceLeDiff, true_and, and_true, decide_true, decide_false, Bool.not_true, Bool.not_false, List.nil_append])
namespace DL
end DL
namespace DL
end DL
namespace DL
end DL
namespace DL
end DL
namespace DL
end DL
open PySem PySem.Spec PyProof.Rows L2 DL
local macro_rules | `(tactic| walk_at "d") => `(tactic| simp only [↓getS_z, ↓getS_s, ↓asBl_e, ↓asInt_e, ↓asLst_e, ↓asSeq_l, ↓asSeq_t, ↓ifK_t, ↓ifK_f, ↓ev_C, ↓ev_Var, ↓ev_frv, ↓ev_fro, ↓ev_topv, ↓ev_topo, ↓ev_frl, ↓ev_frd, ↓ev_odv, ↓ev_odn, ↓ev_fiv, ↓ev_fin, ↓ev_Op, ↓ev_Un, ↓ev_UL, ↓ev_Bb, ↓ev_Tst, ↓ev_AndT, ↓ev_OrT, ↓ev_NotT, ↓ev_And, ↓ev_Or, ↓ev_Not, ↓ev_IfE, ↓ev_A0, ↓ev_Ac, ↓ev_Tup, ↓ev_Lst, ↓ev_Frz, ↓ev_Call, ↓ev_NoP, ↓ev_Part, ↓ev_Sl, ↓ev_SeqI, ↓ev_EnumI, ↓ev_Rng1, ↓ev_Rng2, ↓ev_nm, ↓ev_tp, ↓ev_tp0, ↓ev_tpc, ↓ev_Next, ↓ev_Seq, ↓ev_Break, ↓ev_Cont, ↓ev_Drop, ↓ev_Ret, ↓ev_RetN, ↓ev_If, ↓ev_Set, ↓ev_SetL, ↓ev_SetP, ↓ev_rhv, ↓ev_rho, ↓ev_Par, ↓ev_For, ↓ev_Comp, ↓ev_Yes, ↓ev_ownz, ↓ev_owns, ↓ev_Append, ↓ev_Extend, ↓ev_Pop, ↓ev_PopAt, ↓ev_SetIx, ↓ev_wi0, ↓ev_wic, ↓ev_re0, ↓ev_rec, ↓ev_kvn, ↓ev_kvv, ↓ev_kvo, ↓ev_kvs, ↓ev_endrt, ↓ev_endnx, ↓ev_addi, ↓ev_addt, ↓ev_addl, ↓ev_adds, ↓ev_sub, ↓ev_muli, ↓ev_mull, ↓ev_mult, ↓ev_mod, ↓ev_div, ↓ev_pow, ↓ev_shl, ↓ev_cmp, ↓ev_lt, ↓ev_le, ↓ev_gt, ↓ev_ge, ↓ev_eqi, ↓ev_nei, ↓ev_eqs, ↓ev_nes, ↓ev_eqtt, ↓ev_eqll, ↓ev_nett, ↓ev_nell, ↓ev_isN, ↓ev_notN, ↓ev_neg, ↓ev_ixt, ↓ev_ixl, ↓ev_ix0, ↓ev_ix1, ↓ev_ix2, ↓ev_slt, ↓ev_sll, ↓ev_lent, ↓ev_lenl, ↓ev_tupt, ↓ev_tupl, ↓ev_inti, ↓ev_intb, ↓ev_abs, ↓ev_listt, ↓ev_listl, ↓ev_repr, ↓ev_Rev, ↓ev_isA, ↓ev_ndt, ↓ev_ndl, ↓ev_ndi, ↓ev_ndb, ↓ev_nds, ↓ev_ndn, ↓ev_iatt, ↓ev_iail, ↓ev_iaii, ↓ev_iabi, ↓ev_iaib, ↓ev_iabb, ↓ev_iass, ↓ev_iain, ↓ev_iain0, ↓ev_iatn0, ↓ev_Chain, ↓ev_Rng3, ↓asZip_l, ↓asZip_t, ↓ev_Zip, ↓ev_Rg1, ↓ev_Rg2, ↓ev_LstRg, ↓ev_TupRg, ↓ev_min2, ↓ev_max2, ↓ev_nnn, ↓ev_nni, ↓ev_nnt, ↓ev_nnl, ↓ev_nns, ↓ev_nnb, ↓ev_OpL, ↓ev_cat, ↓ev_rep, ↓ev_elrt, ↓ev_draw, ↓ev_ownDz, ↓ev_ownDs, ↓ev_DPut, ↓ev_newD, ↓ev_disp1, ↓ev_ParL, ↓ev_R0, ↓ev_Rc, ↓ev_sls0, ↓ev_slsc, ↓ev_inl, ↓ev_int, ↓ev_ind, ↓ev_ninl, ↓ev_nint, ↓ev_nind, ↓ev_getD, ↓ev_listD, ↓ev_dictC, ↓ev_keyi, ↓ev_keys, ↓ev_IfT, ↓ev_Index, ↓asTup_e, ↓ev_RevT, ↓ev_Remove, ↓ev_isB, ↓ev_notB, ↓ev_Count, ↓ev_nox, ↓ev_CallX, ↓ev_Raise, ↓ev_Try1, ↓ev_Err, ↓ev_IfC, ↓ev_wrt, ↓ev_wnx, ↓ev_ExtendT, ↓List.set_cons_zero, ↓List.set_cons_succ, ↓exists_eq_left', List.length_cons, List.length_nil, Nat.reduceAdd, Nat.reduceLeDiff, true_and, and_true, decide_true, decide_false, Bool.not_true, Bool.not_false, List.nil_append])
local macro_rules | `(tactic| walk_at "e") => `(tactic| simp only [↓getS_z, ↓getS_s, ↓asBl_e, ↓asInt_e, ↓asLst_e, ↓asSeq_l, ↓asSeq_t, ↓ifK_t, ↓ifK_f, ↓ev_C, ↓ev_Var, ↓ev_frv, ↓ev_fro, ↓ev_topv, ↓ev_topo, ↓ev_frl, ↓ev_frd, ↓ev_odv, ↓ev_odn, ↓ev_fiv, ↓ev_fin, ↓ev_Op, ↓ev_Un, ↓ev_UL, ↓ev_Bb, ↓ev_Tst, ↓ev_AndT, ↓ev_OrT, ↓ev_NotT, ↓ev_And, ↓ev_Or, ↓ev_Not, ↓ev_IfE, ↓ev_A0, ↓ev_Ac, ↓ev_Tup, ↓ev_Lst, ↓ev_Frz, ↓ev_NoP, ↓ev_Part, ↓ev_Sl, ↓ev_SeqI, ↓ev_EnumI, ↓ev_Rng1, ↓ev_Rng2, ↓ev_nm, ↓ev_tp, ↓ev_tp0, ↓ev_tpc, ↓ev_Next, ↓ev_Seq, ↓ev_Break, ↓ev_Cont, ↓ev_Drop, ↓ev_Ret, ↓ev_RetN, ↓ev_If, ↓ev_Set, ↓ev_SetL, ↓ev_SetP, ↓ev_rhv, ↓ev_rho, ↓ev_Par, ↓ev_For, ↓ev_Yes, ↓ev_ownz, ↓ev_owns, ↓ev_Append, ↓ev_Extend, ↓ev_Pop, ↓ev_PopAt, ↓ev_SetIx, ↓ev_wi0, ↓ev_wic, ↓ev_re0, ↓ev_rec, ↓ev_kvn, ↓ev_kvv, ↓ev_kvo, ↓ev_kvs, ↓ev_endrt, ↓ev_endnx, ↓ev_addi, ↓ev_addt, ↓ev_addl, ↓ev_adds, ↓ev_sub, ↓ev_muli, ↓ev_mull, ↓ev_mult, ↓ev_mod, ↓ev_div, ↓ev_pow, ↓ev_shl, ↓ev_cmp, ↓ev_lt, ↓ev_le, ↓ev_gt, ↓ev_ge, ↓ev_eqi, ↓ev_nei, ↓ev_eqs, ↓ev_nes, ↓ev_eqtt, ↓ev_eqll, ↓ev_nett, ↓ev_nell, ↓ev_isN, ↓ev_notN, ↓ev_neg, ↓ev_ixt, ↓ev_ixl, ↓ev_ix0, ↓ev_ix1, ↓ev_ix2, ↓ev_slt, ↓ev_sll, ↓ev_lent, ↓ev_lenl, ↓ev_tupt, ↓ev_tupl, ↓ev_inti, ↓ev_intb, ↓ev_abs, ↓ev_listt, ↓ev_listl, ↓ev_repr, ↓ev_Rev, ↓ev_isA, ↓ev_ndt, ↓ev_ndl, ↓ev_ndi, ↓ev_ndb, ↓ev_nds, ↓ev_ndn, ↓ev_iatt, ↓ev_iail, ↓ev_iaii, ↓ev_iabi, ↓ev_iaib, ↓ev_iabb, ↓ev_iass, ↓ev_iain, ↓ev_iain0, ↓ev_iatn0, ↓ev_Chain, ↓ev_Rng3, ↓asZip_l, ↓asZip_t, ↓ev_Zip, ↓ev_Rg1, ↓ev_Rg2, ↓ev_LstRg, ↓ev_TupRg, ↓ev_min2, ↓ev_max2, ↓ev_nnn, ↓ev_nni, ↓ev_nnt, ↓ev_nnl, ↓ev_nns, ↓ev_nnb, ↓ev_OpL, ↓ev_cat, ↓ev_rep, ↓ev_elrt, ↓evk_Comp, ↓evk_KC, ↓evk_Call, ↓evk_draw, ↓ev_ownDz, ↓ev_ownDs, ↓ev_DPut, ↓ev_newD, ↓ev_disp1, ↓ev_ParL, ↓ev_R0, ↓ev_Rc, ↓ev_sls0, ↓ev_slsc, ↓ev_inl, ↓ev_int, ↓ev_ind, ↓ev_ninl, ↓ev_nint, ↓ev_nind, ↓ev_getD, ↓ev_listD, ↓ev_dictC, ↓ev_keyi, ↓ev_keys, ↓ev_IfT, ↓ev_Index, ↓asTup_e, ↓ev_RevT, ↓ev_Remove, ↓ev_isB, ↓ev_notB, ↓ev_Count, ↓ev_nox, ↓ev_CallX, ↓ev_Raise, ↓ev_Try1, ↓ev_Err, ↓ev_IfC, ↓ev_wrt, ↓ev_wnx, ↓ev_ExtendT, ↓List.set_cons_zero, ↓List.set_cons_succ, ↓exists_eq_left', List.length_cons, List.length_nil, Nat.reduceAdd, Nat.reduceLeDiff, true_and, and_true, decide_true, decide_false, Bool.not_true, Bool.not_false, List.nil_append])
namespace DL
mutual
def D.ws : D → Bool
  | .non => true
  | .bl _ => true
  | .int i => decide (i.natAbs < 10 ^ 130)
  | .str x => x.cps.toList.all fun c => decide (c < 16 ^ 8)
  | .tup xs => wss xs
  | .lst xs => wss xs
  | _ => false
def wss : List D → Bool
  | [] => true
  | x :: r => x.ws && wss r
end
theorem wss_all (xs : List D) : wss xs = xs.all D.ws := by
  induction xs with
  | nil => simp [wss]
  | cons x r ih => simp [wss, ih]
mutual
theorem D.ws_short : ∀ d : D, d.ws = true → PyData.showable d.py = true ∧ PyData.leavesShort 131 d.py = true
  | .non, _ => by simp [D.py, PyData.showable, PyData.leavesShort]
  | .bl _, _ => by simp [D.py, PyData.showable, PyData.leavesShort]
  | .int i, h => by
    have h' : i.natAbs < 10 ^ 130 := of_decide_eq_true (by simpa only [D.ws] using h)
    simp only [D.py, PyData.showable, PyData.leavesShort]
    refine ⟨decide_eq_true ?_, decide_eq_true ?_⟩
    · by_cases hz : i.natAbs = 0
      · rw [hz]; decide
      · exact (Nat.log2_lt hz).mpr (Nat.lt_of_lt_of_le h' ten130)
    · have e := int_text_length_le10 (k := 130) (by decide) (a := i) h'
      show (Str.ofString (toString i)).length ≤ 131
      rw [PySem.ofString_length]; exact e
  | .str x, h => ⟨by simp [D.py, PyData.showable], by simp only [D.py, PyData.leavesShort]; simpa only [D.ws] using h⟩
  | .tup xs, h => by simpa [D.py, PyData.showable, PyData.leavesShort] using wss_short xs (by simpa [D.ws] using h)
  | .lst xs, h => by simpa [D.py, PyData.showable, PyData.leavesShort] using wss_short xs (by simpa [D.ws] using h)
  | .dct _ _, h => by simp [D.ws] at h
  | .dk, h => by simp [D.ws] at h
theorem wss_short : ∀ ds : List D, wss ds = true → PyData.showableAll (pys ds) = true ∧ PyData.leavesShortAll 131 (pys ds) = true
  | [], _ => by simp [pys, PyData.showableAll, PyData.leavesShortAll]
  | x :: r, h => by
    have h' : x.ws = true ∧ wss r = true := by simpa [wss] using h
    have a := D.ws_short x h'.1
    have b := wss_short r h'.2
    simp [pys, PyData.showableAll, PyData.leavesShortAll, a, b]
end
theorem shw_ws {d : D} (h : d.ws = true) (hb : d.blk ≤ 100000) : d.shw = true := by
  obtain ⟨a, b⟩ := D.ws_short d h
  have c := PyData.shown_le_bulk 131 (by decide) d.py b
  have hb' : d.py.bulk ≤ 100000 := hb
  have e : d.py.shown.length ≤ 16777216 := by
    have : (131 + 2) * d.py.bulk ≤ (131 + 2) * 100000 := Nat.mul_le_mul_left _ hb'
    omega
  unfold D.shw
  rw [a, decide_eq_true e]; rfl
theorem ws_int {i : Int} (h : i.natAbs < 10 ^ 130) : (D.int i).ws = true := by
  simp only [D.ws]; exact decide_eq_true h
theorem natAbs_small {n : Nat} (h : n ≤ 1000000) : (n : Int).natAbs < 10 ^ 130 := by
  rw [Int.natAbs_natCast]
  exact Nat.lt_of_le_of_lt h (Nat.lt_of_lt_of_le (show 1000000 < 10 ^ 7 by decide) (Nat.pow_le_pow_right (by decide) (by decide)))
theorem blk_str (x : Str) : (D.str x).blk = x.cps.size := by simp [D.blk, D.py, PyData.bulk]
mutual
theorem VP.ws {l : List (Int × Int)} (hn : l.length ≤ 1000) : ∀ {d : D} {s r : Int} {w k : Nat}, VP l d s r w k → d.ws = true ∧ d.blk + 1 ≤ 9 * w
  | _, _, _, _, _, .leaf (i := i) hi _ => by
    refine ⟨?_, ?_⟩
    · simp only [D.ws, wss, Bool.and_true, Bool.and_eq_true]
      exact ⟨by decide, decide_eq_true (natAbs_small (by omega))⟩
    · rw [blk_tup, blks_cons, blks_cons, blks_nil, blk_int, blk_str, show (Str.ofString "held").cps.size = 4 from rfl]; decide
  | _, _, _, _, _, .node (n := n) (w := w) hps hpl h2 h3 => by
    obtain ⟨a, b⟩ := hps.ws hn
    refine ⟨?_, ?_⟩
    · simp only [D.ws, wss, Bool.and_true, Bool.and_eq_true]
      exact ⟨by decide, decide_eq_true (natAbs_small (by omega)), a⟩
    · rw [blk_tup, blks_cons, blks_cons, blks_cons, blks_nil, blk_int, blk_str, blk_tup, show (Str.ofString "split").cps.size = 5 from rfl]
      omega
theorem VPs.ws {l : List (Int × Int)} (hn : l.length ≤ 1000) : ∀ {ps : List D} {S st r : Int} {w k : Nat}, VPs l ps S st r w k → wss ps = true ∧ PyData.bulkAll (pys ps) ≤ 9 * w
  | _, _, _, _, _, _, .nil => ⟨rfl, by rw [blks_nil]; omega⟩
  | _, _, _, _, _, _, .cons h1 h2 => by
    obtain ⟨a, b⟩ := h1.ws hn
    obtain ⟨c, e⟩ := h2.ws hn
    refine ⟨by rw [wss, a, c]; rfl, by rw [blks_cons]; omega⟩
end
end DL
namespace DL
inductive Sh (whole : Int) : D → Int → Nat → Prop where
  | leaf {x : Str} {i s : Int} {k : Nat} : Sh whole (.tup [.str x, .int i]) s k
  | node {x : Str} {ps : List D} {n : Nat} {s : Int} {k : Nat} : 2 ≤ n → (n : Int) ≤ whole → whole % (s * (n : Nat)) = 0 → 0 < s → ps.length = n → (∀ p ∈ ps, Sh whole p (s * (n : Nat)) k) → Sh whole (.tup [.str x, .int (n : Nat), .tup ps]) s (k + 1)
end DL
namespace DL
end DL
namespace DL
end DL
namespace DL
end DL
namespace DL
end DL
namespace DL
end DL
namespace DL
end DL
namespace DL
end DL
open PySem PySem.Spec PyProof.Rows L2 DL
local macro_rules | `(tactic| walk_at "d") => `(tactic| simp only [↓getS_z, ↓getS_s, ↓asBl_e, ↓asInt_e, ↓asLst_e, ↓asSeq_l, ↓asSeq_t, ↓ifK_t, ↓ifK_f, ↓ev_C, ↓ev_Var, ↓ev_frv, ↓ev_fro, ↓ev_topv, ↓ev_topo, ↓ev_frl, ↓ev_frd, ↓ev_odv, ↓ev_odn, ↓ev_fiv, ↓ev_fin, ↓ev_Op, ↓ev_Un, ↓ev_UL, ↓ev_Bb, ↓ev_Tst, ↓ev_AndT, ↓ev_OrT, ↓ev_NotT, ↓ev_And, ↓ev_Or, ↓ev_Not, ↓ev_IfE, ↓ev_A0, ↓ev_Ac, ↓ev_Tup, ↓ev_Lst, ↓ev_Frz, ↓ev_Call, ↓ev_NoP, ↓ev_Part, ↓ev_Sl, ↓ev_SeqI, ↓ev_EnumI, ↓ev_Rng1, ↓ev_Rng2, ↓ev_nm, ↓ev_tp, ↓ev_tp0, ↓ev_tpc, ↓ev_Next, ↓ev_Seq, ↓ev_Break, ↓ev_Cont, ↓ev_Drop, ↓ev_Ret, ↓ev_RetN, ↓ev_If, ↓ev_Set, ↓ev_SetL, ↓ev_SetP, ↓ev_rhv, ↓ev_rho, ↓ev_Par, ↓ev_For, ↓ev_Comp, ↓ev_Yes, ↓ev_ownz, ↓ev_owns, ↓ev_Append, ↓ev_Extend, ↓ev_Pop, ↓ev_PopAt, ↓ev_SetIx, ↓ev_wi0, ↓ev_wic, ↓ev_re0, ↓ev_rec, ↓ev_kvn, ↓ev_kvv, ↓ev_kvo, ↓ev_kvs, ↓ev_endrt, ↓ev_endnx, ↓ev_addi, ↓ev_addt, ↓ev_addl, ↓ev_adds, ↓ev_sub, ↓ev_muli, ↓ev_mull, ↓ev_mult, ↓ev_mod, ↓ev_div, ↓ev_pow, ↓ev_shl, ↓ev_cmp, ↓ev_lt, ↓ev_le, ↓ev_gt, ↓ev_ge, ↓ev_eqi, ↓ev_nei, ↓ev_eqs, ↓ev_nes, ↓ev_eqtt, ↓ev_eqll, ↓ev_nett, ↓ev_nell, ↓ev_isN, ↓ev_notN, ↓ev_neg, ↓ev_ixt, ↓ev_ixl, ↓ev_ix0, ↓ev_ix1, ↓ev_ix2, ↓ev_slt, ↓ev_sll, ↓ev_lent, ↓ev_lenl, ↓ev_tupt, ↓ev_tupl, ↓ev_inti, ↓ev_intb, ↓ev_abs, ↓ev_listt, ↓ev_listl, ↓ev_repr, ↓ev_Rev, ↓ev_isA, ↓ev_ndt, ↓ev_ndl, ↓ev_ndi, ↓ev_ndb, ↓ev_nds, ↓ev_ndn, ↓ev_iatt, ↓ev_iail, ↓ev_iaii, ↓ev_iabi, ↓ev_iaib, ↓ev_iabb, ↓ev_iass, ↓ev_iain, ↓ev_iain0, ↓ev_iatn0, ↓ev_Chain, ↓ev_Rng3, ↓asZip_l, ↓asZip_t, ↓ev_Zip, ↓ev_Rg1, ↓ev_Rg2, ↓ev_LstRg, ↓ev_TupRg, ↓ev_min2, ↓ev_max2, ↓ev_nnn, ↓ev_nni, ↓ev_nnt, ↓ev_nnl, ↓ev_nns, ↓ev_nnb, ↓ev_OpL, ↓ev_cat, ↓ev_rep, ↓ev_elrt, ↓ev_draw, ↓ev_ownDz, ↓ev_ownDs, ↓ev_DPut, ↓ev_newD, ↓ev_disp1, ↓ev_ParL, ↓ev_R0, ↓ev_Rc, ↓ev_sls0, ↓ev_slsc, ↓ev_inl, ↓ev_int, ↓ev_ind, ↓ev_ninl, ↓ev_nint, ↓ev_nind, ↓ev_getD, ↓ev_listD, ↓ev_dictC, ↓ev_keyi, ↓ev_keys, ↓ev_IfT, ↓ev_Index, ↓asTup_e, ↓ev_RevT, ↓ev_Remove, ↓ev_isB, ↓ev_notB, ↓ev_Count, ↓ev_nox, ↓ev_CallX, ↓ev_Raise, ↓ev_Try1, ↓ev_Err, ↓ev_IfC, ↓ev_wrt, ↓ev_wnx, ↓ev_ExtendT, ↓ev_ZipLT, ↓ev_ZipTL, ↓List.set_cons_zero, ↓List.set_cons_succ, ↓exists_eq_left', List.length_cons, List.length_nil, Nat.reduceAdd, Nat.reduceLeDiff, true_and, and_true, decide_true, decide_false, Bool.not_true, Bool.not_false, List.nil_append])
local macro_rules | `(tactic| walk_at "e") => `(tactic| simp only [↓getS_z, ↓getS_s, ↓asBl_e, ↓asInt_e, ↓asLst_e, ↓asSeq_l, ↓asSeq_t, ↓ifK_t, ↓ifK_f, ↓ev_C, ↓ev_Var, ↓ev_frv, ↓ev_fro, ↓ev_topv, ↓ev_topo, ↓ev_frl, ↓ev_frd, ↓ev_odv, ↓ev_odn, ↓ev_fiv, ↓ev_fin, ↓ev_Op, ↓ev_Un, ↓ev_UL, ↓ev_Bb, ↓ev_Tst, ↓ev_AndT, ↓ev_OrT, ↓ev_NotT, ↓ev_And, ↓ev_Or, ↓ev_Not, ↓ev_IfE, ↓ev_A0, ↓ev_Ac, ↓ev_Tup, ↓ev_Lst, ↓ev_Frz, ↓ev_NoP, ↓ev_Part, ↓ev_Sl, ↓ev_SeqI, ↓ev_EnumI, ↓ev_Rng1, ↓ev_Rng2, ↓ev_nm, ↓ev_tp, ↓ev_tp0, ↓ev_tpc, ↓ev_Next, ↓ev_Seq, ↓ev_Break, ↓ev_Cont, ↓ev_Drop, ↓ev_Ret, ↓ev_RetN, ↓ev_If, ↓ev_Set, ↓ev_SetL, ↓ev_SetP, ↓ev_rhv, ↓ev_rho, ↓ev_Par, ↓ev_For, ↓ev_Yes, ↓ev_ownz, ↓ev_owns, ↓ev_Append, ↓ev_Extend, ↓ev_Pop, ↓ev_PopAt, ↓ev_SetIx, ↓ev_wi0, ↓ev_wic, ↓ev_re0, ↓ev_rec, ↓ev_kvn, ↓ev_kvv, ↓ev_kvo, ↓ev_kvs, ↓ev_endrt, ↓ev_endnx, ↓ev_addi, ↓ev_addt, ↓ev_addl, ↓ev_adds, ↓ev_sub, ↓ev_muli, ↓ev_mull, ↓ev_mult, ↓ev_mod, ↓ev_div, ↓ev_pow, ↓ev_shl, ↓ev_cmp, ↓ev_lt, ↓ev_le, ↓ev_gt, ↓ev_ge, ↓ev_eqi, ↓ev_nei, ↓ev_eqs, ↓ev_nes, ↓ev_eqtt, ↓ev_eqll, ↓ev_nett, ↓ev_nell, ↓ev_isN, ↓ev_notN, ↓ev_neg, ↓ev_ixt, ↓ev_ixl, ↓ev_ix0, ↓ev_ix1, ↓ev_ix2, ↓ev_slt, ↓ev_sll, ↓ev_lent, ↓ev_lenl, ↓ev_tupt, ↓ev_tupl, ↓ev_inti, ↓ev_intb, ↓ev_abs, ↓ev_listt, ↓ev_listl, ↓ev_repr, ↓ev_Rev, ↓ev_isA, ↓ev_ndt, ↓ev_ndl, ↓ev_ndi, ↓ev_ndb, ↓ev_nds, ↓ev_ndn, ↓ev_iatt, ↓ev_iail, ↓ev_iaii, ↓ev_iabi, ↓ev_iaib, ↓ev_iabb, ↓ev_iass, ↓ev_iain, ↓ev_iain0, ↓ev_iatn0, ↓ev_Chain, ↓ev_Rng3, ↓asZip_l, ↓asZip_t, ↓ev_Zip, ↓ev_Rg1, ↓ev_Rg2, ↓ev_LstRg, ↓ev_TupRg, ↓ev_min2, ↓ev_max2, ↓ev_nnn, ↓ev_nni, ↓ev_nnt, ↓ev_nnl, ↓ev_nns, ↓ev_nnb, ↓ev_OpL, ↓ev_cat, ↓ev_rep, ↓ev_elrt, ↓evk_Comp, ↓evk_KC, ↓evk_Call, ↓evk_draw, ↓ev_ownDz, ↓ev_ownDs, ↓ev_DPut, ↓ev_newD, ↓ev_disp1, ↓ev_ParL, ↓ev_R0, ↓ev_Rc, ↓ev_sls0, ↓ev_slsc, ↓ev_inl, ↓ev_int, ↓ev_ind, ↓ev_ninl, ↓ev_nint, ↓ev_nind, ↓ev_getD, ↓ev_listD, ↓ev_dictC, ↓ev_keyi, ↓ev_keys, ↓ev_IfT, ↓ev_Index, ↓asTup_e, ↓ev_RevT, ↓ev_Remove, ↓ev_isB, ↓ev_notB, ↓ev_Count, ↓ev_nox, ↓ev_CallX, ↓ev_Raise, ↓ev_Try1, ↓ev_Err, ↓ev_IfC, ↓ev_wrt, ↓ev_wnx, ↓ev_ExtendT, ↓ev_ZipLT, ↓ev_ZipTL, ↓List.set_cons_zero, ↓List.set_cons_succ, ↓exists_eq_left', List.length_cons, List.length_nil, Nat.reduceAdd, Nat.reduceLeDiff, true_and, and_true, decide_true, decide_false, Bool.not_true, Bool.not_false, List.nil_append])
namespace DL
theorem Fa2.zip {α β : Type} {R : α → β → Prop} {l : List α} {m : List β} (h : Fa2 R l m) : ∀ x ∈ l.zip m, R x.1 x.2 := by
  induction h with
  | nil => intro x hx; cases hx
  | cons r _ ih =>
    intro x hx
    rw [List.zip_cons_cons] at hx
    rcases List.mem_cons.mp hx with rfl | hx
    · exact r
    · exact ih x hx
end DL
open PySem PySem.Spec PyProof.Rows L2 DL
local macro_rules | `(tactic| walk_at "d") => `(tactic| simp only [↓getS_z, ↓getS_s, ↓asBl_e, ↓asInt_e, ↓asLst_e, ↓asSeq_l, ↓asSeq_t, ↓ifK_t, ↓ifK_f, ↓ev_C, ↓ev_Var, ↓ev_frv, ↓ev_fro, ↓ev_topv, ↓ev_topo, ↓ev_frl, ↓ev_frd, ↓ev_odv, ↓ev_odn, ↓ev_fiv, ↓ev_fin, ↓ev_Op, ↓ev_Un, ↓ev_UL, ↓ev_Bb, ↓ev_Tst, ↓ev_AndT, ↓ev_OrT, ↓ev_NotT, ↓ev_And, ↓ev_Or, ↓ev_Not, ↓ev_IfE, ↓ev_A0, ↓ev_Ac, ↓ev_Tup, ↓ev_Lst, ↓ev_Frz, ↓ev_Call, ↓ev_NoP, ↓ev_Part, ↓ev_Sl, ↓ev_SeqI, ↓ev_EnumI, ↓ev_Rng1, ↓ev_Rng2, ↓ev_nm, ↓ev_tp, ↓ev_tp0, ↓ev_tpc, ↓ev_Next, ↓ev_Seq, ↓ev_Break, ↓ev_Cont, ↓ev_Drop, ↓ev_Ret, ↓ev_RetN, ↓ev_If, ↓ev_Set, ↓ev_SetL, ↓ev_SetP, ↓ev_rhv, ↓ev_rho, ↓ev_Par, ↓ev_For, ↓ev_Comp, ↓ev_Yes, ↓ev_ownz, ↓ev_owns, ↓ev_Append, ↓ev_Extend, ↓ev_Pop, ↓ev_PopAt, ↓ev_SetIx, ↓ev_wi0, ↓ev_wic, ↓ev_re0, ↓ev_rec, ↓ev_kvn, ↓ev_kvv, ↓ev_kvo, ↓ev_kvs, ↓ev_endrt, ↓ev_endnx, ↓ev_addi, ↓ev_addt, ↓ev_addl, ↓ev_adds, ↓ev_sub, ↓ev_muli, ↓ev_mull, ↓ev_mult, ↓ev_mod, ↓ev_div, ↓ev_pow, ↓ev_shl, ↓ev_cmp, ↓ev_lt, ↓ev_le, ↓ev_gt, ↓ev_ge, ↓ev_eqi, ↓ev_nei, ↓ev_eqs, ↓ev_nes, ↓ev_eqtt, ↓ev_eqll, ↓ev_nett, ↓ev_nell, ↓ev_isN, ↓ev_notN, ↓ev_neg, ↓ev_ixt, ↓ev_ixl, ↓ev_ix0, ↓ev_ix1, ↓ev_ix2, ↓ev_slt, ↓ev_sll, ↓ev_lent, ↓ev_lenl, ↓ev_tupt, ↓ev_tupl, ↓ev_inti, ↓ev_intb, ↓ev_abs, ↓ev_listt, ↓ev_listl, ↓ev_repr, ↓ev_Rev, ↓ev_isA, ↓ev_ndt, ↓ev_ndl, ↓ev_ndi, ↓ev_ndb, ↓ev_nds, ↓ev_ndn, ↓ev_iatt, ↓ev_iail, ↓ev_iaii, ↓ev_iabi, ↓ev_iaib, ↓ev_iabb, ↓ev_iass, ↓ev_iain, ↓ev_iain0, ↓ev_iatn0, ↓ev_Chain, ↓ev_Rng3, ↓asZip_l, ↓asZip_t, ↓ev_Zip, ↓ev_Rg1, ↓ev_Rg2, ↓ev_LstRg, ↓ev_TupRg, ↓ev_min2, ↓ev_max2, ↓ev_nnn, ↓ev_nni, ↓ev_nnt, ↓ev_nnl, ↓ev_nns, ↓ev_nnb, ↓ev_OpL, ↓ev_cat, ↓ev_rep, ↓ev_elrt, ↓ev_draw, ↓ev_ownDz, ↓ev_ownDs, ↓ev_DPut, ↓ev_newD, ↓ev_disp1, ↓ev_ParL, ↓ev_R0, ↓ev_Rc, ↓ev_sls0, ↓ev_slsc, ↓ev_inl, ↓ev_int, ↓ev_ind, ↓ev_ninl, ↓ev_nint, ↓ev_nind, ↓ev_getD, ↓ev_listD, ↓ev_dictC, ↓ev_keyi, ↓ev_keys, ↓ev_IfT, ↓ev_Index, ↓asTup_e, ↓ev_RevT, ↓ev_Remove, ↓ev_isB, ↓ev_notB, ↓ev_Count, ↓ev_nox, ↓ev_CallX, ↓ev_Raise, ↓ev_Try1, ↓ev_Err, ↓ev_IfC, ↓ev_wrt, ↓ev_wnx, ↓ev_ExtendT, ↓ev_ZipLT, ↓ev_ZipTL, ↓ev_SortSet, ↓ev_ZipTX, ↓List.set_cons_zero, ↓List.set_cons_succ, ↓exists_eq_left', List.length_cons, List.length_nil, Nat.reduceAdd, Nat.reduceLeDiff, true_and, and_true, decide_true, decide_false, Bool.not_true, Bool.not_false, List.nil_append])
local macro_rules | `(tactic| walk_at "e") => `(tactic| simp only [↓getS_z, ↓getS_s, ↓asBl_e, ↓asInt_e, ↓asLst_e, ↓asSeq_l, ↓asSeq_t, ↓ifK_t, ↓ifK_f, ↓ev_C, ↓ev_Var, ↓ev_frv, ↓ev_fro, ↓ev_topv, ↓ev_topo, ↓ev_frl, ↓ev_frd, ↓ev_odv, ↓ev_odn, ↓ev_fiv, ↓ev_fin, ↓ev_Op, ↓ev_Un, ↓ev_UL, ↓ev_Bb, ↓ev_Tst, ↓ev_AndT, ↓ev_OrT, ↓ev_NotT, ↓ev_And, ↓ev_Or, ↓ev_Not, ↓ev_IfE, ↓ev_A0, ↓ev_Ac, ↓ev_Tup, ↓ev_Lst, ↓ev_Frz, ↓ev_NoP, ↓ev_Part, ↓ev_Sl, ↓ev_SeqI, ↓ev_EnumI, ↓ev_Rng1, ↓ev_Rng2, ↓ev_nm, ↓ev_tp, ↓ev_tp0, ↓ev_tpc, ↓ev_Next, ↓ev_Seq, ↓ev_Break, ↓ev_Cont, ↓ev_Drop, ↓ev_Ret, ↓ev_RetN, ↓ev_If, ↓ev_Set, ↓ev_SetL, ↓ev_SetP, ↓ev_rhv, ↓ev_rho, ↓ev_Par, ↓ev_For, ↓ev_Yes, ↓ev_ownz, ↓ev_owns, ↓ev_Append, ↓ev_Extend, ↓ev_Pop, ↓ev_PopAt, ↓ev_SetIx, ↓ev_wi0, ↓ev_wic, ↓ev_re0, ↓ev_rec, ↓ev_kvn, ↓ev_kvv, ↓ev_kvo, ↓ev_kvs, ↓ev_endrt, ↓ev_endnx, ↓ev_addi, ↓ev_addt, ↓ev_addl, ↓ev_adds, ↓ev_sub, ↓ev_muli, ↓ev_mull, ↓ev_mult, ↓ev_mod, ↓ev_div, ↓ev_pow, ↓ev_shl, ↓ev_cmp, ↓ev_lt, ↓ev_le, ↓ev_gt, ↓ev_ge, ↓ev_eqi, ↓ev_nei, ↓ev_eqs, ↓ev_nes, ↓ev_eqtt, ↓ev_eqll, ↓ev_nett, ↓ev_nell, ↓ev_isN, ↓ev_notN, ↓ev_neg, ↓ev_ixt, ↓ev_ixl, ↓ev_ix0, ↓ev_ix1, ↓ev_ix2, ↓ev_slt, ↓ev_sll, ↓ev_lent, ↓ev_lenl, ↓ev_tupt, ↓ev_tupl, ↓ev_inti, ↓ev_intb, ↓ev_abs, ↓ev_listt, ↓ev_listl, ↓ev_repr, ↓ev_Rev, ↓ev_isA, ↓ev_ndt, ↓ev_ndl, ↓ev_ndi, ↓ev_ndb, ↓ev_nds, ↓ev_ndn, ↓ev_iatt, ↓ev_iail, ↓ev_iaii, ↓ev_iabi, ↓ev_iaib, ↓ev_iabb, ↓ev_iass, ↓ev_iain, ↓ev_iain0, ↓ev_iatn0, ↓ev_Chain, ↓ev_Rng3, ↓asZip_l, ↓asZip_t, ↓ev_Zip, ↓ev_Rg1, ↓ev_Rg2, ↓ev_LstRg, ↓ev_TupRg, ↓ev_min2, ↓ev_max2, ↓ev_nnn, ↓ev_nni, ↓ev_nnt, ↓ev_nnl, ↓ev_nns, ↓ev_nnb, ↓ev_OpL, ↓ev_cat, ↓ev_rep, ↓ev_elrt, ↓evk_Comp, ↓evk_KC, ↓evk_Call, ↓evk_draw, ↓ev_ownDz, ↓ev_ownDs, ↓ev_DPut, ↓ev_newD, ↓ev_disp1, ↓ev_ParL, ↓ev_R0, ↓ev_Rc, ↓ev_sls0, ↓ev_slsc, ↓ev_inl, ↓ev_int, ↓ev_ind, ↓ev_ninl, ↓ev_nint, ↓ev_nind, ↓ev_getD, ↓ev_listD, ↓ev_dictC, ↓ev_keyi, ↓ev_keys, ↓ev_IfT, ↓ev_Index, ↓asTup_e, ↓ev_RevT, ↓ev_Remove, ↓ev_isB, ↓ev_notB, ↓ev_Count, ↓ev_nox, ↓ev_CallX, ↓ev_Raise, ↓ev_Try1, ↓ev_Err, ↓ev_IfC, ↓ev_wrt, ↓ev_wnx, ↓ev_ExtendT, ↓ev_ZipLT, ↓ev_ZipTL, ↓ev_SortSet, ↓ev_ZipTX, ↓List.set_cons_zero, ↓List.set_cons_succ, ↓exists_eq_left', List.length_cons, List.length_nil, Nat.reduceAdd, Nat.reduceLeDiff, true_and, and_true, decide_true, decide_false, Bool.not_true, Bool.not_false, List.nil_append])
namespace DL
theorem nodup_len {α : Type} [DecidableEq α] : ∀ {a b : List α}, a.Nodup → (∀ x ∈ a, x ∈ b) → a.length ≤ b.length
  | [], _, _, _ => by simp
  | x :: a, b, h, hs => by
    rw [List.nodup_cons] at h
    have hx := hs x (by simp)
    have ih := nodup_len (b := b.erase x) h.2 fun y hy => (List.mem_erase_of_ne (fun e : y = x => h.1 (by rw [← e]; exact hy))).mpr (hs y (by simp [hy]))
    have := List.length_erase_of_mem hx
    have := List.length_pos_of_mem hx
    rw [List.length_cons]; omega
end DL
open PySem PySem.Spec PyProof.Rows L2 DL
local macro_rules | `(tactic| walk_at "e") => `(tactic| simp only [↓getS_z, ↓getS_s, ↓asBl_e, ↓asInt_e, ↓asLst_e, ↓asSeq_l, ↓asSeq_t, ↓ifK_t, ↓ifK_f, ↓ev_C, ↓ev_Var, ↓ev_frv, ↓ev_fro, ↓ev_topv, ↓ev_topo, ↓ev_frl, ↓ev_frd, ↓ev_odv, ↓ev_odn, ↓ev_fiv, ↓ev_fin, ↓ev_Op, ↓ev_Un, ↓ev_UL, ↓ev_Bb, ↓ev_Tst, ↓ev_AndT, ↓ev_OrT, ↓ev_NotT, ↓ev_And, ↓ev_Or, ↓ev_Not, ↓ev_IfE, ↓ev_A0, ↓ev_Ac, ↓ev_Tup, ↓ev_Lst, ↓ev_Frz, ↓ev_NoP, ↓ev_Part, ↓ev_Sl, ↓ev_SeqI, ↓ev_EnumI, ↓ev_Rng1, ↓ev_Rng2, ↓ev_nm, ↓ev_tp, ↓ev_tp0, ↓ev_tpc, ↓ev_Next, ↓ev_Seq, ↓ev_Break, ↓ev_Cont, ↓ev_Drop, ↓ev_Ret, ↓ev_RetN, ↓ev_If, ↓ev_Set, ↓ev_SetL, ↓ev_SetP, ↓ev_rhv, ↓ev_rho, ↓ev_Par, ↓ev_For, ↓ev_Yes, ↓ev_ownz, ↓ev_owns, ↓ev_Append, ↓ev_Extend, ↓ev_Pop, ↓ev_PopAt, ↓ev_SetIx, ↓ev_wi0, ↓ev_wic, ↓ev_re0, ↓ev_rec, ↓ev_kvn, ↓ev_kvv, ↓ev_kvo, ↓ev_kvs, ↓ev_endrt, ↓ev_endnx, ↓ev_addi, ↓ev_addt, ↓ev_addl, ↓ev_adds, ↓ev_sub, ↓ev_muli, ↓ev_mull, ↓ev_mult, ↓ev_mod, ↓ev_div, ↓ev_pow, ↓ev_shl, ↓ev_cmp, ↓ev_lt, ↓ev_le, ↓ev_gt, ↓ev_ge, ↓ev_eqi, ↓ev_nei, ↓ev_eqs, ↓ev_nes, ↓ev_eqtt, ↓ev_eqll, ↓ev_nett, ↓ev_nell, ↓ev_isN, ↓ev_notN, ↓ev_neg, ↓ev_ixt, ↓ev_ixl, ↓ev_ix0, ↓ev_ix1, ↓ev_ix2, ↓ev_slt, ↓ev_sll, ↓ev_lent, ↓ev_lenl, ↓ev_tupt, ↓ev_tupl, ↓ev_inti, ↓ev_intb, ↓ev_abs, ↓ev_listt, ↓ev_listl, ↓ev_repr, ↓ev_Rev, ↓ev_isA, ↓ev_ndt, ↓ev_ndl, ↓ev_ndi, ↓ev_ndb, ↓ev_nds, ↓ev_ndn, ↓ev_iatt, ↓ev_iail, ↓ev_iaii, ↓ev_iabi, ↓ev_iaib, ↓ev_iabb, ↓ev_iass, ↓ev_iain, ↓ev_iain0, ↓ev_iatn0, ↓ev_Chain, ↓ev_Rng3, ↓asZip_l, ↓asZip_t, ↓ev_Zip, ↓ev_Rg1, ↓ev_Rg2, ↓ev_LstRg, ↓ev_TupRg, ↓ev_min2, ↓ev_max2, ↓ev_nnn, ↓ev_nni, ↓ev_nnt, ↓ev_nnl, ↓ev_nns, ↓ev_nnb, ↓ev_OpL, ↓ev_cat, ↓ev_rep, ↓ev_elrt, ↓evk_Comp, ↓evk_KC, ↓evk_Call, ↓evk_draw, ↓ev_ownDz, ↓ev_ownDs, ↓ev_DPut, ↓ev_newD, ↓ev_disp1, ↓ev_ParL, ↓ev_R0, ↓ev_Rc, ↓ev_sls0, ↓ev_slsc, ↓ev_inl, ↓ev_int, ↓ev_ind, ↓ev_ninl, ↓ev_nint, ↓ev_nind, ↓ev_getD, ↓ev_listD, ↓ev_dictC, ↓ev_keyi, ↓ev_keys, ↓ev_IfT, ↓ev_Index, ↓asTup_e, ↓ev_RevT, ↓ev_Remove, ↓ev_isB, ↓ev_notB, ↓ev_Count, ↓ev_nox, ↓ev_CallX, ↓ev_Raise, ↓ev_Try1, ↓ev_Err, ↓ev_IfC, ↓ev_wrt, ↓ev_wnx, ↓ev_ExtendT, ↓ev_ZipLT, ↓ev_ZipTL, ↓ev_SortSet, ↓ev_ZipTX, ↓evk_CompO, ↓evk_KCO, ↓List.set_cons_zero, ↓List.set_cons_succ, ↓exists_eq_left', List.length_cons, List.length_nil, Nat.reduceAdd, Nat.reduceLeDiff, true_and, and_true, decide_true, decide_false, Bool.not_true, Bool.not_false, List.nil_append])
namespace DL
end DL
namespace DL
end DL
namespace DL
end DL
namespace DL
end DL
open PySem PySem.Spec PyProof.Rows L2 DL
namespace DL
def Dis (p q : Int × Int) : Prop := ∀ d, ¬ (p.1 ∣ d - p.2 ∧ q.1 ∣ d - q.2)
theorem Dis.symm {p q : Int × Int} (h : Dis p q) : Dis q p := fun d ⟨a, b⟩ => h d ⟨b, a⟩
theorem mem_others {l : List (Int × Int)} {i : Nat} {q : Int × Int} : q ∈ others l i ↔ ∃ j, j < l.length ∧ j ≠ i ∧ l.getD j (1, 0) = q := by
  unfold others
  rw [mem_pick]
  constructor
  · rintro ⟨j, hj, e⟩
    obtain ⟨h1, h2⟩ := List.mem_filter.mp hj
    exact ⟨j, List.mem_range.mp h1, of_decide_eq_true h2, e⟩
  · rintro ⟨j, h1, h2, e⟩
    exact ⟨j, List.mem_filter.mpr ⟨List.mem_range.mpr h1, decide_eq_true h2⟩, e⟩
theorem cut_mem {p q : Int × Int} {n : Nat} : q ∈ cutW p n ↔ ∃ k : Nat, k < n ∧ q = (p.1 * n, p.2 + (k : Int) * p.1) := by
  unfold cutW
  rw [List.mem_map]
  constructor
  · rintro ⟨k, hk, rfl⟩; exact ⟨k, List.mem_range.mp hk, rfl⟩
  · rintro ⟨k, hk, rfl⟩; exact ⟨k, List.mem_range.mpr hk, rfl⟩
theorem cut_sub {p q : Int × Int} {n : Nat} (h : q ∈ cutW p n) {d : Int} (hd : q.1 ∣ d - q.2) : p.1 ∣ d - p.2 := by
  obtain ⟨k, _, rfl⟩ := cut_mem.mp h
  have h1 := Int.dvd_trans (Int.dvd_mul_right p.1 (n : Int)) hd
  have h2 := Int.dvd_add h1 (show p.1 ∣ (k : Int) * p.1 from ⟨k, Int.mul_comm _ _⟩)
  rwa [show d - (p.2 + (k : Int) * p.1) + (k : Int) * p.1 = d - p.2 by omega] at h2
theorem cut_has {p : Int × Int} {n : Nat} (hn : 0 < n) {d : Int} (hd : p.1 ∣ d - p.2) : ∃ q ∈ cutW p n, q.1 ∣ d - q.2 := by
  obtain ⟨m, hm⟩ := hd
  have e1 := Int.emod_nonneg m (show (n : Int) ≠ 0 by omega)
  have e2 := Int.emod_lt_of_pos m (show (0 : Int) < n by omega)
  refine ⟨_, cut_mem.mpr ⟨(m % n).toNat, by omega, rfl⟩, ⟨m / n, ?_⟩⟩
  rw [Int.toNat_of_nonneg e1]
  have e3 := Int.emod_add_mul_ediv m n
  have e4 : p.1 * m = m % n * p.1 + p.1 * n * (m / n) := by
    rw [Int.mul_comm (m % n), Int.mul_assoc, ← Int.mul_add, e3]
  show d - (p.2 + m % n * p.1) = p.1 * n * (m / n)
  omega
theorem cut_dis {p : Int × Int} {n : Nat} (hp : 0 < p.1) : (cutW p n).Pairwise Dis := by
  unfold cutW
  rw [List.pairwise_map]
  refine (List.pairwise_lt_range).imp_of_mem fun {a b} ha hb hab => ?_
  have hbn := List.mem_range.mp hb
  rintro d ⟨h1, h2⟩
  simp only at h1 h2
  have h3 := Int.dvd_sub h1 h2
  rw [show d - (p.2 + (a : Int) * p.1) - (d - (p.2 + (b : Int) * p.1)) = p.1 * ((b : Int) - a) by
    rw [Int.mul_sub, Int.mul_comm p.1 (b : Int), Int.mul_comm p.1 (a : Int)]; omega] at h3
  have h4 := Int.dvd_of_mul_dvd_mul_left (by omega) h3
  have := Int.le_of_dvd (by omega) h4
  omega
end DL
namespace DL
end DL
open PySem PySem.Spec PyProof.Rows L2 DL
namespace DL
def encO : Option Int → D
  | none => .non
  | some v => .int v
def wfL (ts : List Int) (fs : List (Option Int)) : List (Int × Int) := (ts.zip fs).filterMap fun x => x.2.map fun v => (x.1, v)
def restL (ts : List Int) (fs : List (Option Int)) : List Int := (ts.zip fs).filterMap fun x => if x.2.isNone then some x.1 else none
def prodL : List Int → Int
  | [] => 1
  | n :: r => n * prodL r
theorem prodL_pos : ∀ {ns : List Int}, (∀ n ∈ ns, 0 < n) → 0 < prodL ns
  | [], _ => by unfold prodL; omega
  | n :: r, h => by
    unfold prodL
    exact Int.mul_pos (h n (by simp)) (prodL_pos fun m hm => h m (by simp [hm]))
theorem prodL_dvd : ∀ {ns : List Int} {n : Int}, n ∈ ns → n ∣ prodL ns
  | m :: r, n, h => by
    unfold prodL
    rcases List.mem_cons.mp h with rfl | h
    · exact Int.dvd_mul_right _ _
    · exact Int.dvd_trans (prodL_dvd h) (Int.dvd_mul_left _ _)
def topL (ns : List Int) : Int := (ns.map fun n => prodL ns / n).sum
def mayB (l : List (Int × Int)) (ts : List Int) : Bool := decide (topL (l.map (·.1) ++ ts) ≥ prodL (l.map (·.1) ++ ts))
def openW (l : List (Int × Int)) : List Nat := (List.range 120).filter fun d => decide (tally l d = 0)
def hopB (l : List (Int × Int)) (rest : List Int) : Bool := decide (((openW l).length : Int) > (rest.map fun t => 120 / t + 1).sum)
end DL
namespace DL
end DL
namespace DL
end DL
namespace DL
end DL
namespace DL
end DL
namespace DL
end DL
namespace DL
end DL
open PySem PySem.Spec PyProof.Rows L2 DL
local macro_rules | `(tactic| walk_at "d") => `(tactic| simp only [↓getS_z, ↓getS_s, ↓asBl_e, ↓asInt_e, ↓asLst_e, ↓asSeq_l, ↓asSeq_t, ↓ifK_t, ↓ifK_f, ↓ev_C, ↓ev_Var, ↓ev_frv, ↓ev_fro, ↓ev_topv, ↓ev_topo, ↓ev_frl, ↓ev_frd, ↓ev_odv, ↓ev_odn, ↓ev_fiv, ↓ev_fin, ↓ev_Op, ↓ev_Un, ↓ev_UL, ↓ev_Bb, ↓ev_Tst, ↓ev_AndT, ↓ev_OrT, ↓ev_NotT, ↓ev_And, ↓ev_Or, ↓ev_Not, ↓ev_IfE, ↓ev_A0, ↓ev_Ac, ↓ev_Tup, ↓ev_Lst, ↓ev_Frz, ↓ev_Call, ↓ev_NoP, ↓ev_Part, ↓ev_Sl, ↓ev_SeqI, ↓ev_EnumI, ↓ev_Rng1, ↓ev_Rng2, ↓ev_nm, ↓ev_tp, ↓ev_tp0, ↓ev_tpc, ↓ev_Next, ↓ev_Seq, ↓ev_Break, ↓ev_Cont, ↓ev_Drop, ↓ev_Ret, ↓ev_RetN, ↓ev_If, ↓ev_Set, ↓ev_SetL, ↓ev_SetP, ↓ev_rhv, ↓ev_rho, ↓ev_Par, ↓ev_For, ↓ev_Comp, ↓ev_Yes, ↓ev_ownz, ↓ev_owns, ↓ev_Append, ↓ev_Extend, ↓ev_Pop, ↓ev_PopAt, ↓ev_SetIx, ↓ev_wi0, ↓ev_wic, ↓ev_re0, ↓ev_rec, ↓ev_kvn, ↓ev_kvv, ↓ev_kvo, ↓ev_kvs, ↓ev_endrt, ↓ev_endnx, ↓ev_addi, ↓ev_addt, ↓ev_addl, ↓ev_adds, ↓ev_sub, ↓ev_muli, ↓ev_mull, ↓ev_mult, ↓ev_mod, ↓ev_div, ↓ev_pow, ↓ev_shl, ↓ev_cmp, ↓ev_lt, ↓ev_le, ↓ev_gt, ↓ev_ge, ↓ev_eqi, ↓ev_nei, ↓ev_eqs, ↓ev_nes, ↓ev_eqtt, ↓ev_eqll, ↓ev_nett, ↓ev_nell, ↓ev_isN, ↓ev_notN, ↓ev_neg, ↓ev_ixt, ↓ev_ixl, ↓ev_ix0, ↓ev_ix1, ↓ev_ix2, ↓ev_slt, ↓ev_sll, ↓ev_lent, ↓ev_lenl, ↓ev_tupt, ↓ev_tupl, ↓ev_inti, ↓ev_intb, ↓ev_abs, ↓ev_listt, ↓ev_listl, ↓ev_repr, ↓ev_Rev, ↓ev_isA, ↓ev_ndt, ↓ev_ndl, ↓ev_ndi, ↓ev_ndb, ↓ev_nds, ↓ev_ndn, ↓ev_iatt, ↓ev_iail, ↓ev_iaii, ↓ev_iabi, ↓ev_iaib, ↓ev_iabb, ↓ev_iass, ↓ev_iain, ↓ev_iain0, ↓ev_iatn0, ↓ev_Chain, ↓ev_Rng3, ↓asZip_l, ↓asZip_t, ↓ev_Zip, ↓ev_Rg1, ↓ev_Rg2, ↓ev_LstRg, ↓ev_TupRg, ↓ev_min2, ↓ev_max2, ↓ev_nnn, ↓ev_nni, ↓ev_nnt, ↓ev_nnl, ↓ev_nns, ↓ev_nnb, ↓ev_OpL, ↓ev_cat, ↓ev_rep, ↓ev_elrt, ↓ev_draw, ↓ev_ownDz, ↓ev_ownDs, ↓ev_DPut, ↓ev_newD, ↓ev_disp1, ↓ev_ParL, ↓ev_R0, ↓ev_Rc, ↓ev_sls0, ↓ev_slsc, ↓ev_inl, ↓ev_int, ↓ev_ind, ↓ev_ninl, ↓ev_nint, ↓ev_nind, ↓ev_getD, ↓ev_listD, ↓ev_dictC, ↓ev_keyi, ↓ev_keys, ↓ev_IfT, ↓ev_Index, ↓asTup_e, ↓ev_RevT, ↓ev_Remove, ↓ev_isB, ↓ev_notB, ↓ev_Count, ↓ev_nox, ↓ev_CallX, ↓ev_Raise, ↓ev_Try1, ↓ev_Err, ↓ev_IfC, ↓ev_wrt, ↓ev_wnx, ↓ev_ExtendT, ↓ev_ZipLT, ↓ev_ZipTL, ↓ev_SortSet, ↓ev_ZipTX, ↓ev_OrV, ↓List.set_cons_zero, ↓List.set_cons_succ, ↓exists_eq_left', List.length_cons, List.length_nil, Nat.reduceAdd, Nat.reduceLeDiff, true_and, and_true, decide_true, decide_false, Bool.not_true, Bool.not_false, List.nil_append])
local macro_rules | `(tactic| walk_at "e") => `(tactic| simp only [↓getS_z, ↓getS_s, ↓asBl_e, ↓asInt_e, ↓asLst_e, ↓asSeq_l, ↓asSeq_t, ↓ifK_t, ↓ifK_f, ↓ev_C, ↓ev_Var, ↓ev_frv, ↓ev_fro, ↓ev_topv, ↓ev_topo, ↓ev_frl, ↓ev_frd, ↓ev_odv, ↓ev_odn, ↓ev_fiv, ↓ev_fin, ↓ev_Op, ↓ev_Un, ↓ev_UL, ↓ev_Bb, ↓ev_Tst, ↓ev_AndT, ↓ev_OrT, ↓ev_NotT, ↓ev_And, ↓ev_Or, ↓ev_Not, ↓ev_IfE, ↓ev_A0, ↓ev_Ac, ↓ev_Tup, ↓ev_Lst, ↓ev_Frz, ↓ev_NoP, ↓ev_Part, ↓ev_Sl, ↓ev_SeqI, ↓ev_EnumI, ↓ev_Rng1, ↓ev_Rng2, ↓ev_nm, ↓ev_tp, ↓ev_tp0, ↓ev_tpc, ↓ev_Next, ↓ev_Seq, ↓ev_Break, ↓ev_Cont, ↓ev_Drop, ↓ev_Ret, ↓ev_RetN, ↓ev_If, ↓ev_Set, ↓ev_SetL, ↓ev_SetP, ↓ev_rhv, ↓ev_rho, ↓ev_Par, ↓ev_For, ↓ev_Yes, ↓ev_ownz, ↓ev_owns, ↓ev_Append, ↓ev_Extend, ↓ev_Pop, ↓ev_PopAt, ↓ev_SetIx, ↓ev_wi0, ↓ev_wic, ↓ev_re0, ↓ev_rec, ↓ev_kvn, ↓ev_kvv, ↓ev_kvo, ↓ev_kvs, ↓ev_endrt, ↓ev_endnx, ↓ev_addi, ↓ev_addt, ↓ev_addl, ↓ev_adds, ↓ev_sub, ↓ev_muli, ↓ev_mull, ↓ev_mult, ↓ev_mod, ↓ev_div, ↓ev_pow, ↓ev_shl, ↓ev_cmp, ↓ev_lt, ↓ev_le, ↓ev_gt, ↓ev_ge, ↓ev_eqi, ↓ev_nei, ↓ev_eqs, ↓ev_nes, ↓ev_eqtt, ↓ev_eqll, ↓ev_nett, ↓ev_nell, ↓ev_isN, ↓ev_notN, ↓ev_neg, ↓ev_ixt, ↓ev_ixl, ↓ev_ix0, ↓ev_ix1, ↓ev_ix2, ↓ev_slt, ↓ev_sll, ↓ev_lent, ↓ev_lenl, ↓ev_tupt, ↓ev_tupl, ↓ev_inti, ↓ev_intb, ↓ev_abs, ↓ev_listt, ↓ev_listl, ↓ev_repr, ↓ev_Rev, ↓ev_isA, ↓ev_ndt, ↓ev_ndl, ↓ev_ndi, ↓ev_ndb, ↓ev_nds, ↓ev_ndn, ↓ev_iatt, ↓ev_iail, ↓ev_iaii, ↓ev_iabi, ↓ev_iaib, ↓ev_iabb, ↓ev_iass, ↓ev_iain, ↓ev_iain0, ↓ev_iatn0, ↓ev_Chain, ↓ev_Rng3, ↓asZip_l, ↓asZip_t, ↓ev_Zip, ↓ev_Rg1, ↓ev_Rg2, ↓ev_LstRg, ↓ev_TupRg, ↓ev_min2, ↓ev_max2, ↓ev_nnn, ↓ev_nni, ↓ev_nnt, ↓ev_nnl, ↓ev_nns, ↓ev_nnb, ↓ev_OpL, ↓ev_cat, ↓ev_rep, ↓ev_elrt, ↓evk_Comp, ↓evk_KC, ↓evk_Call, ↓evk_draw, ↓ev_ownDz, ↓ev_ownDs, ↓ev_DPut, ↓ev_newD, ↓ev_disp1, ↓ev_ParL, ↓ev_R0, ↓ev_Rc, ↓ev_sls0, ↓ev_slsc, ↓ev_inl, ↓ev_int, ↓ev_ind, ↓ev_ninl, ↓ev_nint, ↓ev_nind, ↓ev_getD, ↓ev_listD, ↓ev_dictC, ↓ev_keyi, ↓ev_keys, ↓ev_IfT, ↓ev_Index, ↓asTup_e, ↓ev_RevT, ↓ev_Remove, ↓ev_isB, ↓ev_notB, ↓ev_Count, ↓ev_nox, ↓ev_CallX, ↓ev_Raise, ↓ev_Try1, ↓ev_Err, ↓ev_IfC, ↓ev_wrt, ↓ev_wnx, ↓ev_ExtendT, ↓ev_ZipLT, ↓ev_ZipTL, ↓ev_SortSet, ↓ev_ZipTX, ↓evk_CompO, ↓evk_KCO, ↓ev_OrV, ↓List.set_cons_zero, ↓List.set_cons_succ, ↓exists_eq_left', List.length_cons, List.length_nil, Nat.reduceAdd, Nat.reduceLeDiff, true_and, and_true, decide_true, decide_false, Bool.not_true, Bool.not_false, List.nil_append])
namespace DL
def closedL (l : List (Int × Int)) : Prop := ∀ d : Int, tally l d ≠ 0
def condP (ts : List Int) (fs : List (Option Int)) (k : Nat) (tried : List Int) : Prop := fs[k]? = some none ∧ ts.getD k 1 ∉ tried
def setP (ts : List Int) (fs : List (Option Int)) (day : Int) (k : Nat) : List (Option Int) := fs.set k (some (day % ts.getD k 1))
inductive LoopP (R : List (Option Int) → Option (List Int) → Prop) (ts : List Int) (fs : List (Option Int)) (day : Int) : Nat → List Int → Prop where
  | nil : LoopP R ts fs day 0 []
  | skip {k : Nat} {tried : List Int} : LoopP R ts fs day k tried → ¬ condP ts fs k tried → LoopP R ts fs day (k + 1) tried
  | miss {k : Nat} {tried : List Int} : LoopP R ts fs day k tried → condP ts fs k tried → R (setP ts fs day k) none → LoopP R ts fs day (k + 1) (tried ++ [ts.getD k 1])
def CloN (L : List (Int × Int)) (ts : List Int) : Nat → List (Option Int) → Option (List Int) → Prop
  | 0 => fun _ _ => False
  | n + 1 => fun fs r =>
    (closedL (L ++ wfL ts fs) ∧ r = some (fs.map fun f => f.getD 0)) ∨
    ∃ day : Nat, IsOD (L ++ wfL ts fs) 1 (.int day) ∧
      ((hopB (L ++ wfL ts fs) (restL ts fs) = true ∧ r = none) ∨
       (hopB (L ++ wfL ts fs) (restL ts fs) = false ∧
        ((r = none ∧ ∃ tried, LoopP (CloN L ts n) ts fs day ts.length tried) ∨
         ∃ (k : Nat) (tried g : List Int), k < ts.length ∧ LoopP (CloN L ts n) ts fs day k tried ∧ condP ts fs k tried ∧ CloN L ts n (setP ts fs day k) (some g) ∧ r = some g)))
theorem LoopP.pre {R : List (Option Int) → Option (List Int) → Prop} {ts : List Int} {fs : List (Option Int)} {day : Int} : ∀ {n : Nat} {a : List Int}, LoopP R ts fs day n a → ∀ k, k < n → ∃ t, LoopP R ts fs day k t ∧ (condP ts fs k t → R (setP ts fs day k) none)
  | _, _, .nil, k, h => by omega
  | _, _, .skip (k := m) h c, k, hk => by
    by_cases e : k = m
    · subst e; exact ⟨_, h, fun c' => absurd c' c⟩
    · exact h.pre k (by omega)
  | _, _, .miss (k := m) h c r, k, hk => by
    by_cases e : k = m
    · subst e; exact ⟨_, h, fun _ => r⟩
    · exact h.pre k (by omega)
theorem od_not {l : List (Int × Int)} {day : Nat} (h : IsOD l 1 (.int day)) : tally l day = 0 := by
  rcases h with ⟨e, _⟩ | ⟨n, e, h1, _⟩
  · cases e
  · have : day = n := by injection e; omega
    subst this; omega
def FsOk (ts : List Int) (fs : List (Option Int)) : Prop := fs.length = ts.length ∧ ∀ (k : Nat) (v : Int), fs[k]? = some (some v) → 0 ≤ v ∧ v < ts.getD k 1
theorem mem_wfL {ts : List Int} {fs : List (Option Int)} {p : Int × Int} : p ∈ wfL ts fs ↔ ∃ k : Nat, ts[k]? = some p.1 ∧ fs[k]? = some (some p.2) := by
  unfold wfL
  rw [List.mem_filterMap]
  constructor
  · rintro ⟨x, hx, e⟩
    obtain ⟨k, hk⟩ := List.mem_iff_getElem?.mp hx
    rw [List.getElem?_zip_eq_some] at hk
    cases hx2 : x.2 with
    | none => rw [hx2] at e; cases e
    | some v =>
      rw [hx2] at e
      have : (x.1, v) = p := Option.some.inj e
      subst this
      exact ⟨k, hk.1, by rw [hk.2, hx2]⟩
  · rintro ⟨k, h1, h2⟩
    exact ⟨(p.1, some p.2), List.mem_iff_getElem?.mpr ⟨k, List.getElem?_zip_eq_some.mpr ⟨h1, h2⟩⟩, rfl⟩
theorem FsOk.lot {ts : List Int} {fs : List (Option Int)} (h : FsOk ts fs) (ht : ∀ t ∈ ts, 0 < t ∧ t ≤ 1000000000000) : IsLot (wfL ts fs) := fun p hp => by
  obtain ⟨k, h1, h2⟩ := mem_wfL.mp hp
  obtain ⟨h3, h4⟩ := h.2 k _ h2
  have h5 := ht _ (List.mem_of_getElem? h1)
  rw [List.getD_eq_getElem?_getD, h1] at h4
  exact ⟨by omega, h5.2, h3, h4⟩
theorem restL_mem {ts : List Int} {fs : List (Option Int)} {t : Int} (h : t ∈ restL ts fs) : t ∈ ts := by
  unfold restL at h
  obtain ⟨x, hx, e⟩ := List.mem_filterMap.mp h
  split at e
  · have := Option.some.inj e
    subst this
    exact (List.of_mem_zip hx).1
  · cases e
theorem FsOk.set {ts : List Int} {fs : List (Option Int)} (h : FsOk ts fs) (ht : ∀ t ∈ ts, 0 < t ∧ t ≤ 1000000000000) {day : Int} {k : Nat} (hk : k < ts.length) : FsOk ts (setP ts fs day k) := by
  unfold setP
  refine ⟨by rw [List.length_set]; exact h.1, fun j v hj => ?_⟩
  by_cases e : k = j
  · subst e
    have hkl : k < fs.length := by rw [h.1]; exact hk
    rw [List.getElem?_set_self hkl] at hj
    have : day % ts.getD k 1 = v := Option.some.inj (Option.some.inj hj)
    subst this
    have hp : 0 < ts.getD k 1 := by
      rw [List.getD_eq_getElem?_getD, List.getElem?_eq_getElem hk]
      exact (ht _ (List.getElem_mem hk)).1
    exact ⟨Int.emod_nonneg _ (by omega), Int.emod_lt_of_pos _ hp⟩
  · rw [List.getElem?_set_ne e] at hj
    exact h.2 j v hj
end DL
namespace DL
end DL
open PySem PySem.Spec PyProof.Rows L2 DL
namespace DL
theorem flt_or {α : Type} (a b : α → Bool) : ∀ A : List α, (A.filter fun x => a x || b x).length ≤ (A.filter a).length + (A.filter b).length
  | [] => by simp
  | x :: A => by
    have ih := flt_or a b A
    cases h1 : a x <;> cases h2 : b x <;> simp [h1, h2] <;> omega
theorem flt_le {α : Type} {a b : α → Bool} : ∀ {A : List α}, (∀ x ∈ A, a x = true → b x = true) → (A.filter a).length ≤ (A.filter b).length
  | [], _ => by simp
  | x :: A, h => by
    have ih := flt_le (a := a) (b := b) (A := A) fun y hy => h y (by simp [hy])
    have hx := h x (by simp)
    cases h1 : a x <;> cases h2 : b x
    · simpa [h1, h2] using ih
    · simp [h1, h2]; omega
    · rw [hx h1] at h2; cases h2
    · simpa [h1, h2] using ih
def cntW (A : List Nat) (p : Int × Int) : Nat := (A.filter fun d : Nat => decide (p.1 ∣ (d : Int) - p.2)).length
theorem cnt_union (A : List Nat) : ∀ W : List (Int × Int), (A.filter fun d : Nat => decide (tally W (d : Int) ≠ 0)).length ≤ (W.map (cntW A)).sum
  | [] => by
    have : A.filter (fun d : Nat => decide (tally [] (d : Int) ≠ 0)) = [] := List.filter_eq_nil_iff.mpr fun d _ => by simp [tally]
    rw [this]; simp
  | p :: W => by
    have ih := cnt_union A W
    rw [List.map_cons, List.sum_cons]
    refine Nat.le_trans (flt_le (b := fun d : Nat => decide (p.1 ∣ (d : Int) - p.2) || decide (tally W d ≠ 0)) fun d _ h => ?_) (Nat.le_trans (flt_or _ _ A) (Nat.add_le_add_left ih _))
    rw [decide_eq_true_eq] at h
    obtain ⟨q, hq, hd⟩ := tally_pos'.mp h
    rw [Bool.or_eq_true, decide_eq_true_eq, decide_eq_true_eq]
    rcases List.mem_cons.mp hq with rfl | hq
    · exact .inl hd
    · exact .inr (tally_pos'.mpr ⟨q, hq, hd⟩)
theorem cnt_bound {p : Int × Int} (hp : 0 < p.1) {n m : Nat} (h : ∀ d : Nat, d < n → ((d : Int) / p.1).toNat < m) : cntW (List.range n) p ≤ m := by
  unfold cntW
  have hnd : (((List.range n).filter fun d : Nat => decide (p.1 ∣ (d : Int) - p.2)).map fun d : Nat => ((d : Int) / p.1).toNat).Nodup := by
    show List.Pairwise _ _
    rw [List.pairwise_map]
    refine (List.Pairwise.filter _ (show List.Pairwise _ (List.range n) from List.nodup_range)).imp_of_mem fun {a b} ha hb hab e => hab ?_
    obtain ⟨_, ha2⟩ := List.mem_filter.mp ha
    obtain ⟨_, hb2⟩ := List.mem_filter.mp hb
    have h1 := of_decide_eq_true ha2
    have h2 := of_decide_eq_true hb2
    have h3 := Int.dvd_sub h1 h2
    rw [show (a : Int) - p.2 - ((b : Int) - p.2) = (a : Int) - b by omega] at h3
    have n1 := Int.ediv_nonneg (show (0 : Int) ≤ (a : Int) by omega) (Int.le_of_lt hp)
    have n2 := Int.ediv_nonneg (show (0 : Int) ≤ (b : Int) by omega) (Int.le_of_lt hp)
    have e' : (a : Int) / p.1 = (b : Int) / p.1 := by omega
    have m1 := Int.emod_add_mul_ediv (a : Int) p.1
    have m2 := Int.emod_add_mul_ediv (b : Int) p.1
    have m3 : (a : Int) % p.1 = (b : Int) % p.1 := Int.emod_eq_emod_iff_emod_sub_eq_zero.mpr (Int.emod_eq_zero_of_dvd h3)
    rw [e', m3] at m1
    omega
  have := nodup_len (b := List.range m) hnd fun x hx => by
    obtain ⟨d, hd, rfl⟩ := List.mem_map.mp hx
    exact List.mem_range.mpr (h d (List.mem_range.mp (List.mem_filter.mp hd).1))
  rw [List.length_map, List.length_range] at this
  exact this
end DL
namespace DL
def Firsts (ts g : List Int) : Prop := g.length = ts.length ∧ ∀ k, k < ts.length → 0 ≤ g.getD k 0 ∧ g.getD k 0 < ts.getD k 1
def Agree (fs : List (Option Int)) (g : List Int) : Prop := ∀ (k : Nat) (v : Int), fs[k]? = some (some v) → g[k]? = some v
theorem mem_zip_get {ts g : List Int} {p : Int × Int} : p ∈ ts.zip g ↔ ∃ k : Nat, ts[k]? = some p.1 ∧ g[k]? = some p.2 := by
  rw [List.mem_iff_getElem?]
  exact ⟨fun ⟨k, h⟩ => ⟨k, List.getElem?_zip_eq_some.mp h⟩, fun ⟨k, h⟩ => ⟨k, List.getElem?_zip_eq_some.mpr h⟩⟩
theorem getD_some {α : Type} {l : List α} {k : Nat} {x d : α} (h : l[k]? = some x) : l.getD k d = x := by
  rw [List.getD_eq_getElem?_getD, h]; rfl
theorem Firsts.get {ts g : List Int} (h : Firsts ts g) {k : Nat} {t : Int} (hk : ts[k]? = some t) : ∃ v, g[k]? = some v ∧ 0 ≤ v ∧ v < t := by
  have hkl := (List.getElem?_eq_some_iff.mp hk).1
  have hg : k < g.length := by rw [h.1]; exact hkl
  have h1 := h.2 k hkl
  rw [getD_some hk, getD_some (List.getElem?_eq_getElem hg)] at h1
  exact ⟨_, List.getElem?_eq_getElem hg, h1⟩
theorem sum_bound {f : Int → Int} {A : List Nat} : ∀ {W : List (Int × Int)}, (∀ p ∈ W, (cntW A p : Int) ≤ f p.1) → (((W.map (cntW A)).sum : Nat) : Int) ≤ ((W.map (·.1)).map f).sum
  | [], _ => by simp
  | p :: W, h => by
    have ih := sum_bound (f := f) (A := A) (W := W) fun q hq => h q (by simp [hq])
    have := h p (by simp)
    simp only [List.map_cons, List.sum_cons] at ih ⊢
    omega
def wnL (ts : List Int) (fs : List (Option Int)) (g : List Int) : List (Int × Int) := ((ts.zip fs).zip g).filterMap fun x => if x.1.2.isNone then some (x.1.1, x.2) else none
theorem wn_rest : ∀ (ts : List Int) (fs : List (Option Int)) (g : List Int), ts.length ≤ g.length → (wnL ts fs g).map (·.1) = restL ts fs
  | [], _, _, _ => by simp [wnL, restL]
  | _ :: _, [], _, _ => by simp [wnL, restL]
  | t :: ts, f :: fs, [], h => by simp at h
  | t :: ts, f :: fs, v :: g, h => by
    have ih := wn_rest ts fs g (by simpa using h)
    unfold wnL restL at ih ⊢
    cases f with
    | none => simpa using ih
    | some w => simpa using ih
theorem mem_wn {ts : List Int} {fs : List (Option Int)} {g : List Int} {k : Nat} {t v : Int} (h1 : ts[k]? = some t) (h2 : fs[k]? = some none) (h3 : g[k]? = some v) : (t, v) ∈ wnL ts fs g := by
  unfold wnL
  exact List.mem_filterMap.mpr ⟨((t, none), v), List.mem_iff_getElem?.mpr ⟨k, List.getElem?_zip_eq_some.mpr ⟨List.getElem?_zip_eq_some.mpr ⟨h1, h2⟩, h3⟩⟩, rfl⟩
theorem wn_sub {ts : List Int} {fs : List (Option Int)} {g : List Int} {p : Int × Int} (h : p ∈ wnL ts fs g) : p.1 ∈ ts := by
  unfold wnL at h
  obtain ⟨x, hx, e⟩ := List.mem_filterMap.mp h
  split at e
  · have := Option.some.inj e
    subst this
    exact (List.of_mem_zip (List.of_mem_zip hx).1).1
  · cases e
theorem open_held {L : List (Int × Int)} {ts : List Int} {fs : List (Option Int)} {g : List Int} (hfs : FsOk ts fs) (ha : Agree fs g) (hc : closedL (L ++ ts.zip g)) {d : Int} (h : tally (L ++ wfL ts fs) d = 0) :
    ∃ (k : Nat) (t v : Int), ts[k]? = some t ∧ fs[k]? = some none ∧ g[k]? = some v ∧ t ∣ d - v := by
  obtain ⟨p, hp, hd⟩ := tally_pos'.mp (hc d)
  have hno : ∀ q ∈ L ++ wfL ts fs, ¬ q.1 ∣ d - q.2 := fun q hq c => absurd h (tally_pos'.mpr ⟨q, hq, c⟩)
  rcases List.mem_append.mp hp with hp | hp
  · exact absurd hd (hno p (List.mem_append_left _ hp))
  · obtain ⟨k, k1, k2⟩ := mem_zip_get.mp hp
    have hkl := (List.getElem?_eq_some_iff.mp k1).1
    have hkf : k < fs.length := by rw [hfs.1]; exact hkl
    cases hf : fs[k] with
    | none => exact ⟨k, _, _, k1, by rw [List.getElem?_eq_getElem hkf, hf], k2, hd⟩
    | some v =>
      have h3 : fs[k]? = some (some v) := by rw [List.getElem?_eq_getElem hkf, hf]
      have h4 := ha k v h3
      rw [k2] at h4
      have : p.2 = v := Option.some.inj h4
      exact absurd hd (hno p (List.mem_append_right _ (mem_wfL.mpr ⟨k, k1, by rw [this]; exact h3⟩)))
theorem hop_sound {L : List (Int × Int)} {ts : List Int} {fs : List (Option Int)} {g : List Int} (hts : ∀ t ∈ ts, 0 < t ∧ t ≤ 1000000000000) (hfs : FsOk ts fs) (hg : Firsts ts g) (ha : Agree fs g) (hh : hopB (L ++ wfL ts fs) (restL ts fs) = true) : ¬ closedL (L ++ ts.zip g) := fun hc => by
  have h1 := of_decide_eq_true hh
  have h2 : (openW (L ++ wfL ts fs)).length ≤ ((List.range 120).filter fun d : Nat => decide (tally (wnL ts fs g) (d : Int) ≠ 0)).length := by
    unfold openW
    refine flt_le fun d _ hd => ?_
    rw [decide_eq_true_eq] at hd ⊢
    obtain ⟨k, t, v, k1, k2, k3, k4⟩ := open_held hfs ha hc hd
    exact tally_pos'.mpr ⟨(t, v), mem_wn k1 k2 k3, k4⟩
  have h3 := cnt_union (List.range 120) (wnL ts fs g)
  have h4 := sum_bound (f := fun t => 120 / t + 1) (A := List.range 120) (W := wnL ts fs g) fun p hp => by
    have hp0 := (hts _ (wn_sub hp)).1
    have n0 : 0 ≤ (120 : Int) / p.1 := Int.ediv_nonneg (by decide) (by omega)
    have := cnt_bound (p := p) hp0 (n := 120) (m := ((120 : Int) / p.1).toNat + 1) fun d hd => by
      have h5 : (d : Int) / p.1 ≤ 120 / p.1 := Int.ediv_le_ediv hp0 (by omega)
      omega
    omega
  rw [wn_rest ts fs g (by rw [hg.1]; exact Nat.le_refl _)] at h4
  omega
theorem may_sound {l : List (Int × Int)} {ts g : List Int} (hl : IsLp l) (hts : ∀ t ∈ ts, 0 < t ∧ t ≤ 1000000000000) (hg : Firsts ts g) (hc : closedL (l ++ ts.zip g)) : mayB l ts = true := by
  unfold mayB
  refine decide_eq_true ?_
  have em : (l ++ ts.zip g).map (·.1) = l.map (·.1) ++ ts := by
    rw [List.map_append, List.map_fst_zip (by rw [hg.1]; exact Nat.le_refl _)]
  have hns : ∀ n ∈ l.map (·.1) ++ ts, 0 < n := fun n h => by
    rcases List.mem_append.mp h with h | h
    · obtain ⟨p, hp, rfl⟩ := List.mem_map.mp h; exact (hl p hp).1
    · exact (hts n h).1
  have hmem : ∀ p ∈ l ++ ts.zip g, p.1 ∈ l.map (·.1) ++ ts := fun p hp => by rw [← em]; exact List.mem_map.mpr ⟨p, hp, rfl⟩
  unfold topL
  rw [← em]
  rw [← em] at hns hmem
  generalize hW : l ++ ts.zip g = W at *
  have hP := prodL_pos hns
  generalize hPP : prodL (W.map (·.1)) = P at *
  have h2 : ((List.range P.toNat).filter fun d : Nat => decide (tally W (d : Int) ≠ 0)) = List.range P.toNat := List.filter_eq_self.mpr fun d _ => decide_eq_true (hc d)
  have h3 := cnt_union (List.range P.toNat) W
  rw [h2, List.length_range] at h3
  have h4 := sum_bound (f := fun t => P / t) (A := List.range P.toNat) (W := W) fun p hp => by
    have hp0 := hns _ (hmem p hp)
    obtain ⟨q, hq⟩ : p.1 ∣ P := by rw [← hPP]; exact prodL_dvd (hmem p hp)
    have e1 : P / p.1 = q := by rw [hq, Int.mul_ediv_cancel_left _ (by omega)]
    have hq0 : 0 < q := by
      rcases Int.lt_trichotomy q 0 with c | c | c
      · have := Int.mul_neg_of_pos_of_neg hp0 c; omega
      · subst c; simp at hq; omega
      · exact c
    have := cnt_bound (p := p) hp0 (n := P.toNat) (m := q.toNat) fun d hd => by
      have h5 : (d : Int) / p.1 < q := by
        refine Int.ediv_lt_of_lt_mul hp0 ?_
        rw [Int.mul_comm, ← hq]; omega
      omega
    rw [e1]; omega
  show (List.map (fun n => P / n) (W.map (·.1))).sum ≥ P
  omega
theorem clo_sound {L : List (Int × Int)} {ts : List Int} (hts : ∀ t ∈ ts, 0 < t ∧ t ≤ 1000000000000) : ∀ {n : Nat} {fs : List (Option Int)} {g : List Int}, CloN L ts n fs (some g) → FsOk ts fs → Firsts ts g ∧ closedL (L ++ ts.zip g) := by
  intro n
  induction n with
  | zero => intro fs g h; exact h.elim
  | succ n ih =>
    intro fs g h hfs
    rcases h with ⟨c, e⟩ | ⟨day, hd, ⟨_, e⟩ | ⟨_, ⟨e, _⟩ | ⟨k, t, g', hk, _, _, hr, e⟩⟩⟩
    · have e := Option.some.inj e
      subst e
      refine ⟨⟨by rw [List.length_map]; exact hfs.1, fun k hk => ?_⟩, fun d => ?_⟩
      · have hkf : k < fs.length := by rw [hfs.1]; exact hk
        have htk := (hts _ (List.getElem_mem hk)).1
        rw [getD_some (l := fs.map fun f => f.getD 0) (x := (fs[k]).getD 0) (by rw [List.getElem?_map, List.getElem?_eq_getElem hkf]; rfl)]
        cases hf : fs[k] with
        | none =>
          rw [getD_some (List.getElem?_eq_getElem hk)]
          exact ⟨Int.le_refl _, htk⟩
        | some v => exact hfs.2 k v (by rw [List.getElem?_eq_getElem hkf, hf])
      · obtain ⟨p, hp, h1⟩ := tally_pos'.mp (c d)
        rcases List.mem_append.mp hp with hp | hp
        · exact tally_pos'.mpr ⟨p, List.mem_append_left _ hp, h1⟩
        · obtain ⟨k, k1, k2⟩ := mem_wfL.mp hp
          exact tally_pos'.mpr ⟨p, List.mem_append_right _ (mem_zip_get.mpr ⟨k, k1, by rw [List.getElem?_map, k2]; rfl⟩), h1⟩
    · cases e
    · cases e
    · have e := Option.some.inj e
      subst e
      exact ih hr (hfs.set hts hk)
theorem LoopP.tried {R : List (Option Int) → Option (List Int) → Prop} {ts : List Int} {fs : List (Option Int)} {day : Int} : ∀ {n : Nat} {a : List Int}, LoopP R ts fs day n a → (∀ k, k < n → fs[k]? = some none → ts.getD k 1 ∈ a) ∧ ∀ t ∈ a, ∃ j, fs[j]? = some none ∧ ts.getD j 1 = t ∧ R (setP ts fs day j) none
  | _, _, .nil => ⟨fun k h => by omega, fun t h => nomatch h⟩
  | _, _, .skip (k := m) h c => by
    obtain ⟨h1, h2⟩ := h.tried
    refine ⟨fun k hk hf => ?_, h2⟩
    by_cases e : k = m
    · subst e
      exact Classical.byContradiction fun hn => c ⟨hf, hn⟩
    · exact h1 k (by omega) hf
  | _, _, .miss (k := m) h c r => by
    obtain ⟨h1, h2⟩ := h.tried
    refine ⟨fun k hk hf => ?_, fun t ht => ?_⟩
    · by_cases e : k = m
      · subst e; simp
      · exact List.mem_append_left _ (h1 k (by omega) hf)
    · rcases List.mem_append.mp ht with ht | ht
      · exact h2 t ht
      · rcases List.mem_singleton.mp ht with rfl
        exact ⟨m, c.1, rfl, r⟩
theorem swap_ok {L : List (Int × Int)} {ts g : List Int} {fs : List (Option Int)} {j k : Nat} {t : Int} (hg : Firsts ts g) (ha : Agree fs g) (hc : closedL (L ++ ts.zip g)) (hj : ts[j]? = some t) (hk : ts[k]? = some t) (fj : fs[j]? = some none) (fk : fs[k]? = some none) {vj vk : Int} (gj : g[j]? = some vj) (gk : g[k]? = some vk) :
    ∃ g', Firsts ts g' ∧ Agree fs g' ∧ closedL (L ++ ts.zip g') ∧ g'[j]? = some vk := by
  have hjl := (List.getElem?_eq_some_iff.mp gj).1
  have hkl := (List.getElem?_eq_some_iff.mp gk).1
  obtain ⟨vj', e1, b1, b2⟩ := hg.get hj
  obtain ⟨vk', e2, b3, b4⟩ := hg.get hk
  rw [gj] at e1; cases e1
  rw [gk] at e2; cases e2
  have get : ∀ i, ((g.set k vj).set j vk)[i]? = if i = j then some vk else if i = k then some vj else g[i]? := fun i => by
    by_cases e : i = j
    · subst e
      rw [if_pos rfl, List.getElem?_set_self (by rw [List.length_set]; exact hjl)]
    · rw [if_neg e, List.getElem?_set_ne (Ne.symm e)]
      by_cases e' : i = k
      · subst e'
        rw [if_pos rfl, List.getElem?_set_self hkl]
      · rw [if_neg e', List.getElem?_set_ne (Ne.symm e')]
  refine ⟨(g.set k vj).set j vk, ⟨by rw [List.length_set, List.length_set]; exact hg.1, fun i hi => ?_⟩, fun i v hi => ?_, fun d => ?_, by rw [get, if_pos rfl]⟩
  · by_cases e : i = j
    · subst e
      rw [getD_some (show _ = some vk by rw [get, if_pos rfl]), getD_some hj]; exact ⟨b3, b4⟩
    · by_cases e' : i = k
      · subst e'
        rw [getD_some (show _ = some vj by rw [get, if_neg e, if_pos rfl]), getD_some hk]; exact ⟨b1, b2⟩
      · have := hg.2 i hi
        have hig : i < g.length := by rw [hg.1]; exact hi
        rw [getD_some (List.getElem?_eq_getElem hig)] at this
        rw [getD_some (show _ = some g[i] by rw [get, if_neg e, if_neg e', List.getElem?_eq_getElem hig])]
        exact this
  · have e : i ≠ j := fun e => by subst e; rw [fj] at hi; cases hi
    have e' : i ≠ k := fun e => by subst e; rw [fk] at hi; cases hi
    rw [get, if_neg e, if_neg e']
    exact ha i v hi
  · obtain ⟨p, hp, h1⟩ := tally_pos'.mp (hc d)
    rcases List.mem_append.mp hp with hp | hp
    · exact tally_pos'.mpr ⟨p, List.mem_append_left _ hp, h1⟩
    · obtain ⟨i, i1, i2⟩ := mem_zip_get.mp hp
      refine tally_pos'.mpr ⟨p, List.mem_append_right _ (mem_zip_get.mpr ?_), h1⟩
      by_cases e : i = j
      · subst e
        rw [hj] at i1; rw [gj] at i2
        have p1 : t = p.1 := Option.some.inj i1
        have p2 : vj = p.2 := Option.some.inj i2
        by_cases e' : k = i
        · subst e'
          rw [gk] at gj; cases gj
          exact ⟨k, by rw [hk, p1], by rw [get, if_pos rfl, p2]⟩
        · exact ⟨k, by rw [hk, p1], by rw [get, if_neg e', if_pos rfl, p2]⟩
      · by_cases e' : i = k
        · subst e'
          rw [hk] at i1; rw [gk] at i2
          have p1 : t = p.1 := Option.some.inj i1
          have p2 : vk = p.2 := Option.some.inj i2
          exact ⟨j, by rw [hj, p1], by rw [get, if_pos rfl, p2]⟩
        · exact ⟨i, i1, by rw [get, if_neg e, if_neg e']; exact i2⟩
theorem clo_complete {L : List (Int × Int)} {ts : List Int} (hts : ∀ t ∈ ts, 0 < t ∧ t ≤ 1000000000000) : ∀ {n : Nat} {fs : List (Option Int)}, CloN L ts n fs none → FsOk ts fs → ∀ g, Firsts ts g → Agree fs g → ¬ closedL (L ++ ts.zip g) := by
  intro n
  induction n with
  | zero => intro fs h; exact h.elim
  | succ n ih =>
    intro fs h hfs g hg ha hc
    rcases h with ⟨c, e⟩ | ⟨day, hd, ⟨hh, _⟩ | ⟨_, ⟨_, t, lp⟩ | ⟨k, t, g', hk, _, _, hr, e⟩⟩⟩
    · cases e
    · exact hop_sound hts hfs hg ha hh hc
    · obtain ⟨k, tk, vk, k1, k2, k3, k4⟩ := open_held hfs ha hc (od_not hd)
      obtain ⟨l1, l2⟩ := lp.tried
      have hkl := (List.getElem?_eq_some_iff.mp k1).1
      have hm := l1 k hkl k2
      rw [getD_some k1] at hm
      obtain ⟨j, j1, j2, j3⟩ := l2 tk hm
      have hjl : j < ts.length := by rw [← hfs.1]; exact (List.getElem?_eq_some_iff.mp j1).1
      have hj : ts[j]? = some tk := by
        rw [List.getElem?_eq_getElem hjl]
        rw [getD_some (List.getElem?_eq_getElem hjl)] at j2
        rw [j2]
      obtain ⟨vj, gj, _, _⟩ := hg.get hj
      obtain ⟨g', h1, h2, h3, h4⟩ := swap_ok hg ha hc hj k1 j1 k2 gj k3
      refine ih j3 (hfs.set hts hjl) g' h1 (fun i v hi => ?_) h3
      unfold setP at hi
      by_cases e : j = i
      · subst e
        rw [List.getElem?_set_self (by rw [hfs.1]; exact hjl), getD_some hj] at hi
        have ev : (day : Int) % tk = v := Option.some.inj (Option.some.inj hi)
        obtain ⟨_, e5, b1, b2⟩ := hg.get k1
        rw [k3] at e5; cases e5
        have : (day : Int) % tk = vk := by
          have h6 : (day : Int) % tk = vk % tk := Int.emod_eq_emod_iff_emod_sub_eq_zero.mpr (Int.emod_eq_zero_of_dvd k4)
          rw [h6, Int.emod_eq_of_lt b1 b2]
        rw [h4, ← ev, this]
      · rw [List.getElem?_set_ne e] at hi
        exact h2 i v hi
    · cases e
end DL
namespace DL
def CloR (l : List (Int × Int)) (ts : List Int) (r : Option (List Int)) : Prop := (mayB l ts = false ∧ r = none) ∨ (mayB l ts = true ∧ CloN l ts 9 (ts.map fun _ => none) r)
theorem fs_none (ts : List Int) : FsOk ts (ts.map fun _ => none) := by
  refine ⟨by simp, fun k v h => ?_⟩
  rw [List.getElem?_map] at h
  obtain ⟨x, _, e⟩ := Option.map_eq_some_iff.mp h
  cases e
theorem agree_none (ts g : List Int) : Agree (ts.map fun _ => none) g := fun k v h => by
  rw [List.getElem?_map] at h
  obtain ⟨x, _, e⟩ := Option.map_eq_some_iff.mp h
  cases e
theorem CloR.some {l : List (Int × Int)} {ts g : List Int} (hts : ∀ t ∈ ts, 0 < t ∧ t ≤ 1000000000000) (h : CloR l ts (some g)) : Firsts ts g ∧ closedL (l ++ ts.zip g) := by
  rcases h with ⟨_, e⟩ | ⟨_, h⟩
  · cases e
  · exact clo_sound hts h (fs_none ts)
theorem CloR.none {l : List (Int × Int)} {ts : List Int} (hl : IsLp l) (hts : ∀ t ∈ ts, 0 < t ∧ t ≤ 1000000000000) (h : CloR l ts none) (g : List Int) (hg : Firsts ts g) : ¬ closedL (l ++ ts.zip g) := by
  rcases h with ⟨a, _⟩ | ⟨_, h⟩
  · intro hc
    rw [may_sound hl hts hg hc] at a; cases a
  · exact clo_complete hts h (fs_none ts) g hg (agree_none ts g)
end DL
open PySem PySem.Spec PyProof.Rows L2 DL
namespace DL
end DL
namespace DL
end DL
namespace DL
end DL
namespace DL
end DL
namespace DL
end DL
namespace DL
end DL
namespace DL
end DL
namespace DL
theorem lot_ws {l : List (Int × Int)} (hl : IsLot l) (hn : l.length ≤ 10) : (LotD l).ws = true ∧ (LotD l).blk ≤ 30 := by
  unfold LotD
  refine ⟨?_, ?_⟩
  · rw [D.ws, wss_all, List.all_map, List.all_eq_true]
    intro p hp
    obtain ⟨h1, h2, h3, h4⟩ := hl p hp
    have b1 : p.1.natAbs < 10 ^ 130 := Nat.lt_of_le_of_lt (show p.1.natAbs ≤ 10 ^ 12 by omega) (Nat.pow_lt_pow_right (by decide) (by decide))
    have b2 : p.2.natAbs < 10 ^ 130 := Nat.lt_of_le_of_lt (show p.2.natAbs ≤ 10 ^ 12 by omega) (Nat.pow_lt_pow_right (by decide) (by decide))
    show (W2 p).ws = true
    unfold W2
    rw [D.ws, wss, wss, wss, ws_int b1, ws_int b2]; rfl
  · rw [blk_tup]
    have := blks_le (c := 2) (xs := l.map W2) fun x hx => by
      obtain ⟨p, hp, rfl⟩ := List.mem_map.mp hx
      unfold W2
      rw [blk_tup, blks_cons, blks_cons, blks_nil, blk_int, blk_int]; exact Nat.le_refl _
    rw [List.length_map] at this; omega
end DL
open PySem PySem.Spec PyProof.Rows L2 DL
namespace DL
end DL
namespace DL
end DL
namespace DL
end DL
namespace DL
end DL
open PySem PySem.Spec PyProof.Rows L2 DL
namespace DL
end DL
namespace DL
end DL
namespace DL
end DL
open PySem PySem.Spec PyProof.Rows L2 DL
namespace DL
end DL
open PySem PySem.Spec PyProof.Rows L2 DL
namespace DL
end DL
namespace DL
def apartB (l : List (Int × Int)) (p : Int × Int) : Bool := l.all fun q => decide ((p.2 - q.2) % (Int.gcd p.1 q.1 : Int) ≠ 0)
end DL
namespace DL
def oneB (ts : List Int) : Bool := decide (topL ts = prodL ts)
end DL
namespace DL
end DL
namespace DL
def apC (l : List (Int × Int)) (i j : Nat) : Prop := ((l.getD i (1, 0)).2 - (l.getD j (1, 0)).2) % (Int.gcd (l.getD i (1, 0)).1 (l.getD j (1, 0)).1 : Int) ≠ 0
def ApartL (l : List (Int × Int)) : Prop := ∀ i, i < l.length → ∀ j, j < i → apC l i j
end DL
namespace DL
end DL
namespace DL
theorem dis_le1 : ∀ {l : List (Int × Int)}, l.Pairwise Dis → ∀ d, tally l d ≤ 1
  | [], _, d => by show 0 ≤ 1; omega
  | p :: l, h, d => by
    obtain ⟨h1, h2⟩ := List.pairwise_cons.mp h
    have ih := dis_le1 h2 d
    have e := tally_cons p l d
    by_cases c : p.1 ∣ d - p.2
    · have : tally l d = 0 := Classical.byContradiction fun hn => by
        obtain ⟨q, hq, hd⟩ := tally_pos'.mp hn
        exact h1 q hq d ⟨c, hd⟩
      rw [if_pos c] at e; omega
    · rw [if_neg c] at e; omega
theorem split_tally {p : Int × Int} {n : Nat} (hp : 0 < p.1) (hn : 0 < n) (d : Int) : tally (splitW p n) d = tally [p] d := by
  have h1 := dis_le1 (cut_dis (n := n) hp) d
  have e := tally_cons p [] d
  have e0 : tally [] d = 0 := rfl
  rw [e0] at e
  have h1 : tally (splitW p n) d ≤ 1 := h1
  by_cases c : p.1 ∣ d - p.2
  · rw [if_pos c] at e
    obtain ⟨q, hq, hd⟩ := cut_has hn c
    have : tally (splitW p n) d ≠ 0 := tally_pos'.mpr ⟨q, hq, hd⟩
    omega
  · rw [if_neg c] at e
    have : tally (splitW p n) d = 0 := Classical.byContradiction fun hn => by
      obtain ⟨q, hq, hd⟩ := tally_pos'.mp hn
      exact c (cut_sub (n := n) hq hd)
    omega
theorem tally_perm {l m : List (Int × Int)} (h : l.Perm m) (d : Int) : tally l d = tally m d := (h.filter _).length_eq
theorem gr_exact {l : List (Int × Int)} (h : Gr l) : (∀ p ∈ l, 0 < p.1) ∧ Exact l := by
  induction h with
  | one => exact ⟨fun p hp => by rcases List.mem_singleton.mp hp with rfl; show (0 : Int) < 1; decide, fun d => by
      have e := tally_cons (1, 0) [] d
      rw [if_pos ⟨d - 0, by omega⟩] at e
      have e0 : tally [] d = 0 := rfl
      rw [e0] at e; omega⟩
  | @step a b p n _ h2 _ ih =>
    obtain ⟨i1, i2⟩ := ih
    have hp := i1 p (by simp)
    refine ⟨fun q hq => ?_, fun d => ?_⟩
    · rcases List.mem_append.mp hq with hq | hq
      · rcases List.mem_append.mp hq with hq | hq
        · exact i1 q (by simp [hq])
        · obtain ⟨k, _, rfl⟩ := cut_mem.mp hq
          exact Int.mul_pos hp (by omega)
      · exact i1 q (by simp [hq])
    · have := i2 d
      rw [show a ++ p :: b = a ++ [p] ++ b by simp, tally_append, tally_append] at this
      rw [tally_append, tally_append, split_tally hp (by omega)]
      exact this
  | perm _ p ih => exact ⟨fun q hq => ih.1 q (p.mem_iff.mpr hq), fun d => by rw [← tally_perm p]; exact ih.2 d⟩
theorem apC_iff {l : List (Int × Int)} {i j : Nat} : apC l i j ↔ meetB (l.getD i (1, 0)) (l.getD j (1, 0)) = false := by
  unfold apC meetB
  rw [decide_eq_false_iff_not]
theorem apart_iff {l : List (Int × Int)} : ApartL l ↔ ∀ i j : Nat, i < j → j < l.length → meetB (l.getD i (1, 0)) (l.getD j (1, 0)) = false :=
  ⟨fun h i j hij hj => by rw [meetB_comm]; exact apC_iff.mp (h j hj i hij), fun h i hi j hij => apC_iff.mpr (by rw [meetB_comm]; exact h j i hij hi)⟩
theorem apartB_iff {l : List (Int × Int)} {p : Int × Int} : apartB l p = true ↔ ∀ q ∈ l, meetB p q = false := by
  unfold apartB
  rw [List.all_eq_true]
  refine forall_congr' fun q => forall_congr' fun _ => ?_
  unfold meetB
  rw [decide_eq_true_eq, decide_eq_false_iff_not]
theorem topL_scale (c : Int) : ∀ {ns : List Int} {L : Int}, (∀ n ∈ ns, 0 < n ∧ n ∣ L) → (ns.map fun n => L * c / n).sum = (ns.map fun n => L / n).sum * c
  | [], _, _ => by simp
  | n :: r, L, h => by
    obtain ⟨h1, k, hk⟩ := h n (by simp)
    have ih := topL_scale c (ns := r) (L := L) fun m hm => h m (by simp [hm])
    simp only [List.map_cons, List.sum_cons]
    rw [ih, Int.add_mul, hk, Int.mul_assoc, Int.mul_ediv_cancel_left _ (by omega), Int.mul_ediv_cancel_left _ (by omega)]
theorem exact_one {l : List (Int × Int)} (hl : IsLp l) : Exact l ↔ oneB (l.map (·.1)) = true ∧ ApartL l := by
  rw [exact_iff hl, apart_iff]
  have hL0 := lcmL_pos hl.pos
  have hns : ∀ n ∈ l.map (·.1), 0 < n ∧ n ∣ lcmL l := fun n hn => by
    obtain ⟨p, hp, rfl⟩ := List.mem_map.mp hn
    exact ⟨(hl p hp).1, dvd_lcmL hl.pos p hp⟩
  have hd : lcmL l ∣ prodL (l.map (·.1)) := lcmL_dvd hl.pos fun p hp => prodL_dvd (List.mem_map.mpr ⟨p, hp, rfl⟩)
  obtain ⟨c, hc⟩ := hd
  have hP := prodL_pos (ns := l.map (·.1)) fun n hn => (hns n hn).1
  have hc0 : c ≠ 0 := fun e => by rw [e, Int.mul_zero] at hc; omega
  have e : topL (l.map (·.1)) = shareN l * c := by
    unfold topL
    rw [hc, topL_scale c hns]
    unfold shareN
    rw [List.map_map]; rfl
  unfold oneB
  rw [decide_eq_true_eq, e, hc]
  constructor
  · rintro ⟨a, b⟩; exact ⟨by rw [a], b⟩
  · rintro ⟨a, b⟩; exact ⟨Int.eq_of_mul_eq_mul_right hc0 a, b⟩
theorem zip_lp {ts g : List Int} (hts : ∀ t ∈ ts, 0 < t ∧ t ≤ 1000000000000) : IsLp (ts.zip g) := fun _ hp => hts _ (List.of_mem_zip hp).1
def Right1 (ts g : List Int) : Prop := Firsts ts g ∧ oneB ts = true ∧ ApartL (ts.zip g)
theorem right_iff {ts g : List Int} (hts : ∀ t ∈ ts, 0 < t ∧ t ≤ 1000000000000) : Right1 ts g ↔ Firsts ts g ∧ Exact (ts.zip g) := by
  unfold Right1
  constructor
  · rintro ⟨a, b, c⟩
    refine ⟨a, (exact_one (zip_lp hts)).mpr ⟨?_, c⟩⟩
    rw [List.map_fst_zip (by rw [a.1]; exact Nat.le_refl _)]; exact b
  · rintro ⟨a, h⟩
    obtain ⟨b, c⟩ := (exact_one (zip_lp hts)).mp h
    rw [List.map_fst_zip (by rw [a.1]; exact Nat.le_refl _)] at b
    exact ⟨a, b, c⟩
def condE (ts : List Int) (fs : List (Option Int)) (day : Int) (k : Nat) : Prop := fs[k]? = some none ∧ apartB (wfL ts fs) (ts.getD k 1, day % ts.getD k 1) = true
def ExN (ts : List Int) : Nat → List (Option Int) → Option (List (Option Int)) → Prop
  | 0 => fun _ _ => False
  | n + 1 => fun fs r =>
    (closedL (wfL ts fs) ∧ r = some fs) ∨
    ∃ day : Nat, IsOD (wfL ts fs) 1 (.int day) ∧
      ((r = none ∧ ∀ k, k < ts.length → condE ts fs day k → ExN ts n (setP ts fs day k) none) ∨
       ∃ (k : Nat) (g : List (Option Int)), k < ts.length ∧ (∀ j, j < k → condE ts fs day j → ExN ts n (setP ts fs day j) none) ∧ condE ts fs day k ∧ ExN ts n (setP ts fs day k) (some g) ∧ r = some g)
def ApF (ts : List Int) (fs : List (Option Int)) : Prop := ∀ (i j : Nat) (t u v w : Int), i ≠ j → ts[i]? = some t → ts[j]? = some u → fs[i]? = some (some v) → fs[j]? = some (some w) → meetB (t, v) (u, w) = false
theorem ApF.set {ts : List Int} {fs : List (Option Int)} {day : Int} {k : Nat} (h : ApF ts fs) (hk : k < ts.length) (hl : fs.length = ts.length) (c : condE ts fs day k) : ApF ts (setP ts fs day k) := by
  have ht : ts[k]? = some (ts.getD k 1) := by rw [List.getD_eq_getElem?_getD, List.getElem?_eq_getElem hk]; rfl
  have hself : (setP ts fs day k)[k]? = some (some (day % ts.getD k 1)) := by
    unfold setP; rw [List.getElem?_set_self (by omega)]
  have hc := apartB_iff.mp c.2
  intro i j t u v w hij hi hj fi fj
  by_cases e : i = k
  · subst e
    rw [hself] at fi
    have ev : day % ts.getD i 1 = v := Option.some.inj (Option.some.inj fi)
    have et : ts.getD i 1 = t := Option.some.inj (ht.symm.trans hi)
    unfold setP at fj
    rw [List.getElem?_set_ne hij] at fj
    have := hc (u, w) (mem_wfL.mpr ⟨j, hj, fj⟩)
    rwa [ev, et] at this
  · by_cases e2 : j = k
    · subst e2
      rw [hself] at fj
      have ev : day % ts.getD j 1 = w := Option.some.inj (Option.some.inj fj)
      have et : ts.getD j 1 = u := Option.some.inj (ht.symm.trans hj)
      unfold setP at fi
      rw [List.getElem?_set_ne (Ne.symm e)] at fi
      have := hc (t, v) (mem_wfL.mpr ⟨i, hi, fi⟩)
      rw [ev, et] at this
      rw [meetB_comm]; exact this
    · unfold setP at fi fj
      rw [List.getElem?_set_ne (Ne.symm e)] at fi
      rw [List.getElem?_set_ne (Ne.symm e2)] at fj
      exact h i j t u v w hij hi hj fi fj
theorem ex_sound {ts : List Int} (hts : ∀ t ∈ ts, 0 < t ∧ t ≤ 1000000000000) : ∀ {n : Nat} {fs g : List (Option Int)}, ExN ts n fs (some g) → FsOk ts fs → ApF ts fs → FsOk ts g ∧ ApF ts g ∧ closedL (wfL ts g) := by
  intro n
  induction n with
  | zero => intro fs g h; exact h.elim
  | succ n ih =>
    intro fs g h hfs hap
    rcases h with ⟨c, e⟩ | ⟨day, hd, ⟨e, _⟩ | ⟨k, g', hk, _, hc, hr, e⟩⟩
    · cases e; exact ⟨hfs, hap, c⟩
    · cases e
    · cases e
      exact ih hr (hfs.set hts hk) (hap.set hk hfs.1 hc)
theorem ex_complete {ts : List Int} (hts : ∀ t ∈ ts, 0 < t ∧ t ≤ 1000000000000) : ∀ {n : Nat} {fs : List (Option Int)}, ExN ts n fs none → FsOk ts fs → ∀ g, Right1 ts g → ¬ Agree fs g := by
  intro n
  induction n with
  | zero => intro fs h; exact h.elim
  | succ n ih =>
    intro fs h hfs g hg ha
    have hx := (right_iff hts).mp hg
    rcases h with ⟨c, e⟩ | ⟨day, hd, ⟨_, lp⟩ | ⟨k, g', hk, _, hc, hr, e⟩⟩
    · cases e
    · obtain ⟨k, t, v, k1, k2, k3, k4⟩ := open_held (L := []) (g := g) hfs ha (fun d => by rw [List.nil_append, hx.2 d]; decide) (od_not hd)
      have hkl := (List.getElem?_eq_some_iff.mp k1).1
      obtain ⟨_, e5, b1, b2⟩ := hg.1.get k1
      rw [k3] at e5; cases e5
      have hv : (day : Int) % t = v := by
        have h6 : (day : Int) % t = v % t := Int.emod_eq_emod_iff_emod_sub_eq_zero.mpr (Int.emod_eq_zero_of_dvd k4)
        rw [h6, Int.emod_eq_of_lt b1 b2]
      have hcond : condE ts fs day k := by
        refine ⟨k2, apartB_iff.mpr fun q hq => ?_⟩
        rw [getD_some k1, hv]
        obtain ⟨j, j1, j2⟩ := mem_wfL.mp hq
        have j3 := ha j q.2 j2
        have hkj : k ≠ j := fun e => by subst e; rw [k2] at j2; cases j2
        have hz1 : (ts.zip g).getD k (1, 0) = (t, v) := getD_some (List.getElem?_zip_eq_some.mpr ⟨k1, k3⟩)
        have hz2 : (ts.zip g).getD j (1, 0) = q := getD_some (List.getElem?_zip_eq_some.mpr ⟨j1, j3⟩)
        have hlz : (ts.zip g).length = ts.length := by rw [List.length_zip, hg.1.1]; omega
        have hjl := (List.getElem?_eq_some_iff.mp j1).1
        have := apart_iff.mp hg.2.2
        rcases Nat.lt_or_gt_of_ne hkj with h | h
        · have := this k j h (by omega)
          rwa [hz1, hz2] at this
        · have := this j k h (by omega)
          rw [hz1, hz2] at this
          rw [meetB_comm]; exact this
      refine ih (lp k hkl hcond) (hfs.set hts hkl) g hg fun i w hi => ?_
      unfold setP at hi
      by_cases e : k = i
      · subst e
        rw [List.getElem?_set_self (by rw [hfs.1]; exact hkl), getD_some k1] at hi
        have : (day : Int) % t = w := Option.some.inj (Option.some.inj hi)
        rw [k3, ← this, hv]
      · rw [List.getElem?_set_ne e] at hi
        exact ha i w hi
    · cases e
theorem cnt_div {p : Int × Int} {P : Int} (hp0 : 0 < p.1) (hP : 0 < P) (hd : p.1 ∣ P) : (cntW (List.range P.toNat) p : Int) ≤ P / p.1 := by
  obtain ⟨q, hq⟩ := hd
  have e1 : P / p.1 = q := by rw [hq, Int.mul_ediv_cancel_left _ (by omega)]
  have hq0 : 0 < q := by
    rcases Int.lt_trichotomy q 0 with c | c | c
    · have := Int.mul_neg_of_pos_of_neg hp0 c; omega
    · subst c; simp at hq; omega
    · exact c
  have := cnt_bound (p := p) hp0 (n := P.toNat) (m := q.toNat) fun d hd => by
    have h5 : (d : Int) / p.1 < q := by
      refine Int.ediv_lt_of_lt_mul hp0 ?_
      rw [Int.mul_comm, ← hq]; omega
    omega
  rw [e1]; omega
theorem wf_rest (f : Int → Int) : ∀ (ts : List Int) (fs : List (Option Int)), fs.length = ts.length → (((wfL ts fs).map (·.1)).map f).sum + ((restL ts fs).map f).sum = (ts.map f).sum
  | [], _, _ => by simp [wfL, restL]
  | t :: ts, [], h => by simp at h
  | t :: ts, o :: fs, h => by
    have ih := wf_rest f ts fs (by simpa using h)
    unfold wfL restL at ih ⊢
    cases o with
    | none => simp at ih ⊢; omega
    | some v => simp at ih ⊢; omega
theorem all_set {ts : List Int} {fs : List (Option Int)} (hts : ∀ t ∈ ts, 0 < t ∧ t ≤ 1000000000000) (h1 : oneB ts = true) (hl : fs.length = ts.length) (hc : closedL (wfL ts fs)) : restL ts fs = [] := by
  have h1 := of_decide_eq_true h1
  have hP := prodL_pos (ns := ts) fun n hn => (hts n hn).1
  unfold topL at h1
  have hw := wf_rest (fun n => prodL ts / n) ts fs hl
  rw [h1] at hw
  have hmem : ∀ p ∈ wfL ts fs, p.1 ∈ ts := fun p hp => by
    obtain ⟨k, hk, _⟩ := mem_wfL.mp hp
    exact List.mem_of_getElem? hk
  generalize hPP : prodL ts = P at *
  have h2 : ((List.range P.toNat).filter fun d : Nat => decide (tally (wfL ts fs) (d : Int) ≠ 0)) = List.range P.toNat := List.filter_eq_self.mpr fun d _ => decide_eq_true (hc d)
  have h3 := cnt_union (List.range P.toNat) (wfL ts fs)
  rw [h2, List.length_range] at h3
  have h4 := sum_bound (f := fun t => P / t) (A := List.range P.toNat) (W := wfL ts fs) fun p hp => cnt_div (hts _ (hmem p hp)).1 hP (by rw [← hPP]; exact prodL_dvd (hmem p hp))
  have hge : ∀ rs : List Int, (∀ t ∈ rs, t ∈ ts) → 0 ≤ (rs.map fun t => P / t).sum ∧ (rs ≠ [] → 0 < (rs.map fun t => P / t).sum) := by
    intro rs
    induction rs with
    | nil => intro _; exact ⟨by simp, fun h => absurd rfl h⟩
    | cons t rs ih =>
      intro h
      have i1 := (ih fun u hu => h u (by simp [hu])).1
      have htt := h t (by simp)
      have ht0 := (hts t htt).1
      obtain ⟨q, hq⟩ : t ∣ P := by rw [← hPP]; exact prodL_dvd htt
      have e1 : P / t = q := by rw [hq, Int.mul_ediv_cancel_left _ (by omega)]
      have hq0 : 0 < q := by
        rcases Int.lt_trichotomy q 0 with c | c | c
        · have := Int.mul_neg_of_pos_of_neg ht0 c; omega
        · subst c; simp at hq; omega
        · exact c
      rw [List.map_cons, List.sum_cons, e1]
      exact ⟨by omega, fun _ => by omega⟩
  have h5 := hge (restL ts fs) fun t ht => restL_mem ht
  refine Classical.byContradiction fun hne => ?_
  have := h5.2 hne
  omega
theorem rest_nil : ∀ {ts : List Int} {fs : List (Option Int)}, fs.length = ts.length → restL ts fs = [] → ∃ g : List Int, fs = g.map some ∧ wfL ts fs = ts.zip g
  | [], [], _, _ => ⟨[], rfl, rfl⟩
  | [], _ :: _, h, _ => by simp at h
  | t :: ts, [], h, _ => by simp at h
  | t :: ts, o :: fs, h, hr => by
    cases o with
    | none => unfold restL at hr; simp at hr
    | some v =>
      obtain ⟨g, e1, e2⟩ := rest_nil (ts := ts) (fs := fs) (by simpa using h) (by unfold restL at hr ⊢; simpa using hr)
      refine ⟨v :: g, by rw [e1]; rfl, ?_⟩
      rw [List.zip_cons_cons, ← e2]
      unfold wfL
      rw [List.zip_cons_cons, List.filterMap_cons]; rfl
def ExR (ts : List Int) (r : Option (List Int)) : Prop := (oneB ts = false ∧ r = none) ∨ (oneB ts = true ∧ ExN ts 9 (ts.map fun _ => none) (r.map fun g => g.map some))
theorem apF_none (ts : List Int) : ApF ts (ts.map fun _ => none) := fun i j t u v w _ _ _ h => by
  rw [List.getElem?_map] at h
  obtain ⟨x, _, e⟩ := Option.map_eq_some_iff.mp h
  cases e
theorem ex_told {ts : List Int} (hts : ∀ t ∈ ts, 0 < t ∧ t ≤ 1000000000000) (h1 : oneB ts = true) {fs : List (Option Int)} (h : ExN ts 9 (ts.map fun _ => none) (some fs)) : ∃ g, fs = g.map some ∧ Right1 ts g := by
  obtain ⟨a, b, c⟩ := ex_sound hts h (fs_none ts) (apF_none ts)
  obtain ⟨g, e1, e2⟩ := rest_nil a.1 (all_set hts h1 a.1 c)
  subst e1
  have hgl : g.length = ts.length := by have := a.1; rwa [List.length_map] at this
  refine ⟨g, rfl, ⟨hgl, fun k hk => ?_⟩, h1, apart_iff.mpr fun i j hij hj => ?_⟩
  · have hkg : k < g.length := by omega
    rw [getD_some (List.getElem?_eq_getElem hkg)]
    exact a.2 k _ (by rw [List.getElem?_map, List.getElem?_eq_getElem hkg]; rfl)
  · rw [List.length_zip] at hj
    have i1 : i < ts.length := by omega
    have i2 : i < g.length := by omega
    have j1 : j < ts.length := by omega
    have j2 : j < g.length := by omega
    rw [getD_some (List.getElem?_zip_eq_some.mpr ⟨List.getElem?_eq_getElem i1, List.getElem?_eq_getElem i2⟩ : (ts.zip g)[i]? = some (ts[i], g[i])), getD_some (List.getElem?_zip_eq_some.mpr ⟨List.getElem?_eq_getElem j1, List.getElem?_eq_getElem j2⟩ : (ts.zip g)[j]? = some (ts[j], g[j]))]
    exact b i j _ _ _ _ (by omega) (List.getElem?_eq_getElem i1) (List.getElem?_eq_getElem j1) (by rw [List.getElem?_map, List.getElem?_eq_getElem i2]; rfl) (by rw [List.getElem?_map, List.getElem?_eq_getElem j2]; rfl)
theorem ExR.some {ts g : List Int} (hts : ∀ t ∈ ts, 0 < t ∧ t ≤ 1000000000000) (h : ExR ts (some g)) : Right1 ts g := by
  rcases h with ⟨_, e⟩ | ⟨h1, h⟩
  · cases e
  · obtain ⟨g', e, h2⟩ := ex_told hts h1 h
    rw [List.map_inj_right (fun _ _ h => Option.some.inj h)] at e
    rw [e]; exact h2
theorem ExR.none {ts : List Int} (hts : ∀ t ∈ ts, 0 < t ∧ t ≤ 1000000000000) (h : ExR ts none) (g : List Int) : ¬ Right1 ts g := fun hg => by
  rcases h with ⟨a, _⟩ | ⟨_, h⟩
  · rw [hg.2.1] at a; cases a
  · exact ex_complete hts h (fs_none ts) g hg (agree_none ts g)
end DL
namespace DL
end DL
namespace DL
end DL
namespace DL
end DL
open PySem PySem.Spec PyProof.Rows L2 DL
local macro_rules | `(tactic| walk_at "d") => `(tactic| simp only [↓getS_z, ↓getS_s, ↓asBl_e, ↓asInt_e, ↓asLst_e, ↓asSeq_l, ↓asSeq_t, ↓ifK_t, ↓ifK_f, ↓ev_C, ↓ev_Var, ↓ev_frv, ↓ev_fro, ↓ev_topv, ↓ev_topo, ↓ev_frl, ↓ev_frd, ↓ev_odv, ↓ev_odn, ↓ev_fiv, ↓ev_fin, ↓ev_Op, ↓ev_Un, ↓ev_UL, ↓ev_Bb, ↓ev_Tst, ↓ev_AndT, ↓ev_OrT, ↓ev_NotT, ↓ev_And, ↓ev_Or, ↓ev_Not, ↓ev_IfE, ↓ev_A0, ↓ev_Ac, ↓ev_Tup, ↓ev_Lst, ↓ev_Frz, ↓ev_Call, ↓ev_NoP, ↓ev_Part, ↓ev_Sl, ↓ev_SeqI, ↓ev_EnumI, ↓ev_Rng1, ↓ev_Rng2, ↓ev_nm, ↓ev_tp, ↓ev_tp0, ↓ev_tpc, ↓ev_Next, ↓ev_Seq, ↓ev_Break, ↓ev_Cont, ↓ev_Drop, ↓ev_Ret, ↓ev_RetN, ↓ev_If, ↓ev_Set, ↓ev_SetL, ↓ev_SetP, ↓ev_rhv, ↓ev_rho, ↓ev_Par, ↓ev_For, ↓ev_Comp, ↓ev_Yes, ↓ev_ownz, ↓ev_owns, ↓ev_Append, ↓ev_Extend, ↓ev_Pop, ↓ev_PopAt, ↓ev_SetIx, ↓ev_wi0, ↓ev_wic, ↓ev_re0, ↓ev_rec, ↓ev_kvn, ↓ev_kvv, ↓ev_kvo, ↓ev_kvs, ↓ev_endrt, ↓ev_endnx, ↓ev_addi, ↓ev_addt, ↓ev_addl, ↓ev_adds, ↓ev_sub, ↓ev_muli, ↓ev_mull, ↓ev_mult, ↓ev_mod, ↓ev_div, ↓ev_pow, ↓ev_shl, ↓ev_cmp, ↓ev_lt, ↓ev_le, ↓ev_gt, ↓ev_ge, ↓ev_eqi, ↓ev_nei, ↓ev_eqs, ↓ev_nes, ↓ev_eqtt, ↓ev_eqll, ↓ev_nett, ↓ev_nell, ↓ev_isN, ↓ev_notN, ↓ev_neg, ↓ev_ixt, ↓ev_ixl, ↓ev_ix0, ↓ev_ix1, ↓ev_ix2, ↓ev_slt, ↓ev_sll, ↓ev_lent, ↓ev_lenl, ↓ev_tupt, ↓ev_tupl, ↓ev_inti, ↓ev_intb, ↓ev_abs, ↓ev_listt, ↓ev_listl, ↓ev_repr, ↓ev_Rev, ↓ev_isA, ↓ev_ndt, ↓ev_ndl, ↓ev_ndi, ↓ev_ndb, ↓ev_nds, ↓ev_ndn, ↓ev_iatt, ↓ev_iail, ↓ev_iaii, ↓ev_iabi, ↓ev_iaib, ↓ev_iabb, ↓ev_iass, ↓ev_iain, ↓ev_iain0, ↓ev_iatn0, ↓ev_Chain, ↓ev_Rng3, ↓asZip_l, ↓asZip_t, ↓ev_Zip, ↓ev_Rg1, ↓ev_Rg2, ↓ev_LstRg, ↓ev_TupRg, ↓ev_min2, ↓ev_max2, ↓ev_nnn, ↓ev_nni, ↓ev_nnt, ↓ev_nnl, ↓ev_nns, ↓ev_nnb, ↓ev_OpL, ↓ev_cat, ↓ev_rep, ↓ev_elrt, ↓ev_draw, ↓ev_ownDz, ↓ev_ownDs, ↓ev_DPut, ↓ev_newD, ↓ev_disp1, ↓ev_ParL, ↓ev_R0, ↓ev_Rc, ↓ev_sls0, ↓ev_slsc, ↓ev_inl, ↓ev_int, ↓ev_ind, ↓ev_ninl, ↓ev_nint, ↓ev_nind, ↓ev_getD, ↓ev_listD, ↓ev_dictC, ↓ev_keyi, ↓ev_keys, ↓ev_IfT, ↓ev_Index, ↓asTup_e, ↓ev_RevT, ↓ev_Remove, ↓ev_isB, ↓ev_notB, ↓ev_Count, ↓ev_nox, ↓ev_CallX, ↓ev_Raise, ↓ev_Try1, ↓ev_Err, ↓ev_IfC, ↓ev_wrt, ↓ev_wnx, ↓ev_ExtendT, ↓ev_ZipLT, ↓ev_ZipTL, ↓ev_SortSet, ↓ev_ZipTX, ↓ev_OrV, ↓ev_mulE, ↓ev_mulEl, ↓ev_mulEi, ↓ev_reprE, ↓ev_boolI, ↓ev_strI, ↓ev_ia_tuple_bl, ↓ev_ia_tuple_int, ↓ev_ia_tuple_str, ↓ev_ia_tuple_lst, ↓ev_ia_tuple_dct, ↓ev_ia_int_str, ↓ev_ia_int_lst, ↓ev_ia_int_dct, ↓ev_ia_str_non, ↓ev_ia_str_bl, ↓ev_ia_str_int, ↓ev_ia_str_tup, ↓ev_ia_str_lst, ↓ev_ia_str_dct, ↓ev_ia_bool_non, ↓ev_ia_bool_str, ↓ev_ia_bool_tup, ↓ev_ia_bool_lst, ↓ev_ia_bool_dct, ↓ev_ia_list_non, ↓ev_ia_list_bl, ↓ev_ia_list_int, ↓ev_ia_list_str, ↓ev_ia_list_tup, ↓ev_ia_list_dct, ↓ev_ia_dict_non, ↓ev_ia_dict_bl, ↓ev_ia_dict_int, ↓ev_ia_dict_str, ↓ev_ia_dict_tup, ↓ev_ia_dict_lst, ↓ev_ia_dict_dct, ↓List.set_cons_zero, ↓List.set_cons_succ, ↓exists_eq_left', List.length_cons, List.length_nil, Nat.reduceAdd, Nat.reduceLeDiff, true_and, and_true, decide_true, decide_false, Bool.not_true, Bool.not_false, List.nil_append])
local macro_rules | `(tactic| walk_at "e") => `(tactic| simp only [↓getS_z, ↓getS_s, ↓asBl_e, ↓asInt_e, ↓asLst_e, ↓asSeq_l, ↓asSeq_t, ↓ifK_t, ↓ifK_f, ↓ev_C, ↓ev_Var, ↓ev_frv, ↓ev_fro, ↓ev_topv, ↓ev_topo, ↓ev_frl, ↓ev_frd, ↓ev_odv, ↓ev_odn, ↓ev_fiv, ↓ev_fin, ↓ev_Op, ↓ev_Un, ↓ev_UL, ↓ev_Bb, ↓ev_Tst, ↓ev_AndT, ↓ev_OrT, ↓ev_NotT, ↓ev_And, ↓ev_Or, ↓ev_Not, ↓ev_IfE, ↓ev_A0, ↓ev_Ac, ↓ev_Tup, ↓ev_Lst, ↓ev_Frz, ↓ev_NoP, ↓ev_Part, ↓ev_Sl, ↓ev_SeqI, ↓ev_EnumI, ↓ev_Rng1, ↓ev_Rng2, ↓ev_nm, ↓ev_tp, ↓ev_tp0, ↓ev_tpc, ↓ev_Next, ↓ev_Seq, ↓ev_Break, ↓ev_Cont, ↓ev_Drop, ↓ev_Ret, ↓ev_RetN, ↓ev_If, ↓ev_Set, ↓ev_SetL, ↓ev_SetP, ↓ev_rhv, ↓ev_rho, ↓ev_Par, ↓ev_For, ↓ev_Yes, ↓ev_ownz, ↓ev_owns, ↓ev_Append, ↓ev_Extend, ↓ev_Pop, ↓ev_PopAt, ↓ev_SetIx, ↓ev_wi0, ↓ev_wic, ↓ev_re0, ↓ev_rec, ↓ev_kvn, ↓ev_kvv, ↓ev_kvo, ↓ev_kvs, ↓ev_endrt, ↓ev_endnx, ↓ev_addi, ↓ev_addt, ↓ev_addl, ↓ev_adds, ↓ev_sub, ↓ev_muli, ↓ev_mull, ↓ev_mult, ↓ev_mod, ↓ev_div, ↓ev_pow, ↓ev_shl, ↓ev_cmp, ↓ev_lt, ↓ev_le, ↓ev_gt, ↓ev_ge, ↓ev_eqi, ↓ev_nei, ↓ev_eqs, ↓ev_nes, ↓ev_eqtt, ↓ev_eqll, ↓ev_nett, ↓ev_nell, ↓ev_isN, ↓ev_notN, ↓ev_neg, ↓ev_ixt, ↓ev_ixl, ↓ev_ix0, ↓ev_ix1, ↓ev_ix2, ↓ev_slt, ↓ev_sll, ↓ev_lent, ↓ev_lenl, ↓ev_tupt, ↓ev_tupl, ↓ev_inti, ↓ev_intb, ↓ev_abs, ↓ev_listt, ↓ev_listl, ↓ev_repr, ↓ev_Rev, ↓ev_isA, ↓ev_ndt, ↓ev_ndl, ↓ev_ndi, ↓ev_ndb, ↓ev_nds, ↓ev_ndn, ↓ev_iatt, ↓ev_iail, ↓ev_iaii, ↓ev_iabi, ↓ev_iaib, ↓ev_iabb, ↓ev_iass, ↓ev_iain, ↓ev_iain0, ↓ev_iatn0, ↓ev_Chain, ↓ev_Rng3, ↓asZip_l, ↓asZip_t, ↓ev_Zip, ↓ev_Rg1, ↓ev_Rg2, ↓ev_LstRg, ↓ev_TupRg, ↓ev_min2, ↓ev_max2, ↓ev_nnn, ↓ev_nni, ↓ev_nnt, ↓ev_nnl, ↓ev_nns, ↓ev_nnb, ↓ev_OpL, ↓ev_cat, ↓ev_rep, ↓ev_elrt, ↓evk_Comp, ↓evk_KC, ↓evk_Call, ↓evk_draw, ↓ev_ownDz, ↓ev_ownDs, ↓ev_DPut, ↓ev_newD, ↓ev_disp1, ↓ev_ParL, ↓ev_R0, ↓ev_Rc, ↓ev_sls0, ↓ev_slsc, ↓ev_inl, ↓ev_int, ↓ev_ind, ↓ev_ninl, ↓ev_nint, ↓ev_nind, ↓ev_getD, ↓ev_listD, ↓ev_dictC, ↓ev_keyi, ↓ev_keys, ↓ev_IfT, ↓ev_Index, ↓asTup_e, ↓ev_RevT, ↓ev_Remove, ↓ev_isB, ↓ev_notB, ↓ev_Count, ↓ev_nox, ↓ev_CallX, ↓ev_Raise, ↓ev_Try1, ↓ev_Err, ↓ev_IfC, ↓ev_wrt, ↓ev_wnx, ↓ev_ExtendT, ↓ev_ZipLT, ↓ev_ZipTL, ↓ev_SortSet, ↓ev_ZipTX, ↓evk_CompO, ↓evk_KCO, ↓ev_OrV, ↓ev_mulE, ↓ev_mulEl, ↓ev_mulEi, ↓ev_reprE, ↓ev_boolI, ↓ev_strI, ↓ev_ia_tuple_bl, ↓ev_ia_tuple_int, ↓ev_ia_tuple_str, ↓ev_ia_tuple_lst, ↓ev_ia_tuple_dct, ↓ev_ia_int_str, ↓ev_ia_int_lst, ↓ev_ia_int_dct, ↓ev_ia_str_non, ↓ev_ia_str_bl, ↓ev_ia_str_int, ↓ev_ia_str_tup, ↓ev_ia_str_lst, ↓ev_ia_str_dct, ↓ev_ia_bool_non, ↓ev_ia_bool_str, ↓ev_ia_bool_tup, ↓ev_ia_bool_lst, ↓ev_ia_bool_dct, ↓ev_ia_list_non, ↓ev_ia_list_bl, ↓ev_ia_list_int, ↓ev_ia_list_str, ↓ev_ia_list_tup, ↓ev_ia_list_dct, ↓ev_ia_dict_non, ↓ev_ia_dict_bl, ↓ev_ia_dict_int, ↓ev_ia_dict_str, ↓ev_ia_dict_tup, ↓ev_ia_dict_lst, ↓ev_ia_dict_dct, ↓List.set_cons_zero, ↓List.set_cons_succ, ↓exists_eq_left', List.length_cons, List.length_nil, Nat.reduceAdd, Nat.reduceLeDiff, true_and, and_true, decide_true, decide_false, Bool.not_true, Bool.not_false, List.nil_append])
namespace DL
mutual
def D.inI : D → Bool
  | .int i => decide (i.natAbs < 10 ^ 100)
  | .str x => PyData.strOk x && x.cps.toList.all fun c => decide (c < 16 ^ 8)
  | .tup xs => inIs xs
  | _ => false
def inIs : List D → Bool
  | [] => true
  | x :: r => x.inI && inIs r
end
theorem inIs_all (xs : List D) : inIs xs = xs.all D.inI := by
  induction xs with
  | nil => simp [inIs]
  | cons x r ih => simp [inIs, ih]
end DL
namespace DL
end DL
namespace DL
end DL
namespace DL
structure BI (n B : Nat) (v : D) : Prop where
  i : v.inI = true
  v : BV n B v
theorem BI.tup {n B : Nat} {xs : List D} (h : BI n B (.tup xs)) : ∃ m, n = m + 1 ∧ BVs m B xs ∧ xs.length ≤ B ∧ ∀ (i : Nat) (x : D), xs[i]? = some x → BI m x.blkE x ∧ x.blkE + 1 + blksE (xs.take i ++ xs.drop (i + 1)) ≤ B := by
  obtain ⟨h1, h2⟩ := h
  cases n with
  | zero => have := h2.ok; simp [D.okE] at this
  | succ m =>
    have h3 := h2.ofTup
    have hlen : ∀ ys : List D, ys.length ≤ blksE ys := fun ys => by
      induction ys with
      | nil => exact Nat.zero_le _
      | cons y r ih => rw [blksE_cons, List.length_cons]; omega
    refine ⟨m, rfl, h3, Nat.le_trans (hlen xs) h3.blk, fun i x hx => ?_⟩
    have hm := List.mem_of_getElem? hx
    have hi := (List.getElem?_eq_some_iff.mp hx).1
    simp only [D.inI] at h1
    rw [inIs_all, List.all_eq_true] at h1
    have e : xs.Perm (x :: (xs.take i ++ xs.drop (i + 1))) := by
      have e1 : xs = xs.take i ++ x :: xs.drop (i + 1) := by
        conv => lhs; rw [← List.take_append_drop i xs]
        rw [List.drop_eq_getElem_cons hi]
        have : xs[i] = x := by rw [List.getElem?_eq_getElem hi] at hx; exact Option.some.inj hx
        rw [this]
      conv => lhs; rw [e1]
      exact List.perm_middle
    have e2 := blksE_perm e
    rw [blksE_cons] at e2
    exact ⟨⟨h1 x hm, h3.ok x hm, h3.ws x hm, Nat.le_refl _⟩, by have := h3.blk; omega⟩
theorem cutD_sub {α : Type} (xs : List α) (lo hi : Option Int) : (DL.cutD xs lo hi).Sublist xs := by
  unfold DL.cutD
  exact (List.take_sublist _ _).trans (List.drop_sublist _ _)
end DL
namespace DL
end DL
namespace DL
end DL
open PySem PySem.Spec PyProof.Rows L2 DL
namespace DL
def toI : D → Int
  | .int i => i
  | _ => 0
def watchE : D → D
  | .tup [a, b] => if wholeD a 1 1000000000000 = true then (if wholeD b 0 (toI a - 1) = true then .non else .str "first") else .str "turn"
  | _ => .str "watch"
theorem watchE_two (a b : D) : watchE (.tup [a, b]) = if wholeD a 1 1000000000000 = true then (if wholeD b 0 (toI a - 1) = true then .non else .str "first") else .str "turn" := rfl
def sp_watch_error : DSp := fun ds K => ∃ (d : D) (n : Nat), ds = [d] ∧ d.okE n = true ∧ K (watchE d)
theorem ms_watch_error : MonoSp sp_watch_error := fun ds K K' h ⟨d, n, e, a, q⟩ => ⟨d, n, e, a, h _ q⟩
theorem len_watch_error : ∀ ds Q, sp_watch_error ds Q → ds.length = 1 := fun ds Q ⟨t, n, e, _⟩ => by rw [e]; rfl
theorem okE_dk {d : D} {n : Nat} (h : d.okE n = true) : d ≠ .dk := fun e => by subst e; simp [D.okE] at h
theorem okE_in {xs : List D} {n : Nat} (h : (D.tup xs).okE n = true) : ∀ x ∈ xs, ∃ m, x.okE m = true := by
  cases n with
  | zero => simp [D.okE] at h
  | succ n =>
    simp only [D.okE] at h
    rw [okEs_all, List.all_eq_true] at h
    exact fun x hx => ⟨n, h x hx⟩
theorem whole_int {d : D} {a b : Int} (h : wholeD d a b = true) : ∃ i, d = .int i ∧ a ≤ i ∧ i ≤ b := by
  unfold wholeD at h
  cases d <;> simp only [Bool.false_eq_true] at h
  rename_i i
  simp only [Bool.and_eq_true, decide_eq_true_eq] at h
  exact ⟨i, rfl, h.1, h.2⟩
end DL
def b_watch_error : DSm :=
  (dSeq (dIf (dOrT (dNotT (dTst (dUn (opIsA "tuple") (.n 0)))) (dTst (dOp opNe (.v (dUn opLen (.n 0))) (.v (dC (.int 2)))))) (dRet (dC (.str "watch"))) dNext)
  (dSeq (dIf (dNotT (dTst (dCall sp_is_integer (dAc (dOp opIx (.n 0) (.v (dC (.int 0)))) (dAc (dC (.int 1)) (dAc (dC (.int 1000000000000)) dA0)))))) (dRet (dC (.str "turn"))) dNext)
  (dRet (dIfE (dTst (dCall sp_is_integer (dAc (dOp opIx (.n 0) (.v (dC (.int 1)))) (dAc (dC (.int 0)) (dAc (dOp opSub (.v (dOp opIx (.n 0) (.v (dC (.int 0))))) (.v (dC (.int 1)))) dA0))))) (dC .non) (dC (.str "first"))))))
def N_watch_error : List Str := ["value"]
namespace DL
theorem watch_error_ok : ∀ ds Q, sp_watch_error ds Q → b_watch_error (endD Q) (startD N_watch_error ds) := by
  rintro _ Q ⟨d, n, rfl, hd, q⟩
  show b_watch_error (endD Q) [some (.val d)]
  have hdk := okE_dk hd
  unfold b_watch_error
  cases d with
  | tup xs =>
    walk_at "e"
    refine ifK_i (fun c => ?_) fun c => ?_
    · have : watchE (.tup xs) = .str "watch" := by
        match xs, c with
        | [], _ => rfl
        | [_], _ => rfl
        | [_, _], c => simp at c
        | _ :: _ :: _ :: _, _ => rfl
      rw [this] at q; exact q
    · match xs, c with
      | [a, b], _ =>
        have ha := okE_in hd a (by simp)
        have hb := okE_in hd b (by simp)
        obtain ⟨_, ha⟩ := ha
        obtain ⟨_, hb⟩ := hb
        walk_at "e"
        refine ⟨a, 1, 1000000000000, rfl, okE_dk ha, ?_⟩
        cases h1 : wholeD a 1 1000000000000 with
        | false =>
          walk_at "e"
          have : watchE (.tup [a, b]) = .str "turn" := by rw [watchE_two, h1]; simp
          rw [this] at q; exact q
        | true =>
          obtain ⟨i, rfl, i1, i2⟩ := whole_int h1
          walk_at "e"
          refine ⟨b, 0, i - 1, rfl, okE_dk hb, ?_⟩
          cases h2 : wholeD b 0 (i - 1) with
          | false =>
            walk_at "e"
            have : watchE (.tup [.int i, b]) = .str "first" := by rw [watchE_two, h1]; simp [toI, h2]
            rw [this] at q; exact q
          | true =>
            walk_at "e"
            have : watchE (.tup [.int i, b]) = .non := by rw [watchE_two, h1]; simp [toI, h2]
            rw [this] at q; exact q
      | [], c => simp at c
      | [_], c => simp at c
      | _ :: _ :: _ :: _, c => simp at c; omega
  | non => walk_at "e"; exact q
  | bl _ => walk_at "e"; exact q
  | int _ => walk_at "e"; exact q
  | str _ => walk_at "e"; exact q
  | lst _ => walk_at "e"; exact q
  | dct _ _ => walk_at "e"; exact ⟨hdk, q⟩
  | dk => exact absurd rfl hdk
end DL
namespace DL
end DL
namespace DL
def sp_law_watch_error_g : DSp := fun ds K => ∃ (d : D) (n : Nat), ds = [d] ∧ d.okE n = true ∧ K (watchE d)
theorem ms_law_watch_error_g : MonoSp sp_law_watch_error_g := fun ds K K' h ⟨d, n, e, a, q⟩ => ⟨d, n, e, a, h _ q⟩
theorem len_law_watch_error_g : ∀ ds Q, sp_law_watch_error_g ds Q → ds.length = 1 := fun ds Q ⟨t, n, e, _⟩ => by rw [e]; rfl
end DL
def b_law_watch_error_g : DSm :=
  (dSeq (dIf (dOrT (dNotT (dTst (dUn (opIsA "tuple") (.n 0)))) (dTst (dOp opNe (.v (dUn opLen (.n 0))) (.v (dC (.int 2)))))) (dRet (dC (.str "watch"))) dNext)
  (dSeq (dIf (dNotT (dTst (dCall sp_law_whole (dAc (dOp opIx (.n 0) (.v (dC (.int 0)))) (dAc (dC (.int 1)) (dAc (dOp opPow (.v (dC (.int 10))) (.v (dC (.int 12)))) dA0)))))) (dRet (dC (.str "turn"))) dNext)
  (dRet (dIfE (dTst (dCall sp_law_whole (dAc (dOp opIx (.n 0) (.v (dC (.int 1)))) (dAc (dC (.int 0)) (dAc (dOp opSub (.v (dOp opIx (.n 0) (.v (dC (.int 0))))) (.v (dC (.int 1)))) dA0))))) (dC .non) (dC (.str "first"))))))
def N_law_watch_error_g : List Str := ["value"]
namespace DL
theorem law_watch_error_g_ok : ∀ ds Q, sp_law_watch_error_g ds Q → b_law_watch_error_g (endD Q) (startD N_law_watch_error_g ds) := by
  rintro _ Q ⟨d, n, rfl, hd, q⟩
  show b_law_watch_error_g (endD Q) [some (.val d)]
  have hdk := okE_dk hd
  unfold b_law_watch_error_g
  cases d with
  | tup xs =>
    walk_at "e"
    refine ifK_i (fun c => ?_) fun c => ?_
    · have : watchE (.tup xs) = .str "watch" := by
        match xs, c with
        | [], _ => rfl
        | [_], _ => rfl
        | [_, _], c => simp at c
        | _ :: _ :: _ :: _, _ => rfl
      rw [this] at q; exact q
    · match xs, c with
      | [a, b], _ =>
        have ha := okE_in hd a (by simp)
        have hb := okE_in hd b (by simp)
        obtain ⟨_, ha⟩ := ha
        obtain ⟨_, hb⟩ := hb
        walk_at "e"
        refine ⟨⟨by decide, by decide, by decide⟩, ?_⟩
        refine ⟨a, 1, 1000000000000, rfl, okE_dk ha, ?_⟩
        cases h1 : wholeD a 1 1000000000000 with
        | false =>
          walk_at "e"
          have : watchE (.tup [a, b]) = .str "turn" := by rw [watchE_two, h1]; simp
          rw [this] at q; exact q
        | true =>
          obtain ⟨i, rfl, i1, i2⟩ := whole_int h1
          walk_at "e"
          refine ⟨b, 0, i - 1, rfl, okE_dk hb, ?_⟩
          cases h2 : wholeD b 0 (i - 1) with
          | false =>
            walk_at "e"
            have : watchE (.tup [.int i, b]) = .str "first" := by rw [watchE_two, h1]; simp [toI, h2]
            rw [this] at q; exact q
          | true =>
            walk_at "e"
            have : watchE (.tup [.int i, b]) = .non := by rw [watchE_two, h1]; simp [toI, h2]
            rw [this] at q; exact q
      | [], c => simp at c
      | [_], c => simp at c
      | _ :: _ :: _ :: _, c => simp at c; omega
  | non => walk_at "e"; exact q
  | bl _ => walk_at "e"; exact q
  | int _ => walk_at "e"; exact q
  | str _ => walk_at "e"; exact q
  | lst _ => walk_at "e"; exact q
  | dct _ _ => walk_at "e"; exact ⟨hdk, q⟩
  | dk => exact absurd rfl hdk
end DL
namespace DL
end DL
namespace DL
end DL
open PySem PySem.Spec PyProof.Rows L2 DL
namespace DL
end DL
namespace DL
end DL
namespace DL
end DL
namespace DL
end DL
namespace DL
end DL
open PySem PySem.Spec PyProof.Rows L2 DL
namespace DL
end DL
namespace DL
end DL
namespace DL
end DL
namespace DL
end DL
open PySem PySem.Spec PyProof.Rows L2 DL
namespace DL
def iN (p : List Nat) : List Int := p.map fun i : Nat => (i : Int)
def partsF (items : List Nat) : List (List Nat) := items.foldl (fun acc x => acc ++ acc.map (· ++ [x])) [[]]
theorem partsF_snoc (items : List Nat) (x : Nat) : partsF (items ++ [x]) = partsF items ++ (partsF items).map (· ++ [x]) := by
  unfold partsF; rw [List.foldl_append]; rfl
theorem snoc_i2 {α : Type} {P : List α → Prop} (h0 : P []) (h1 : ∀ l x, P l → P (l ++ [x])) (l : List α) : P l := by
  rw [← List.reverse_reverse l]
  generalize l.reverse = m
  induction m with
  | nil => exact h0
  | cons x r ih => rw [List.reverse_cons]; exact h1 _ _ ih
theorem mem_partsF {items : List Nat} : ∀ {p : List Nat}, p ∈ partsF items ↔ p.Sublist items := by
  refine snoc_i2 (P := fun items => ∀ {p : List Nat}, p ∈ partsF items ↔ p.Sublist items) ?_ (fun l x ih p => ?_) items
  · intro p
    rw [List.sublist_nil]
    show p ∈ [[]] ↔ _
    simp
  · rw [partsF_snoc, List.mem_append, ih, List.mem_map, List.sublist_append_iff]
    constructor
    · rintro (h | ⟨q, hq, rfl⟩)
      · exact ⟨p, [], by simp, h, List.nil_sublist _⟩
      · exact ⟨q, [x], rfl, ih.mp hq, List.Sublist.refl _⟩
    · rintro ⟨a, b, rfl, ha, hb⟩
      cases hb with
      | cons _ h => rw [List.sublist_nil.mp h, List.append_nil]; exact .inl ha
      | cons_cons _ h => rw [List.sublist_nil.mp h]; exact .inr ⟨a, ih.mpr ha, rfl⟩
theorem partsF_len (items : List Nat) : (partsF items).length = 2 ^ items.length := by
  refine snoc_i2 (P := fun items => (partsF items).length = 2 ^ items.length) rfl (fun l x ih => ?_) items
  rw [partsF_snoc, List.length_append, List.length_map, ih, List.length_append, List.length_singleton, Nat.pow_succ]; omega
def minF (parts : List (List Nat)) : List (List Nat) := parts.filter fun p => !(p.any fun i => decide (p.filter (fun j => decide (j ≠ i)) ∈ parts))
def IsSrt (xs ys : List (List Nat)) : Prop := ys.Perm xs ∧ ys.Pairwise fun a b => HT.lexLt (iN b) (iN a) = false
open Classical in
def IsLeast (n : Nat) (P : List Nat → Prop) (ys : List (List Nat)) : Prop := IsSrt (minF ((partsF (List.range n)).filter fun p => decide (P p))) ys
theorem sub_flt {p : List Nat} {n : Nat} (h : p.Sublist (List.range n)) (f : Nat → Bool) : (p.filter f).Sublist (List.range n) := List.filter_sublist.trans h
open Classical in
theorem min_mem {n : Nat} {P : List Nat → Prop} {p : List Nat} : p ∈ minF ((partsF (List.range n)).filter fun p => decide (P p)) ↔ p.Sublist (List.range n) ∧ P p ∧ ∀ i ∈ p, ¬ P (p.filter fun j => decide (j ≠ i)) := by
  unfold minF
  simp only [List.mem_filter, mem_partsF, decide_eq_true_eq, Bool.not_eq_true', List.any_eq_false, not_and]
  constructor
  · rintro ⟨⟨h1, h2⟩, h3⟩
    exact ⟨h1, h2, fun i hi hp => h3 i hi (sub_flt h1 _) hp⟩
  · rintro ⟨h1, h2, h3⟩
    exact ⟨⟨h1, h2⟩, fun i hi _ => h3 i hi⟩
theorem IsLeast.mem {n : Nat} {P : List Nat → Prop} {ys : List (List Nat)} (h : IsLeast n P ys) {p : List Nat} : p ∈ ys ↔ p.Sublist (List.range n) ∧ P p ∧ ∀ i ∈ p, ¬ P (p.filter fun j => decide (j ≠ i)) := h.1.mem_iff.trans min_mem
theorem IsLeast.len {n : Nat} {P : List Nat → Prop} {ys : List (List Nat)} (h : IsLeast n P ys) : ys.length ≤ 2 ^ n := by
  rw [h.1.length_eq]
  unfold minF
  refine Nat.le_trans (List.length_filter_le _ _) (Nat.le_trans (List.length_filter_le _ _) ?_)
  rw [partsF_len, List.length_range]; exact Nat.le_refl _
def RestP (l : List (Int × Int)) (p : List Nat) : Prop := closedL (pick l p)
end DL
namespace DL
end DL
namespace DL
end DL
namespace DL
end DL
namespace DL
end DL
namespace DL
end DL
open PySem PySem.Spec PyProof.Rows L2 DL
namespace DL
structure Re (n : Nat) (τ : Nat → Nat) : Prop where
  lt : ∀ i, i < n → τ i < n
  inj : ∀ i j, i < n → j < n → τ i = τ j → i = j
  sur : ∀ j, j < n → ∃ i, i < n ∧ τ i = j
end DL
namespace DL
end DL
namespace DL
end DL
namespace DL
end DL
namespace DL
end DL
namespace DL
end DL
open PySem PySem.Spec PyProof.Rows L2 DL
namespace DL
end DL
namespace DL
end DL
namespace DL
end DL
namespace DL
end DL
namespace DL
end DL
namespace DL
end DL
namespace DL
end DL
open PySem PySem.Spec PyProof.Rows L2 DL
namespace DL
end DL
namespace DL
theorem tally_mapJ {f : Int × Int → Int × Int} {d e : Int} : ∀ {l : List (Int × Int)}, (∀ p ∈ l, ((d - (f p).2) % (f p).1 = 0 ↔ (e - p.2) % p.1 = 0)) → tally (l.map f) d = tally l e
  | [], _ => rfl
  | p :: l, h => by
    have ih := tally_mapJ (d := d) (e := e) fun q hq => h q (List.mem_cons_of_mem _ hq)
    have hp := h p (List.mem_cons_self ..)
    unfold tally at ih ⊢
    rw [List.map_cons, List.filter_cons, List.filter_cons]
    by_cases c : (e - p.2) % p.1 = 0
    · rw [if_pos (decide_eq_true (hp.mpr c)), if_pos (decide_eq_true c), List.length_cons, List.length_cons, ih]
    · rw [if_neg (by simpa using fun c' => c (hp.mp c')), if_neg (by simpa using c), ih]
theorem tally_shiftJ {l : List (Int × Int)} (d e : Int) : tally (shiftL l e) d = tally l (d - e) := by
  refine tally_mapJ fun p _ => ?_
  show (d - (p.2 + e) % p.1) % p.1 = 0 ↔ (d - e - p.2) % p.1 = 0
  rw [Int.sub_emod, Int.emod_emod, ← Int.sub_emod, show d - (p.2 + e) = d - e - p.2 by omega]
theorem lot_shiftJ {l : List (Int × Int)} (d : Int) (h : IsLot l) : IsLot (shiftL l d) := by
  intro p hp
  obtain ⟨q, hq, rfl⟩ := List.mem_map.mp hp
  obtain ⟨h1, h2, h3, h4⟩ := h q hq
  exact ⟨h1, h2, Int.emod_nonneg _ (by omega), Int.emod_lt_of_pos _ (by omega)⟩
end DL
namespace DL
end DL
open PySem PySem.Spec PyProof.Rows L2 DL
namespace DL
end DL
namespace DL
end DL
open PySem PySem.Spec PyProof.Rows L2 DL
namespace DL
end DL
namespace DL
end DL
namespace DL
end DL
namespace DL
end DL
namespace DL
end DL
namespace DL
end DL
namespace DL
end DL
open PySem PySem.Spec PyProof.Rows L2 DL
namespace DL
end DL
namespace DL
end DL
namespace DL
end DL
namespace DL
end DL
open PySem PySem.Spec PyProof.Rows L2 DL
local macro_rules | `(tactic| walk_at "d") => `(tactic| simp only [↓getS_z, ↓getS_s, ↓asBl_e, ↓asInt_e, ↓asLst_e, ↓asSeq_l, ↓asSeq_t, ↓ifK_t, ↓ifK_f, ↓ev_C, ↓ev_Var, ↓ev_frv, ↓ev_fro, ↓ev_topv, ↓ev_topo, ↓ev_frl, ↓ev_frd, ↓ev_odv, ↓ev_odn, ↓ev_fiv, ↓ev_fin, ↓ev_Op, ↓ev_Un, ↓ev_UL, ↓ev_Bb, ↓ev_Tst, ↓ev_AndT, ↓ev_OrT, ↓ev_NotT, ↓ev_And, ↓ev_Or, ↓ev_Not, ↓ev_IfE, ↓ev_A0, ↓ev_Ac, ↓ev_Tup, ↓ev_Lst, ↓ev_Frz, ↓ev_Call, ↓ev_NoP, ↓ev_Part, ↓ev_Sl, ↓ev_SeqI, ↓ev_EnumI, ↓ev_Rng1, ↓ev_Rng2, ↓ev_nm, ↓ev_tp, ↓ev_tp0, ↓ev_tpc, ↓ev_Next, ↓ev_Seq, ↓ev_Break, ↓ev_Cont, ↓ev_Drop, ↓ev_Ret, ↓ev_RetN, ↓ev_If, ↓ev_Set, ↓ev_SetL, ↓ev_SetP, ↓ev_rhv, ↓ev_rho, ↓ev_Par, ↓ev_For, ↓ev_Comp, ↓ev_Yes, ↓ev_ownz, ↓ev_owns, ↓ev_Append, ↓ev_Extend, ↓ev_Pop, ↓ev_PopAt, ↓ev_SetIx, ↓ev_wi0, ↓ev_wic, ↓ev_re0, ↓ev_rec, ↓ev_kvn, ↓ev_kvv, ↓ev_kvo, ↓ev_kvs, ↓ev_endrt, ↓ev_endnx, ↓ev_addi, ↓ev_addt, ↓ev_addl, ↓ev_adds, ↓ev_sub, ↓ev_muli, ↓ev_mull, ↓ev_mult, ↓ev_mod, ↓ev_div, ↓ev_pow, ↓ev_shl, ↓ev_cmp, ↓ev_lt, ↓ev_le, ↓ev_gt, ↓ev_ge, ↓ev_eqi, ↓ev_nei, ↓ev_eqs, ↓ev_nes, ↓ev_eqtt, ↓ev_eqll, ↓ev_nett, ↓ev_nell, ↓ev_isN, ↓ev_notN, ↓ev_neg, ↓ev_ixt, ↓ev_ixl, ↓ev_ix0, ↓ev_ix1, ↓ev_ix2, ↓ev_slt, ↓ev_sll, ↓ev_lent, ↓ev_lenl, ↓ev_tupt, ↓ev_tupl, ↓ev_inti, ↓ev_intb, ↓ev_abs, ↓ev_listt, ↓ev_listl, ↓ev_repr, ↓ev_Rev, ↓ev_isA, ↓ev_ndt, ↓ev_ndl, ↓ev_ndi, ↓ev_ndb, ↓ev_nds, ↓ev_ndn, ↓ev_iatt, ↓ev_iail, ↓ev_iaii, ↓ev_iabi, ↓ev_iaib, ↓ev_iabb, ↓ev_iass, ↓ev_iain, ↓ev_iain0, ↓ev_iatn0, ↓ev_Chain, ↓ev_Rng3, ↓asZip_l, ↓asZip_t, ↓ev_Zip, ↓ev_Rg1, ↓ev_Rg2, ↓ev_LstRg, ↓ev_TupRg, ↓ev_min2, ↓ev_max2, ↓ev_nnn, ↓ev_nni, ↓ev_nnt, ↓ev_nnl, ↓ev_nns, ↓ev_nnb, ↓ev_OpL, ↓ev_cat, ↓ev_rep, ↓ev_elrt, ↓ev_draw, ↓ev_ownDz, ↓ev_ownDs, ↓ev_DPut, ↓ev_newD, ↓ev_disp1, ↓ev_ParL, ↓ev_R0, ↓ev_Rc, ↓ev_sls0, ↓ev_slsc, ↓ev_inl, ↓ev_int, ↓ev_ind, ↓ev_ninl, ↓ev_nint, ↓ev_nind, ↓ev_getD, ↓ev_listD, ↓ev_dictC, ↓ev_keyi, ↓ev_keys, ↓ev_IfT, ↓ev_Index, ↓asTup_e, ↓ev_RevT, ↓ev_Remove, ↓ev_isB, ↓ev_notB, ↓ev_Count, ↓ev_nox, ↓ev_CallX, ↓ev_Raise, ↓ev_Try1, ↓ev_Err, ↓ev_IfC, ↓ev_wrt, ↓ev_wnx, ↓ev_ExtendT, ↓ev_ZipLT, ↓ev_ZipTL, ↓ev_SortSet, ↓ev_ZipTX, ↓ev_OrV, ↓ev_mulE, ↓ev_mulEl, ↓ev_mulEi, ↓ev_reprE, ↓ev_boolI, ↓ev_strI, ↓ev_ia_tuple_bl, ↓ev_ia_tuple_int, ↓ev_ia_tuple_str, ↓ev_ia_tuple_lst, ↓ev_ia_tuple_dct, ↓ev_ia_int_str, ↓ev_ia_int_lst, ↓ev_ia_int_dct, ↓ev_ia_str_non, ↓ev_ia_str_bl, ↓ev_ia_str_int, ↓ev_ia_str_tup, ↓ev_ia_str_lst, ↓ev_ia_str_dct, ↓ev_ia_bool_non, ↓ev_ia_bool_str, ↓ev_ia_bool_tup, ↓ev_ia_bool_lst, ↓ev_ia_bool_dct, ↓ev_ia_list_non, ↓ev_ia_list_bl, ↓ev_ia_list_int, ↓ev_ia_list_str, ↓ev_ia_list_tup, ↓ev_ia_list_dct, ↓ev_ia_dict_non, ↓ev_ia_dict_bl, ↓ev_ia_dict_int, ↓ev_ia_dict_str, ↓ev_ia_dict_tup, ↓ev_ia_dict_lst, ↓ev_ia_dict_dct, ↓ev_Told, ↓List.set_cons_zero, ↓List.set_cons_succ, ↓exists_eq_left', List.length_cons, List.length_nil, Nat.reduceAdd, Nat.reduceLeDiff, true_and, and_true, decide_true, decide_false, Bool.not_true, Bool.not_false, List.nil_append])
local macro_rules | `(tactic| walk_at "e") => `(tactic| simp only [↓getS_z, ↓getS_s, ↓asBl_e, ↓asInt_e, ↓asLst_e, ↓asSeq_l, ↓asSeq_t, ↓ifK_t, ↓ifK_f, ↓ev_C, ↓ev_Var, ↓ev_frv, ↓ev_fro, ↓ev_topv, ↓ev_topo, ↓ev_frl, ↓ev_frd, ↓ev_odv, ↓ev_odn, ↓ev_fiv, ↓ev_fin, ↓ev_Op, ↓ev_Un, ↓ev_UL, ↓ev_Bb, ↓ev_Tst, ↓ev_AndT, ↓ev_OrT, ↓ev_NotT, ↓ev_And, ↓ev_Or, ↓ev_Not, ↓ev_IfE, ↓ev_A0, ↓ev_Ac, ↓ev_Tup, ↓ev_Lst, ↓ev_Frz, ↓ev_NoP, ↓ev_Part, ↓ev_Sl, ↓ev_SeqI, ↓ev_EnumI, ↓ev_Rng1, ↓ev_Rng2, ↓ev_nm, ↓ev_tp, ↓ev_tp0, ↓ev_tpc, ↓ev_Next, ↓ev_Seq, ↓ev_Break, ↓ev_Cont, ↓ev_Drop, ↓ev_Ret, ↓ev_RetN, ↓ev_If, ↓ev_Set, ↓ev_SetL, ↓ev_SetP, ↓ev_rhv, ↓ev_rho, ↓ev_Par, ↓ev_For, ↓ev_Yes, ↓ev_ownz, ↓ev_owns, ↓ev_Append, ↓ev_Extend, ↓ev_Pop, ↓ev_PopAt, ↓ev_SetIx, ↓ev_wi0, ↓ev_wic, ↓ev_re0, ↓ev_rec, ↓ev_kvn, ↓ev_kvv, ↓ev_kvo, ↓ev_kvs, ↓ev_endrt, ↓ev_endnx, ↓ev_addi, ↓ev_addt, ↓ev_addl, ↓ev_adds, ↓ev_sub, ↓ev_muli, ↓ev_mull, ↓ev_mult, ↓ev_mod, ↓ev_div, ↓ev_pow, ↓ev_shl, ↓ev_cmp, ↓ev_lt, ↓ev_le, ↓ev_gt, ↓ev_ge, ↓ev_eqi, ↓ev_nei, ↓ev_eqs, ↓ev_nes, ↓ev_eqtt, ↓ev_eqll, ↓ev_nett, ↓ev_nell, ↓ev_isN, ↓ev_notN, ↓ev_neg, ↓ev_ixt, ↓ev_ixl, ↓ev_ix0, ↓ev_ix1, ↓ev_ix2, ↓ev_slt, ↓ev_sll, ↓ev_lent, ↓ev_lenl, ↓ev_tupt, ↓ev_tupl, ↓ev_inti, ↓ev_intb, ↓ev_abs, ↓ev_listt, ↓ev_listl, ↓ev_repr, ↓ev_Rev, ↓ev_isA, ↓ev_ndt, ↓ev_ndl, ↓ev_ndi, ↓ev_ndb, ↓ev_nds, ↓ev_ndn, ↓ev_iatt, ↓ev_iail, ↓ev_iaii, ↓ev_iabi, ↓ev_iaib, ↓ev_iabb, ↓ev_iass, ↓ev_iain, ↓ev_iain0, ↓ev_iatn0, ↓ev_Chain, ↓ev_Rng3, ↓asZip_l, ↓asZip_t, ↓ev_Zip, ↓ev_Rg1, ↓ev_Rg2, ↓ev_LstRg, ↓ev_TupRg, ↓ev_min2, ↓ev_max2, ↓ev_nnn, ↓ev_nni, ↓ev_nnt, ↓ev_nnl, ↓ev_nns, ↓ev_nnb, ↓ev_OpL, ↓ev_cat, ↓ev_rep, ↓ev_elrt, ↓evk_Comp, ↓evk_KC, ↓evk_Call, ↓evk_draw, ↓ev_ownDz, ↓ev_ownDs, ↓ev_DPut, ↓ev_newD, ↓ev_disp1, ↓ev_ParL, ↓ev_R0, ↓ev_Rc, ↓ev_sls0, ↓ev_slsc, ↓ev_inl, ↓ev_int, ↓ev_ind, ↓ev_ninl, ↓ev_nint, ↓ev_nind, ↓ev_getD, ↓ev_listD, ↓ev_dictC, ↓ev_keyi, ↓ev_keys, ↓ev_IfT, ↓ev_Index, ↓asTup_e, ↓ev_RevT, ↓ev_Remove, ↓ev_isB, ↓ev_notB, ↓ev_Count, ↓ev_nox, ↓ev_CallX, ↓ev_Raise, ↓ev_Try1, ↓ev_Err, ↓ev_IfC, ↓ev_wrt, ↓ev_wnx, ↓ev_ExtendT, ↓ev_ZipLT, ↓ev_ZipTL, ↓ev_SortSet, ↓ev_ZipTX, ↓evk_CompO, ↓evk_KCO, ↓ev_OrV, ↓ev_mulE, ↓ev_mulEl, ↓ev_mulEi, ↓ev_reprE, ↓ev_boolI, ↓ev_strI, ↓ev_ia_tuple_bl, ↓ev_ia_tuple_int, ↓ev_ia_tuple_str, ↓ev_ia_tuple_lst, ↓ev_ia_tuple_dct, ↓ev_ia_int_str, ↓ev_ia_int_lst, ↓ev_ia_int_dct, ↓ev_ia_str_non, ↓ev_ia_str_bl, ↓ev_ia_str_int, ↓ev_ia_str_tup, ↓ev_ia_str_lst, ↓ev_ia_str_dct, ↓ev_ia_bool_non, ↓ev_ia_bool_str, ↓ev_ia_bool_tup, ↓ev_ia_bool_lst, ↓ev_ia_bool_dct, ↓ev_ia_list_non, ↓ev_ia_list_bl, ↓ev_ia_list_int, ↓ev_ia_list_str, ↓ev_ia_list_tup, ↓ev_ia_list_dct, ↓ev_ia_dict_non, ↓ev_ia_dict_bl, ↓ev_ia_dict_int, ↓ev_ia_dict_str, ↓ev_ia_dict_tup, ↓ev_ia_dict_lst, ↓ev_ia_dict_dct, ↓ev_Told, ↓List.set_cons_zero, ↓List.set_cons_succ, ↓exists_eq_left', List.length_cons, List.length_nil, Nat.reduceAdd, Nat.reduceLeDiff, true_and, and_true, decide_true, decide_false, Bool.not_true, Bool.not_false, List.nil_append])
namespace DL
end DL
namespace DL
end DL
namespace DL
end DL
namespace DL
end DL
namespace DL
end DL
open PySem PySem.Spec PyProof.Rows L2 DL
namespace DL
end DL
namespace DL
end DL
namespace DL
end DL
namespace DL
end DL
namespace DL
end DL
open PySem PySem.Spec PyProof.Rows L2 DL
namespace DL
end DL
open PySem PySem.Spec PyProof.Rows L2 DL
namespace DL
end DL
open PySem PySem.Spec PyProof.Rows L2 DL
local macro_rules | `(tactic| walk_at "d") => `(tactic| simp only [↓getS_z, ↓getS_s, ↓asBl_e, ↓asInt_e, ↓asLst_e, ↓asSeq_l, ↓asSeq_t, ↓ifK_t, ↓ifK_f, ↓ev_C, ↓ev_Var, ↓ev_frv, ↓ev_fro, ↓ev_topv, ↓ev_topo, ↓ev_frl, ↓ev_frd, ↓ev_odv, ↓ev_odn, ↓ev_fiv, ↓ev_fin, ↓ev_Op, ↓ev_Un, ↓ev_UL, ↓ev_Bb, ↓ev_Tst, ↓ev_AndT, ↓ev_OrT, ↓ev_NotT, ↓ev_And, ↓ev_Or, ↓ev_Not, ↓ev_IfE, ↓ev_A0, ↓ev_Ac, ↓ev_Tup, ↓ev_Lst, ↓ev_Frz, ↓ev_Call, ↓ev_NoP, ↓ev_Part, ↓ev_Sl, ↓ev_SeqI, ↓ev_EnumI, ↓ev_Rng1, ↓ev_Rng2, ↓ev_nm, ↓ev_tp, ↓ev_tp0, ↓ev_tpc, ↓ev_Next, ↓ev_Seq, ↓ev_Break, ↓ev_Cont, ↓ev_Drop, ↓ev_Ret, ↓ev_RetN, ↓ev_If, ↓ev_Set, ↓ev_SetL, ↓ev_SetP, ↓ev_rhv, ↓ev_rho, ↓ev_Par, ↓ev_For, ↓ev_Comp, ↓ev_Yes, ↓ev_ownz, ↓ev_owns, ↓ev_Append, ↓ev_Extend, ↓ev_Pop, ↓ev_PopAt, ↓ev_SetIx, ↓ev_wi0, ↓ev_wic, ↓ev_re0, ↓ev_rec, ↓ev_kvn, ↓ev_kvv, ↓ev_kvo, ↓ev_kvs, ↓ev_endrt, ↓ev_endnx, ↓ev_addi, ↓ev_addt, ↓ev_addl, ↓ev_adds, ↓ev_sub, ↓ev_muli, ↓ev_mull, ↓ev_mult, ↓ev_mod, ↓ev_div, ↓ev_pow, ↓ev_shl, ↓ev_cmp, ↓ev_lt, ↓ev_le, ↓ev_gt, ↓ev_ge, ↓ev_eqi, ↓ev_nei, ↓ev_eqs, ↓ev_nes, ↓ev_eqtt, ↓ev_eqll, ↓ev_nett, ↓ev_nell, ↓ev_isN, ↓ev_notN, ↓ev_neg, ↓ev_ixt, ↓ev_ixl, ↓ev_ix0, ↓ev_ix1, ↓ev_ix2, ↓ev_slt, ↓ev_sll, ↓ev_lent, ↓ev_lenl, ↓ev_tupt, ↓ev_tupl, ↓ev_inti, ↓ev_intb, ↓ev_abs, ↓ev_listt, ↓ev_listl, ↓ev_repr, ↓ev_Rev, ↓ev_isA, ↓ev_ndt, ↓ev_ndl, ↓ev_ndi, ↓ev_ndb, ↓ev_nds, ↓ev_ndn, ↓ev_iatt, ↓ev_iail, ↓ev_iaii, ↓ev_iabi, ↓ev_iaib, ↓ev_iabb, ↓ev_iass, ↓ev_iain, ↓ev_iain0, ↓ev_iatn0, ↓ev_Chain, ↓ev_Rng3, ↓asZip_l, ↓asZip_t, ↓ev_Zip, ↓ev_Rg1, ↓ev_Rg2, ↓ev_LstRg, ↓ev_TupRg, ↓ev_min2, ↓ev_max2, ↓ev_nnn, ↓ev_nni, ↓ev_nnt, ↓ev_nnl, ↓ev_nns, ↓ev_nnb, ↓ev_OpL, ↓ev_cat, ↓ev_rep, ↓ev_elrt, ↓ev_draw, ↓ev_ownDz, ↓ev_ownDs, ↓ev_DPut, ↓ev_newD, ↓ev_disp1, ↓ev_ParL, ↓ev_R0, ↓ev_Rc, ↓ev_sls0, ↓ev_slsc, ↓ev_inl, ↓ev_int, ↓ev_ind, ↓ev_ninl, ↓ev_nint, ↓ev_nind, ↓ev_getD, ↓ev_listD, ↓ev_dictC, ↓ev_keyi, ↓ev_keys, ↓ev_IfT, ↓ev_Index, ↓asTup_e, ↓ev_RevT, ↓ev_Remove, ↓ev_isB, ↓ev_notB, ↓ev_Count, ↓ev_nox, ↓ev_CallX, ↓ev_Raise, ↓ev_Try1, ↓ev_Err, ↓ev_IfC, ↓ev_wrt, ↓ev_wnx, ↓ev_ExtendT, ↓ev_ZipLT, ↓ev_ZipTL, ↓ev_SortSet, ↓ev_ZipTX, ↓ev_OrV, ↓ev_mulE, ↓ev_mulEl, ↓ev_mulEi, ↓ev_reprE, ↓ev_boolI, ↓ev_strI, ↓ev_ia_tuple_bl, ↓ev_ia_tuple_int, ↓ev_ia_tuple_str, ↓ev_ia_tuple_lst, ↓ev_ia_tuple_dct, ↓ev_ia_int_str, ↓ev_ia_int_lst, ↓ev_ia_int_dct, ↓ev_ia_str_non, ↓ev_ia_str_bl, ↓ev_ia_str_int, ↓ev_ia_str_tup, ↓ev_ia_str_lst, ↓ev_ia_str_dct, ↓ev_ia_bool_non, ↓ev_ia_bool_str, ↓ev_ia_bool_tup, ↓ev_ia_bool_lst, ↓ev_ia_bool_dct, ↓ev_ia_list_non, ↓ev_ia_list_bl, ↓ev_ia_list_int, ↓ev_ia_list_str, ↓ev_ia_list_tup, ↓ev_ia_list_dct, ↓ev_ia_dict_non, ↓ev_ia_dict_bl, ↓ev_ia_dict_int, ↓ev_ia_dict_str, ↓ev_ia_dict_tup, ↓ev_ia_dict_lst, ↓ev_ia_dict_dct, ↓ev_Told, ↓asDK_e, ↓List.set_cons_zero, ↓List.set_cons_succ, ↓exists_eq_left', List.length_cons, List.length_nil, Nat.reduceAdd, Nat.reduceLeDiff, true_and, and_true, decide_true, decide_false, Bool.not_true, Bool.not_false, List.nil_append])
local macro_rules | `(tactic| walk_at "e") => `(tactic| simp only [↓getS_z, ↓getS_s, ↓asBl_e, ↓asInt_e, ↓asLst_e, ↓asSeq_l, ↓asSeq_t, ↓ifK_t, ↓ifK_f, ↓ev_C, ↓ev_Var, ↓ev_frv, ↓ev_fro, ↓ev_topv, ↓ev_topo, ↓ev_frl, ↓ev_frd, ↓ev_odv, ↓ev_odn, ↓ev_fiv, ↓ev_fin, ↓ev_Op, ↓ev_Un, ↓ev_UL, ↓ev_Bb, ↓ev_Tst, ↓ev_AndT, ↓ev_OrT, ↓ev_NotT, ↓ev_And, ↓ev_Or, ↓ev_Not, ↓ev_IfE, ↓ev_A0, ↓ev_Ac, ↓ev_Tup, ↓ev_Lst, ↓ev_Frz, ↓ev_NoP, ↓ev_Part, ↓ev_Sl, ↓ev_SeqI, ↓ev_EnumI, ↓ev_Rng1, ↓ev_Rng2, ↓ev_nm, ↓ev_tp, ↓ev_tp0, ↓ev_tpc, ↓ev_Next, ↓ev_Seq, ↓ev_Break, ↓ev_Cont, ↓ev_Drop, ↓ev_Ret, ↓ev_RetN, ↓ev_If, ↓ev_Set, ↓ev_SetL, ↓ev_SetP, ↓ev_rhv, ↓ev_rho, ↓ev_Par, ↓ev_For, ↓ev_Yes, ↓ev_ownz, ↓ev_owns, ↓ev_Append, ↓ev_Extend, ↓ev_Pop, ↓ev_PopAt, ↓ev_SetIx, ↓ev_wi0, ↓ev_wic, ↓ev_re0, ↓ev_rec, ↓ev_kvn, ↓ev_kvv, ↓ev_kvo, ↓ev_kvs, ↓ev_endrt, ↓ev_endnx, ↓ev_addi, ↓ev_addt, ↓ev_addl, ↓ev_adds, ↓ev_sub, ↓ev_muli, ↓ev_mull, ↓ev_mult, ↓ev_mod, ↓ev_div, ↓ev_pow, ↓ev_shl, ↓ev_cmp, ↓ev_lt, ↓ev_le, ↓ev_gt, ↓ev_ge, ↓ev_eqi, ↓ev_nei, ↓ev_eqs, ↓ev_nes, ↓ev_eqtt, ↓ev_eqll, ↓ev_nett, ↓ev_nell, ↓ev_isN, ↓ev_notN, ↓ev_neg, ↓ev_ixt, ↓ev_ixl, ↓ev_ix0, ↓ev_ix1, ↓ev_ix2, ↓ev_slt, ↓ev_sll, ↓ev_lent, ↓ev_lenl, ↓ev_tupt, ↓ev_tupl, ↓ev_inti, ↓ev_intb, ↓ev_abs, ↓ev_listt, ↓ev_listl, ↓ev_repr, ↓ev_Rev, ↓ev_isA, ↓ev_ndt, ↓ev_ndl, ↓ev_ndi, ↓ev_ndb, ↓ev_nds, ↓ev_ndn, ↓ev_iatt, ↓ev_iail, ↓ev_iaii, ↓ev_iabi, ↓ev_iaib, ↓ev_iabb, ↓ev_iass, ↓ev_iain, ↓ev_iain0, ↓ev_iatn0, ↓ev_Chain, ↓ev_Rng3, ↓asZip_l, ↓asZip_t, ↓ev_Zip, ↓ev_Rg1, ↓ev_Rg2, ↓ev_LstRg, ↓ev_TupRg, ↓ev_min2, ↓ev_max2, ↓ev_nnn, ↓ev_nni, ↓ev_nnt, ↓ev_nnl, ↓ev_nns, ↓ev_nnb, ↓ev_OpL, ↓ev_cat, ↓ev_rep, ↓ev_elrt, ↓evk_Comp, ↓evk_KC, ↓evk_Call, ↓evk_draw, ↓ev_ownDz, ↓ev_ownDs, ↓ev_DPut, ↓ev_newD, ↓ev_disp1, ↓ev_ParL, ↓ev_R0, ↓ev_Rc, ↓ev_sls0, ↓ev_slsc, ↓ev_inl, ↓ev_int, ↓ev_ind, ↓ev_ninl, ↓ev_nint, ↓ev_nind, ↓ev_getD, ↓ev_listD, ↓ev_dictC, ↓ev_keyi, ↓ev_keys, ↓ev_IfT, ↓ev_Index, ↓asTup_e, ↓ev_RevT, ↓ev_Remove, ↓ev_isB, ↓ev_notB, ↓ev_Count, ↓ev_nox, ↓ev_CallX, ↓ev_Raise, ↓ev_Try1, ↓ev_Err, ↓ev_IfC, ↓ev_wrt, ↓ev_wnx, ↓ev_ExtendT, ↓ev_ZipLT, ↓ev_ZipTL, ↓ev_SortSet, ↓ev_ZipTX, ↓evk_CompO, ↓evk_KCO, ↓ev_OrV, ↓ev_mulE, ↓ev_mulEl, ↓ev_mulEi, ↓ev_reprE, ↓ev_boolI, ↓ev_strI, ↓ev_ia_tuple_bl, ↓ev_ia_tuple_int, ↓ev_ia_tuple_str, ↓ev_ia_tuple_lst, ↓ev_ia_tuple_dct, ↓ev_ia_int_str, ↓ev_ia_int_lst, ↓ev_ia_int_dct, ↓ev_ia_str_non, ↓ev_ia_str_bl, ↓ev_ia_str_int, ↓ev_ia_str_tup, ↓ev_ia_str_lst, ↓ev_ia_str_dct, ↓ev_ia_bool_non, ↓ev_ia_bool_str, ↓ev_ia_bool_tup, ↓ev_ia_bool_lst, ↓ev_ia_bool_dct, ↓ev_ia_list_non, ↓ev_ia_list_bl, ↓ev_ia_list_int, ↓ev_ia_list_str, ↓ev_ia_list_tup, ↓ev_ia_list_dct, ↓ev_ia_dict_non, ↓ev_ia_dict_bl, ↓ev_ia_dict_int, ↓ev_ia_dict_str, ↓ev_ia_dict_tup, ↓ev_ia_dict_lst, ↓ev_ia_dict_dct, ↓ev_Told, ↓asDK_e, ↓evk_CompK, ↓List.set_cons_zero, ↓List.set_cons_succ, ↓exists_eq_left', List.length_cons, List.length_nil, Nat.reduceAdd, Nat.reduceLeDiff, true_and, and_true, decide_true, decide_false, Bool.not_true, Bool.not_false, List.nil_append])
namespace DL
structure PhOk (l : List (Int × Int)) (ph : List (Nat × Int)) (T f : Int) : Prop where
  lt : ∀ x ∈ ph, x.1 < l.length
  nd : (ph.map (·.1)).Nodup
  at' : ∀ x ∈ ph, ∀ d, T ∣ d - f → (l.getD x.1 (1, 0)).1 ∣ d + x.2 - (l.getD x.1 (1, 0)).2
end DL
namespace DL
end DL
namespace DL
end DL
namespace DL
def Long (l : List (Int × Int)) (s : Nat) : Prop := ∃ d, ∀ i : Nat, i < s → 0 < tally l (d + i)
def IsLH (l : List (Int × Int)) (r : Int) : Prop := ((∀ d, 0 < tally l d) ∧ r = -1) ∨ ∃ m : Nat, r = m ∧ (∃ d, tally l d = 0) ∧ Long l m ∧ ¬ Long l (m + 1)
theorem IsLH.via {l m : List (Int × Int)} (hz : (∃ d, tally l d = 0) ↔ ∃ d, tally m d = 0) (hL : ∀ s, Long l s ↔ Long m s) {r : Int} (h : IsLH l r) : IsLH m r := by
  rcases h with ⟨h1, rfl⟩ | ⟨n, rfl, h1, h2, h3⟩
  · refine .inl ⟨fun d => ?_, rfl⟩
    rcases Nat.eq_zero_or_pos (tally m d) with c | c
    · obtain ⟨e, he⟩ := hz.mpr ⟨d, c⟩
      have := h1 e; omega
    · exact c
  · exact .inr ⟨n, rfl, hz.mp h1, (hL n).mp h2, fun h => h3 ((hL _).mpr h)⟩
theorem IsLH.shift {l m : List (Int × Int)} {t : Int} (h : ∀ d, tally m (d + t) = tally l d) {r : Int} (hr : IsLH l r) : IsLH m r := by
  refine hr.via ⟨fun ⟨d, e⟩ => ⟨d + t, by rw [h]; exact e⟩, fun ⟨d, e⟩ => ⟨d - t, by rw [← h, show d - t + t = d by omega]; exact e⟩⟩ fun s => ⟨fun ⟨d, q⟩ => ⟨d + t, fun i hi => ?_⟩, fun ⟨d, q⟩ => ⟨d - t, fun i hi => ?_⟩⟩
  · have := q i hi
    rw [show d + t + (i : Int) = d + i + t by omega, h]; exact this
  · have := q i hi
    rw [← h, show d - t + (i : Int) + t = d + i by omega]; exact this
end DL
namespace DL
end DL
open PySem PySem.Spec PyProof.Rows L2 DL
local macro_rules | `(tactic| walk_at "d") => `(tactic| simp only [↓getS_z, ↓getS_s, ↓asBl_e, ↓asInt_e, ↓asLst_e, ↓asSeq_l, ↓asSeq_t, ↓ifK_t, ↓ifK_f, ↓ev_C, ↓ev_Var, ↓ev_frv, ↓ev_fro, ↓ev_topv, ↓ev_topo, ↓ev_frl, ↓ev_frd, ↓ev_odv, ↓ev_odn, ↓ev_fiv, ↓ev_fin, ↓ev_Op, ↓ev_Un, ↓ev_UL, ↓ev_Bb, ↓ev_Tst, ↓ev_AndT, ↓ev_OrT, ↓ev_NotT, ↓ev_And, ↓ev_Or, ↓ev_Not, ↓ev_IfE, ↓ev_A0, ↓ev_Ac, ↓ev_Tup, ↓ev_Lst, ↓ev_Frz, ↓ev_Call, ↓ev_NoP, ↓ev_Part, ↓ev_Sl, ↓ev_SeqI, ↓ev_EnumI, ↓ev_Rng1, ↓ev_Rng2, ↓ev_nm, ↓ev_tp, ↓ev_tp0, ↓ev_tpc, ↓ev_Next, ↓ev_Seq, ↓ev_Break, ↓ev_Cont, ↓ev_Drop, ↓ev_Ret, ↓ev_RetN, ↓ev_If, ↓ev_Set, ↓ev_SetL, ↓ev_SetP, ↓ev_rhv, ↓ev_rho, ↓ev_Par, ↓ev_For, ↓ev_Comp, ↓ev_Yes, ↓ev_ownz, ↓ev_owns, ↓ev_Append, ↓ev_Extend, ↓ev_Pop, ↓ev_PopAt, ↓ev_SetIx, ↓ev_wi0, ↓ev_wic, ↓ev_re0, ↓ev_rec, ↓ev_kvn, ↓ev_kvv, ↓ev_kvo, ↓ev_kvs, ↓ev_endrt, ↓ev_endnx, ↓ev_addi, ↓ev_addt, ↓ev_addl, ↓ev_adds, ↓ev_sub, ↓ev_muli, ↓ev_mull, ↓ev_mult, ↓ev_mod, ↓ev_div, ↓ev_pow, ↓ev_shl, ↓ev_cmp, ↓ev_lt, ↓ev_le, ↓ev_gt, ↓ev_ge, ↓ev_eqi, ↓ev_nei, ↓ev_eqs, ↓ev_nes, ↓ev_eqtt, ↓ev_eqll, ↓ev_nett, ↓ev_nell, ↓ev_isN, ↓ev_notN, ↓ev_neg, ↓ev_ixt, ↓ev_ixl, ↓ev_ix0, ↓ev_ix1, ↓ev_ix2, ↓ev_slt, ↓ev_sll, ↓ev_lent, ↓ev_lenl, ↓ev_tupt, ↓ev_tupl, ↓ev_inti, ↓ev_intb, ↓ev_abs, ↓ev_listt, ↓ev_listl, ↓ev_repr, ↓ev_Rev, ↓ev_isA, ↓ev_ndt, ↓ev_ndl, ↓ev_ndi, ↓ev_ndb, ↓ev_nds, ↓ev_ndn, ↓ev_iatt, ↓ev_iail, ↓ev_iaii, ↓ev_iabi, ↓ev_iaib, ↓ev_iabb, ↓ev_iass, ↓ev_iain, ↓ev_iain0, ↓ev_iatn0, ↓ev_Chain, ↓ev_Rng3, ↓asZip_l, ↓asZip_t, ↓ev_Zip, ↓ev_Rg1, ↓ev_Rg2, ↓ev_LstRg, ↓ev_TupRg, ↓ev_min2, ↓ev_max2, ↓ev_nnn, ↓ev_nni, ↓ev_nnt, ↓ev_nnl, ↓ev_nns, ↓ev_nnb, ↓ev_OpL, ↓ev_cat, ↓ev_rep, ↓ev_elrt, ↓ev_draw, ↓ev_ownDz, ↓ev_ownDs, ↓ev_DPut, ↓ev_newD, ↓ev_disp1, ↓ev_ParL, ↓ev_R0, ↓ev_Rc, ↓ev_sls0, ↓ev_slsc, ↓ev_inl, ↓ev_int, ↓ev_ind, ↓ev_ninl, ↓ev_nint, ↓ev_nind, ↓ev_getD, ↓ev_listD, ↓ev_dictC, ↓ev_keyi, ↓ev_keys, ↓ev_IfT, ↓ev_Index, ↓asTup_e, ↓ev_RevT, ↓ev_Remove, ↓ev_isB, ↓ev_notB, ↓ev_Count, ↓ev_nox, ↓ev_CallX, ↓ev_Raise, ↓ev_Try1, ↓ev_Err, ↓ev_IfC, ↓ev_wrt, ↓ev_wnx, ↓ev_ExtendT, ↓ev_ZipLT, ↓ev_ZipTL, ↓ev_SortSet, ↓ev_ZipTX, ↓ev_OrV, ↓ev_mulE, ↓ev_mulEl, ↓ev_mulEi, ↓ev_reprE, ↓ev_boolI, ↓ev_strI, ↓ev_ia_tuple_bl, ↓ev_ia_tuple_int, ↓ev_ia_tuple_str, ↓ev_ia_tuple_lst, ↓ev_ia_tuple_dct, ↓ev_ia_int_str, ↓ev_ia_int_lst, ↓ev_ia_int_dct, ↓ev_ia_str_non, ↓ev_ia_str_bl, ↓ev_ia_str_int, ↓ev_ia_str_tup, ↓ev_ia_str_lst, ↓ev_ia_str_dct, ↓ev_ia_bool_non, ↓ev_ia_bool_str, ↓ev_ia_bool_tup, ↓ev_ia_bool_lst, ↓ev_ia_bool_dct, ↓ev_ia_list_non, ↓ev_ia_list_bl, ↓ev_ia_list_int, ↓ev_ia_list_str, ↓ev_ia_list_tup, ↓ev_ia_list_dct, ↓ev_ia_dict_non, ↓ev_ia_dict_bl, ↓ev_ia_dict_int, ↓ev_ia_dict_str, ↓ev_ia_dict_tup, ↓ev_ia_dict_lst, ↓ev_ia_dict_dct, ↓ev_Told, ↓asDK_e, ↓ev_Chain3, ↓List.set_cons_zero, ↓List.set_cons_succ, ↓exists_eq_left', List.length_cons, List.length_nil, Nat.reduceAdd, Nat.reduceLeDiff, true_and, and_true, decide_true, decide_false, Bool.not_true, Bool.not_false, List.nil_append])
local macro_rules | `(tactic| walk_at "e") => `(tactic| simp only [↓getS_z, ↓getS_s, ↓asBl_e, ↓asInt_e, ↓asLst_e, ↓asSeq_l, ↓asSeq_t, ↓ifK_t, ↓ifK_f, ↓ev_C, ↓ev_Var, ↓ev_frv, ↓ev_fro, ↓ev_topv, ↓ev_topo, ↓ev_frl, ↓ev_frd, ↓ev_odv, ↓ev_odn, ↓ev_fiv, ↓ev_fin, ↓ev_Op, ↓ev_Un, ↓ev_UL, ↓ev_Bb, ↓ev_Tst, ↓ev_AndT, ↓ev_OrT, ↓ev_NotT, ↓ev_And, ↓ev_Or, ↓ev_Not, ↓ev_IfE, ↓ev_A0, ↓ev_Ac, ↓ev_Tup, ↓ev_Lst, ↓ev_Frz, ↓ev_NoP, ↓ev_Part, ↓ev_Sl, ↓ev_SeqI, ↓ev_EnumI, ↓ev_Rng1, ↓ev_Rng2, ↓ev_nm, ↓ev_tp, ↓ev_tp0, ↓ev_tpc, ↓ev_Next, ↓ev_Seq, ↓ev_Break, ↓ev_Cont, ↓ev_Drop, ↓ev_Ret, ↓ev_RetN, ↓ev_If, ↓ev_Set, ↓ev_SetL, ↓ev_SetP, ↓ev_rhv, ↓ev_rho, ↓ev_Par, ↓ev_For, ↓ev_Yes, ↓ev_ownz, ↓ev_owns, ↓ev_Append, ↓ev_Extend, ↓ev_Pop, ↓ev_PopAt, ↓ev_SetIx, ↓ev_wi0, ↓ev_wic, ↓ev_re0, ↓ev_rec, ↓ev_kvn, ↓ev_kvv, ↓ev_kvo, ↓ev_kvs, ↓ev_endrt, ↓ev_endnx, ↓ev_addi, ↓ev_addt, ↓ev_addl, ↓ev_adds, ↓ev_sub, ↓ev_muli, ↓ev_mull, ↓ev_mult, ↓ev_mod, ↓ev_div, ↓ev_pow, ↓ev_shl, ↓ev_cmp, ↓ev_lt, ↓ev_le, ↓ev_gt, ↓ev_ge, ↓ev_eqi, ↓ev_nei, ↓ev_eqs, ↓ev_nes, ↓ev_eqtt, ↓ev_eqll, ↓ev_nett, ↓ev_nell, ↓ev_isN, ↓ev_notN, ↓ev_neg, ↓ev_ixt, ↓ev_ixl, ↓ev_ix0, ↓ev_ix1, ↓ev_ix2, ↓ev_slt, ↓ev_sll, ↓ev_lent, ↓ev_lenl, ↓ev_tupt, ↓ev_tupl, ↓ev_inti, ↓ev_intb, ↓ev_abs, ↓ev_listt, ↓ev_listl, ↓ev_repr, ↓ev_Rev, ↓ev_isA, ↓ev_ndt, ↓ev_ndl, ↓ev_ndi, ↓ev_ndb, ↓ev_nds, ↓ev_ndn, ↓ev_iatt, ↓ev_iail, ↓ev_iaii, ↓ev_iabi, ↓ev_iaib, ↓ev_iabb, ↓ev_iass, ↓ev_iain, ↓ev_iain0, ↓ev_iatn0, ↓ev_Chain, ↓ev_Rng3, ↓asZip_l, ↓asZip_t, ↓ev_Zip, ↓ev_Rg1, ↓ev_Rg2, ↓ev_LstRg, ↓ev_TupRg, ↓ev_min2, ↓ev_max2, ↓ev_nnn, ↓ev_nni, ↓ev_nnt, ↓ev_nnl, ↓ev_nns, ↓ev_nnb, ↓ev_OpL, ↓ev_cat, ↓ev_rep, ↓ev_elrt, ↓evk_Comp, ↓evk_KC, ↓evk_Call, ↓evk_draw, ↓ev_ownDz, ↓ev_ownDs, ↓ev_DPut, ↓ev_newD, ↓ev_disp1, ↓ev_ParL, ↓ev_R0, ↓ev_Rc, ↓ev_sls0, ↓ev_slsc, ↓ev_inl, ↓ev_int, ↓ev_ind, ↓ev_ninl, ↓ev_nint, ↓ev_nind, ↓ev_getD, ↓ev_listD, ↓ev_dictC, ↓ev_keyi, ↓ev_keys, ↓ev_IfT, ↓ev_Index, ↓asTup_e, ↓ev_RevT, ↓ev_Remove, ↓ev_isB, ↓ev_notB, ↓ev_Count, ↓ev_nox, ↓ev_CallX, ↓ev_Raise, ↓ev_Try1, ↓ev_Err, ↓ev_IfC, ↓ev_wrt, ↓ev_wnx, ↓ev_ExtendT, ↓ev_ZipLT, ↓ev_ZipTL, ↓ev_SortSet, ↓ev_ZipTX, ↓evk_CompO, ↓evk_KCO, ↓ev_OrV, ↓ev_mulE, ↓ev_mulEl, ↓ev_mulEi, ↓ev_reprE, ↓ev_boolI, ↓ev_strI, ↓ev_ia_tuple_bl, ↓ev_ia_tuple_int, ↓ev_ia_tuple_str, ↓ev_ia_tuple_lst, ↓ev_ia_tuple_dct, ↓ev_ia_int_str, ↓ev_ia_int_lst, ↓ev_ia_int_dct, ↓ev_ia_str_non, ↓ev_ia_str_bl, ↓ev_ia_str_int, ↓ev_ia_str_tup, ↓ev_ia_str_lst, ↓ev_ia_str_dct, ↓ev_ia_bool_non, ↓ev_ia_bool_str, ↓ev_ia_bool_tup, ↓ev_ia_bool_lst, ↓ev_ia_bool_dct, ↓ev_ia_list_non, ↓ev_ia_list_bl, ↓ev_ia_list_int, ↓ev_ia_list_str, ↓ev_ia_list_tup, ↓ev_ia_list_dct, ↓ev_ia_dict_non, ↓ev_ia_dict_bl, ↓ev_ia_dict_int, ↓ev_ia_dict_str, ↓ev_ia_dict_tup, ↓ev_ia_dict_lst, ↓ev_ia_dict_dct, ↓ev_Told, ↓asDK_e, ↓evk_CompK, ↓ev_Chain3, ↓List.set_cons_zero, ↓List.set_cons_succ, ↓exists_eq_left', List.length_cons, List.length_nil, Nat.reduceAdd, Nat.reduceLeDiff, true_and, and_true, decide_true, decide_false, Bool.not_true, Bool.not_false, List.nil_append])
namespace DL
end DL
namespace DL
end DL
namespace DL
def S2 : List Int → List Int
  | [] => [0]
  | x :: xs => S2 xs ++ (S2 xs).map (· + x)
theorem S2_cons {t x : Int} {xs : List Int} : t ∈ S2 (x :: xs) ↔ t ∈ S2 xs ∨ t - x ∈ S2 xs := by
  show t ∈ S2 xs ++ (S2 xs).map (· + x) ↔ _
  rw [List.mem_append, List.mem_map]
  constructor
  · rintro (h | ⟨a, h, rfl⟩)
    · exact .inl h
    · exact .inr (by rw [show a + x - x = a by omega]; exact h)
  · rintro (h | h)
    · exact .inl h
    · exact .inr ⟨_, h, by omega⟩
theorem S2_perm {xs ys : List Int} (h : xs.Perm ys) : ∀ t, t ∈ S2 xs ↔ t ∈ S2 ys := by
  induction h with
  | nil => exact fun t => Iff.rfl
  | cons x _ ih => exact fun t => by rw [S2_cons, S2_cons, ih, ih]
  | swap x y l =>
    intro t
    rw [S2_cons, S2_cons, S2_cons, S2_cons, S2_cons, S2_cons, show t - y - x = t - x - y by omega]
    constructor <;> rintro ((h | h) | (h | h)) <;> simp [h]
  | trans _ _ ih1 ih2 => exact fun t => (ih1 t).trans (ih2 t)
end DL
open PySem PySem.Spec PyProof.Rows L2 DL
local macro_rules | `(tactic| walk_at "d") => `(tactic| simp only [↓getS_z, ↓getS_s, ↓asBl_e, ↓asInt_e, ↓asLst_e, ↓asSeq_l, ↓asSeq_t, ↓ifK_t, ↓ifK_f, ↓ev_C, ↓ev_Var, ↓ev_frv, ↓ev_fro, ↓ev_topv, ↓ev_topo, ↓ev_frl, ↓ev_frd, ↓ev_odv, ↓ev_odn, ↓ev_fiv, ↓ev_fin, ↓ev_Op, ↓ev_Un, ↓ev_UL, ↓ev_Bb, ↓ev_Tst, ↓ev_AndT, ↓ev_OrT, ↓ev_NotT, ↓ev_And, ↓ev_Or, ↓ev_Not, ↓ev_IfE, ↓ev_A0, ↓ev_Ac, ↓ev_Tup, ↓ev_Lst, ↓ev_Frz, ↓ev_Call, ↓ev_NoP, ↓ev_Part, ↓ev_Sl, ↓ev_SeqI, ↓ev_EnumI, ↓ev_Rng1, ↓ev_Rng2, ↓ev_nm, ↓ev_tp, ↓ev_tp0, ↓ev_tpc, ↓ev_Next, ↓ev_Seq, ↓ev_Break, ↓ev_Cont, ↓ev_Drop, ↓ev_Ret, ↓ev_RetN, ↓ev_If, ↓ev_Set, ↓ev_SetL, ↓ev_SetP, ↓ev_rhv, ↓ev_rho, ↓ev_Par, ↓ev_For, ↓ev_Comp, ↓ev_Yes, ↓ev_ownz, ↓ev_owns, ↓ev_Append, ↓ev_Extend, ↓ev_Pop, ↓ev_PopAt, ↓ev_SetIx, ↓ev_wi0, ↓ev_wic, ↓ev_re0, ↓ev_rec, ↓ev_kvn, ↓ev_kvv, ↓ev_kvo, ↓ev_kvs, ↓ev_endrt, ↓ev_endnx, ↓ev_addi, ↓ev_addt, ↓ev_addl, ↓ev_adds, ↓ev_sub, ↓ev_muli, ↓ev_mull, ↓ev_mult, ↓ev_mod, ↓ev_div, ↓ev_pow, ↓ev_shl, ↓ev_cmp, ↓ev_lt, ↓ev_le, ↓ev_gt, ↓ev_ge, ↓ev_eqi, ↓ev_nei, ↓ev_eqs, ↓ev_nes, ↓ev_eqtt, ↓ev_eqll, ↓ev_nett, ↓ev_nell, ↓ev_isN, ↓ev_notN, ↓ev_neg, ↓ev_ixt, ↓ev_ixl, ↓ev_ix0, ↓ev_ix1, ↓ev_ix2, ↓ev_slt, ↓ev_sll, ↓ev_lent, ↓ev_lenl, ↓ev_tupt, ↓ev_tupl, ↓ev_inti, ↓ev_intb, ↓ev_abs, ↓ev_listt, ↓ev_listl, ↓ev_repr, ↓ev_Rev, ↓ev_isA, ↓ev_ndt, ↓ev_ndl, ↓ev_ndi, ↓ev_ndb, ↓ev_nds, ↓ev_ndn, ↓ev_iatt, ↓ev_iail, ↓ev_iaii, ↓ev_iabi, ↓ev_iaib, ↓ev_iabb, ↓ev_iass, ↓ev_iain, ↓ev_iain0, ↓ev_iatn0, ↓ev_Chain, ↓ev_Rng3, ↓asZip_l, ↓asZip_t, ↓ev_Zip, ↓ev_Rg1, ↓ev_Rg2, ↓ev_LstRg, ↓ev_TupRg, ↓ev_min2, ↓ev_max2, ↓ev_nnn, ↓ev_nni, ↓ev_nnt, ↓ev_nnl, ↓ev_nns, ↓ev_nnb, ↓ev_OpL, ↓ev_cat, ↓ev_rep, ↓ev_elrt, ↓ev_draw, ↓ev_ownDz, ↓ev_ownDs, ↓ev_DPut, ↓ev_newD, ↓ev_disp1, ↓ev_ParL, ↓ev_R0, ↓ev_Rc, ↓ev_sls0, ↓ev_slsc, ↓ev_inl, ↓ev_int, ↓ev_ind, ↓ev_ninl, ↓ev_nint, ↓ev_nind, ↓ev_getD, ↓ev_listD, ↓ev_dictC, ↓ev_keyi, ↓ev_keys, ↓ev_IfT, ↓ev_Index, ↓asTup_e, ↓ev_RevT, ↓ev_Remove, ↓ev_isB, ↓ev_notB, ↓ev_Count, ↓ev_nox, ↓ev_CallX, ↓ev_Raise, ↓ev_Try1, ↓ev_Err, ↓ev_IfC, ↓ev_wrt, ↓ev_wnx, ↓ev_ExtendT, ↓ev_ZipLT, ↓ev_ZipTL, ↓ev_SortSet, ↓ev_ZipTX, ↓ev_OrV, ↓ev_mulE, ↓ev_mulEl, ↓ev_mulEi, ↓ev_reprE, ↓ev_boolI, ↓ev_strI, ↓ev_ia_tuple_bl, ↓ev_ia_tuple_int, ↓ev_ia_tuple_str, ↓ev_ia_tuple_lst, ↓ev_ia_tuple_dct, ↓ev_ia_int_str, ↓ev_ia_int_lst, ↓ev_ia_int_dct, ↓ev_ia_str_non, ↓ev_ia_str_bl, ↓ev_ia_str_int, ↓ev_ia_str_tup, ↓ev_ia_str_lst, ↓ev_ia_str_dct, ↓ev_ia_bool_non, ↓ev_ia_bool_str, ↓ev_ia_bool_tup, ↓ev_ia_bool_lst, ↓ev_ia_bool_dct, ↓ev_ia_list_non, ↓ev_ia_list_bl, ↓ev_ia_list_int, ↓ev_ia_list_str, ↓ev_ia_list_tup, ↓ev_ia_list_dct, ↓ev_ia_dict_non, ↓ev_ia_dict_bl, ↓ev_ia_dict_int, ↓ev_ia_dict_str, ↓ev_ia_dict_tup, ↓ev_ia_dict_lst, ↓ev_ia_dict_dct, ↓ev_Told, ↓asDK_e, ↓ev_Chain3, ↓ev_SortK, ↓List.set_cons_zero, ↓List.set_cons_succ, ↓exists_eq_left', List.length_cons, List.length_nil, Nat.reduceAdd, Nat.reduceLeDiff, true_and, and_true, decide_true, decide_false, Bool.not_true, Bool.not_false, List.nil_append])
local macro_rules | `(tactic| walk_at "e") => `(tactic| simp only [↓getS_z, ↓getS_s, ↓asBl_e, ↓asInt_e, ↓asLst_e, ↓asSeq_l, ↓asSeq_t, ↓ifK_t, ↓ifK_f, ↓ev_C, ↓ev_Var, ↓ev_frv, ↓ev_fro, ↓ev_topv, ↓ev_topo, ↓ev_frl, ↓ev_frd, ↓ev_odv, ↓ev_odn, ↓ev_fiv, ↓ev_fin, ↓ev_Op, ↓ev_Un, ↓ev_UL, ↓ev_Bb, ↓ev_Tst, ↓ev_AndT, ↓ev_OrT, ↓ev_NotT, ↓ev_And, ↓ev_Or, ↓ev_Not, ↓ev_IfE, ↓ev_A0, ↓ev_Ac, ↓ev_Tup, ↓ev_Lst, ↓ev_Frz, ↓ev_NoP, ↓ev_Part, ↓ev_Sl, ↓ev_SeqI, ↓ev_EnumI, ↓ev_Rng1, ↓ev_Rng2, ↓ev_nm, ↓ev_tp, ↓ev_tp0, ↓ev_tpc, ↓ev_Next, ↓ev_Seq, ↓ev_Break, ↓ev_Cont, ↓ev_Drop, ↓ev_Ret, ↓ev_RetN, ↓ev_If, ↓ev_Set, ↓ev_SetL, ↓ev_SetP, ↓ev_rhv, ↓ev_rho, ↓ev_Par, ↓ev_For, ↓ev_Yes, ↓ev_ownz, ↓ev_owns, ↓ev_Append, ↓ev_Extend, ↓ev_Pop, ↓ev_PopAt, ↓ev_SetIx, ↓ev_wi0, ↓ev_wic, ↓ev_re0, ↓ev_rec, ↓ev_kvn, ↓ev_kvv, ↓ev_kvo, ↓ev_kvs, ↓ev_endrt, ↓ev_endnx, ↓ev_addi, ↓ev_addt, ↓ev_addl, ↓ev_adds, ↓ev_sub, ↓ev_muli, ↓ev_mull, ↓ev_mult, ↓ev_mod, ↓ev_div, ↓ev_pow, ↓ev_shl, ↓ev_cmp, ↓ev_lt, ↓ev_le, ↓ev_gt, ↓ev_ge, ↓ev_eqi, ↓ev_nei, ↓ev_eqs, ↓ev_nes, ↓ev_eqtt, ↓ev_eqll, ↓ev_nett, ↓ev_nell, ↓ev_isN, ↓ev_notN, ↓ev_neg, ↓ev_ixt, ↓ev_ixl, ↓ev_ix0, ↓ev_ix1, ↓ev_ix2, ↓ev_slt, ↓ev_sll, ↓ev_lent, ↓ev_lenl, ↓ev_tupt, ↓ev_tupl, ↓ev_inti, ↓ev_intb, ↓ev_abs, ↓ev_listt, ↓ev_listl, ↓ev_repr, ↓ev_Rev, ↓ev_isA, ↓ev_ndt, ↓ev_ndl, ↓ev_ndi, ↓ev_ndb, ↓ev_nds, ↓ev_ndn, ↓ev_iatt, ↓ev_iail, ↓ev_iaii, ↓ev_iabi, ↓ev_iaib, ↓ev_iabb, ↓ev_iass, ↓ev_iain, ↓ev_iain0, ↓ev_iatn0, ↓ev_Chain, ↓ev_Rng3, ↓asZip_l, ↓asZip_t, ↓ev_Zip, ↓ev_Rg1, ↓ev_Rg2, ↓ev_LstRg, ↓ev_TupRg, ↓ev_min2, ↓ev_max2, ↓ev_nnn, ↓ev_nni, ↓ev_nnt, ↓ev_nnl, ↓ev_nns, ↓ev_nnb, ↓ev_OpL, ↓ev_cat, ↓ev_rep, ↓ev_elrt, ↓evk_Comp, ↓evk_KC, ↓evk_Call, ↓evk_draw, ↓ev_ownDz, ↓ev_ownDs, ↓ev_DPut, ↓ev_newD, ↓ev_disp1, ↓ev_ParL, ↓ev_R0, ↓ev_Rc, ↓ev_sls0, ↓ev_slsc, ↓ev_inl, ↓ev_int, ↓ev_ind, ↓ev_ninl, ↓ev_nint, ↓ev_nind, ↓ev_getD, ↓ev_listD, ↓ev_dictC, ↓ev_keyi, ↓ev_keys, ↓ev_IfT, ↓ev_Index, ↓asTup_e, ↓ev_RevT, ↓ev_Remove, ↓ev_isB, ↓ev_notB, ↓ev_Count, ↓ev_nox, ↓ev_CallX, ↓ev_Raise, ↓ev_Try1, ↓ev_Err, ↓ev_IfC, ↓ev_wrt, ↓ev_wnx, ↓ev_ExtendT, ↓ev_ZipLT, ↓ev_ZipTL, ↓ev_SortSet, ↓ev_ZipTX, ↓evk_CompO, ↓evk_KCO, ↓ev_OrV, ↓ev_mulE, ↓ev_mulEl, ↓ev_mulEi, ↓ev_reprE, ↓ev_boolI, ↓ev_strI, ↓ev_ia_tuple_bl, ↓ev_ia_tuple_int, ↓ev_ia_tuple_str, ↓ev_ia_tuple_lst, ↓ev_ia_tuple_dct, ↓ev_ia_int_str, ↓ev_ia_int_lst, ↓ev_ia_int_dct, ↓ev_ia_str_non, ↓ev_ia_str_bl, ↓ev_ia_str_int, ↓ev_ia_str_tup, ↓ev_ia_str_lst, ↓ev_ia_str_dct, ↓ev_ia_bool_non, ↓ev_ia_bool_str, ↓ev_ia_bool_tup, ↓ev_ia_bool_lst, ↓ev_ia_bool_dct, ↓ev_ia_list_non, ↓ev_ia_list_bl, ↓ev_ia_list_int, ↓ev_ia_list_str, ↓ev_ia_list_tup, ↓ev_ia_list_dct, ↓ev_ia_dict_non, ↓ev_ia_dict_bl, ↓ev_ia_dict_int, ↓ev_ia_dict_str, ↓ev_ia_dict_tup, ↓ev_ia_dict_lst, ↓ev_ia_dict_dct, ↓ev_Told, ↓asDK_e, ↓evk_CompK, ↓ev_Chain3, ↓ev_SortK, ↓List.set_cons_zero, ↓List.set_cons_succ, ↓exists_eq_left', List.length_cons, List.length_nil, Nat.reduceAdd, Nat.reduceLeDiff, true_and, and_true, decide_true, decide_false, Bool.not_true, Bool.not_false, List.nil_append])
namespace DL
theorem ES.sums {R : Nat} {T : List Int} {F : Nat → Int → Int → Int} : ∀ {k : Nat}, (∀ j, j < k → ES R T (F j)) → ES R T (fun d n => sumN (fun j => F j d n) k)
  | 0, _ => ES.of (fun d n => by rfl) ES.zero
  | k + 1, h => ES.of (fun d n => by rfl) (ES.add (ES.sums (k := k) fun j hj => h j (by omega)) (h k (by omega)))
theorem InK.cyc {R : Nat} {u : Int → Int} (h : InK R u) (s : Int) : ∀ q : Nat, InK R (fun n => cyc q s u n)
  | 0 => InK.zero R
  | q + 1 => by
    have := (InK.cyc h s q).add (h.shift ((q : Int) * s))
    exact this
def gI (R : Nat) (u : Int → Int) (p : Int × Int) (d n : Int) : Int := cyc p.1.toNat (-((d - p.2) * ((R : Int) / p.1))) u n
theorem gI_val {R : Nat} {u : Int → Int} (hu : InK R u) (hR : 0 < R) {p : Int × Int} (hp : 0 < p.1) (hd : p.1 ∣ (R : Int)) (d n : Int) : ((R : Int) / p.1) * gI R u p d n = if p.1 ∣ d - p.2 then (R : Int) * u n else 0 := by
  obtain ⟨w, hw⟩ := hd
  have hwq : (R : Int) / p.1 = w := by rw [hw]; exact Int.mul_ediv_cancel_left _ (by omega)
  have htn : ((p.1.toNat : Nat) : Int) = p.1 := Int.toNat_of_nonneg (by omega)
  unfold gI
  rw [hwq]
  split
  · rename_i c
    obtain ⟨k, hk⟩ := c
    unfold DL.cyc
    rw [sumN_congr (g := fun _ => u n) fun j _ => hu.per.dvd ⟨-(k * j), by rw [hk, hw, Int.mul_neg, Int.mul_neg]; simp only [Int.mul_assoc, Int.mul_comm, Int.mul_left_comm]; omega⟩, sumN_const, htn, hw]
    simp only [Int.mul_assoc, Int.mul_comm, Int.mul_left_comm]
  · rename_i c
    rw [(hu.cyc _ p.1.toNat).inj hR (k := -((d - p.2) * w)) (fun h => c ?_) (fun n => ?_) n, Int.mul_zero]
    · rw [Int.dvd_neg, hw, Int.mul_comm p.1, Int.mul_comm (d - p.2)] at h
      exact Int.dvd_of_mul_dvd_mul_left (by rintro rfl; rw [Int.mul_zero] at hw; omega) h
    · refine cyc_step (fun n => ?_) n
      refine hu.per.dvd ⟨-(d - p.2), ?_⟩
      rw [htn, hw, Int.mul_neg, Int.mul_neg]; simp only [Int.mul_assoc, Int.mul_comm, Int.mul_left_comm]; omega
theorem gI_ES {R : Nat} {u : Int → Int} (hu : Per R u) {T : List Int} {p : Int × Int} (hp : 0 < p.1) (hT : ∀ j : Nat, (j : Int) < p.1 → ∃ s ∈ T, (R : Int) ∣ (j : Int) * ((R : Int) / p.1) - s) : ES R T (gI R u p) := by
  refine ES.of (fun d n => ?_) (ES.sums (k := p.1.toNat) (F := fun j d n => (fun x => u (x + p.2 * ((j : Int) * ((R : Int) / p.1)))) (n - d * ((j : Int) * ((R : Int) / p.1)))) fun j hj => ES.one (A := fun x => u (x + p.2 * ((j : Int) * ((R : Int) / p.1)))) (fun x => ?_) (hT j (by omega)))
  · unfold gI DL.cyc
    refine sumN_congr fun j _ => ?_
    show u _ = u _
    congr 1
    rw [Int.mul_neg, Int.sub_mul, Int.mul_sub, Int.mul_left_comm d, Int.mul_left_comm p.2]
    omega
  · show u (x + R + _) = u (x + _)
    rw [show x + (R : Int) + p.2 * ((j : Int) * ((R : Int) / p.1)) = x + p.2 * ((j : Int) * ((R : Int) / p.1)) + R by omega, hu]
def gL (R : Nat) (u : Int → Int) : List (Int × Int) → Int → Int → Int
  | [], _, _ => 0
  | p :: l, d, n => ((R : Int) / p.1) * gI R u p d n + gL R u l d n
theorem gL_val {R : Nat} {u : Int → Int} (hu : InK R u) (hR : 0 < R) (d n : Int) : ∀ {l : List (Int × Int)}, (∀ p ∈ l, 0 < p.1 ∧ p.1 ∣ (R : Int)) → gL R u l d n = (R : Int) * u n * tally l d
  | [], _ => by show (0 : Int) = _ * ((0 : Nat) : Int); simp
  | p :: l, h => by
    have ih := gL_val hu hR d n (l := l) fun q hq => h q (.tail _ hq)
    show ((R : Int) / p.1) * gI R u p d n + gL R u l d n = _
    rw [ih, gI_val hu hR (h p (.head _)).1 (h p (.head _)).2]
    have e := tally_append [p] l d
    rw [List.singleton_append] at e
    rw [e, Int.natCast_add, Int.mul_add]
    congr 1
    have hp := tally_pos' (l := [p]) (d := d)
    have hle := tally_le [p] d
    split
    · rename_i c
      have : tally [p] d ≠ 0 := hp.mpr ⟨p, by simp, c⟩
      simp at hle
      rw [show tally [p] d = 1 by omega]; simp
    · rename_i c
      have : tally [p] d = 0 := by
        refine Classical.byContradiction fun k => c ?_
        obtain ⟨q, hq, hd⟩ := hp.mp k
        rw [List.mem_singleton.mp hq] at hd; exact hd
      rw [this]; simp
theorem gL_ES {R : Nat} {u : Int → Int} (hu : Per R u) {T : List Int} : ∀ {l : List (Int × Int)}, (∀ p ∈ l, 0 < p.1 ∧ ∀ j : Nat, (j : Int) < p.1 → ∃ s ∈ T, (R : Int) ∣ (j : Int) * ((R : Int) / p.1) - s) → ES R T (gL R u l)
  | [], _ => ES.zero
  | p :: l, h => ES.of (fun d n => by rfl) (ES.add (ES.mul ((R : Int) / p.1) (gI_ES hu (h p (.head _)).1 (h p (.head _)).2)) (gL_ES hu (l := l) fun q hq => h q (.tail _ hq)))
theorem part_all {R : Nat} (hR : 0 < R) {l m : List (Int × Int)} (hl : ∀ p ∈ l ++ m, 0 < p.1 ∧ p.1 ∣ (R : Int)) {T : List Int} (hT : ∀ p ∈ l ++ m, ∀ j : Nat, (j : Int) < p.1 → (j : Int) * ((R : Int) / p.1) ∈ T) {b : Int} (h : ∀ i : Nat, i < T.length → tally l (b + i) = tally m (b + i)) (d : Int) : tally l d = tally m d := by
  obtain ⟨u, hu, hu0⟩ := exK hR
  have hl1 : ∀ p ∈ l, 0 < p.1 ∧ p.1 ∣ (R : Int) := fun p hp => hl p (by simp [hp])
  have hm1 : ∀ p ∈ m, 0 < p.1 ∧ p.1 ∣ (R : Int) := fun p hp => hl p (by simp [hp])
  have e1 : ES R T (gL R u l) := gL_ES hu.per fun p hp => ⟨(hl1 p hp).1, fun j hj => ⟨_, hT p (by simp [hp]) j hj, by rw [Int.sub_self]; exact Int.dvd_zero _⟩⟩
  have e2 : ES R T (gL R u m) := gL_ES hu.per fun p hp => ⟨(hm1 p hp).1, fun j hj => ⟨_, hT p (by simp [hp]) j hj, by rw [Int.sub_self]; exact Int.dvd_zero _⟩⟩
  have h0 := ES.all (b := b) (ES.sub e1 e2) (fun i hi n => by
    show gL R u l (b + i) n - gL R u m (b + i) n = 0
    rw [gL_val hu hR _ _ hl1, gL_val hu hR _ _ hm1, h i hi, Int.sub_self]) d 0
  rw [gL_val hu hR _ _ hl1, gL_val hu hR _ _ hm1, ← Int.mul_sub] at h0
  rcases Int.mul_eq_zero.mp h0 with c | c
  · rcases Int.mul_eq_zero.mp c with c | c
    · omega
    · exact absurd c hu0
  · omega
end DL
namespace DL
def IsFr (l : List (Int × Int)) (ys : List Int) : Prop := ys.Pairwise (· < ·) ∧ ∀ y, y ∈ ys ↔ ∃ p ∈ l, ∃ j : Nat, (j : Int) < p.1 ∧ y = (j : Int) * (lcmL l / p.1)
end DL
namespace DL
end DL
namespace DL
end DL
namespace DL
end DL
namespace DL
end DL
namespace DL
def IsPart (l m : List (Int × Int)) (r : D) : Prop := (r = .non ∧ ∀ d, tally l d = tally m d) ∨ ∃ n : Nat, r = .int n ∧ n < 60 * (l.length + m.length) ∧ tally l n ≠ tally m n ∧ ∀ i : Nat, i < n → tally l i = tally m i
theorem IsPart.isNon {l m : List (Int × Int)} {r : D} (h : IsPart l m r) : r.isNon = true ↔ ∀ d, tally l d = tally m d := by
  rcases h with ⟨rfl, h⟩ | ⟨n, rfl, _, h1, h2⟩
  · exact ⟨fun _ => h, fun _ => rfl⟩
  · exact ⟨fun z => (nomatch z), fun h => absurd (h n) h1⟩
theorem IsPart.of {l m : List (Int × Int)} (hl : IsLp l) (hm : IsLp m) {ys : List Int} (hy : IsFr (l ++ m) ys) (h : ∀ i : Nat, i < ys.length → tally l i = tally m i) (d : Int) : tally l d = tally m d := by
  have hlm : ∀ p ∈ l ++ m, 0 < p.1 := fun p hp => (List.mem_append.mp hp).elim (fun h => hl.pos p h) fun h => hm.pos p h
  have hR := lcmL_pos hlm
  obtain ⟨R, hRe⟩ := Int.eq_ofNat_of_zero_le (Int.le_of_lt hR)
  refine part_all (R := R) (b := 0) (T := ys) (by omega) (fun p hp => ⟨hlm p hp, by rw [← hRe]; exact dvd_lcmL hlm p hp⟩) (fun p hp j hj => ?_) (fun i hi => by rw [Int.zero_add]; exact h i hi) d
  rw [hy.2, hRe]
  exact ⟨p, hp, j, hj, rfl⟩
end DL
namespace DL
end DL
open PySem PySem.Spec PyProof.Rows L2 DL
local macro_rules | `(tactic| walk_at "d") => `(tactic| simp only [↓getS_z, ↓getS_s, ↓asBl_e, ↓asInt_e, ↓asLst_e, ↓asSeq_l, ↓asSeq_t, ↓ifK_t, ↓ifK_f, ↓ev_C, ↓ev_Var, ↓ev_frv, ↓ev_fro, ↓ev_topv, ↓ev_topo, ↓ev_frl, ↓ev_frd, ↓ev_odv, ↓ev_odn, ↓ev_fiv, ↓ev_fin, ↓ev_Op, ↓ev_Un, ↓ev_UL, ↓ev_Bb, ↓ev_Tst, ↓ev_AndT, ↓ev_OrT, ↓ev_NotT, ↓ev_And, ↓ev_Or, ↓ev_Not, ↓ev_IfE, ↓ev_A0, ↓ev_Ac, ↓ev_Tup, ↓ev_Lst, ↓ev_Frz, ↓ev_Call, ↓ev_NoP, ↓ev_Part, ↓ev_Sl, ↓ev_SeqI, ↓ev_EnumI, ↓ev_Rng1, ↓ev_Rng2, ↓ev_nm, ↓ev_tp, ↓ev_tp0, ↓ev_tpc, ↓ev_Next, ↓ev_Seq, ↓ev_Break, ↓ev_Cont, ↓ev_Drop, ↓ev_Ret, ↓ev_RetN, ↓ev_If, ↓ev_Set, ↓ev_SetL, ↓ev_SetP, ↓ev_rhv, ↓ev_rho, ↓ev_Par, ↓ev_For, ↓ev_Comp, ↓ev_Yes, ↓ev_ownz, ↓ev_owns, ↓ev_Append, ↓ev_Extend, ↓ev_Pop, ↓ev_PopAt, ↓ev_SetIx, ↓ev_wi0, ↓ev_wic, ↓ev_re0, ↓ev_rec, ↓ev_kvn, ↓ev_kvv, ↓ev_kvo, ↓ev_kvs, ↓ev_endrt, ↓ev_endnx, ↓ev_addi, ↓ev_addt, ↓ev_addl, ↓ev_adds, ↓ev_sub, ↓ev_muli, ↓ev_mull, ↓ev_mult, ↓ev_mod, ↓ev_div, ↓ev_pow, ↓ev_shl, ↓ev_cmp, ↓ev_lt, ↓ev_le, ↓ev_gt, ↓ev_ge, ↓ev_eqi, ↓ev_nei, ↓ev_eqs, ↓ev_nes, ↓ev_eqtt, ↓ev_eqll, ↓ev_nett, ↓ev_nell, ↓ev_isN, ↓ev_notN, ↓ev_neg, ↓ev_ixt, ↓ev_ixl, ↓ev_ix0, ↓ev_ix1, ↓ev_ix2, ↓ev_slt, ↓ev_sll, ↓ev_lent, ↓ev_lenl, ↓ev_tupt, ↓ev_tupl, ↓ev_inti, ↓ev_intb, ↓ev_abs, ↓ev_listt, ↓ev_listl, ↓ev_repr, ↓ev_Rev, ↓ev_isA, ↓ev_ndt, ↓ev_ndl, ↓ev_ndi, ↓ev_ndb, ↓ev_nds, ↓ev_ndn, ↓ev_iatt, ↓ev_iail, ↓ev_iaii, ↓ev_iabi, ↓ev_iaib, ↓ev_iabb, ↓ev_iass, ↓ev_iain, ↓ev_iain0, ↓ev_iatn0, ↓ev_Chain, ↓ev_Rng3, ↓asZip_l, ↓asZip_t, ↓ev_Zip, ↓ev_Rg1, ↓ev_Rg2, ↓ev_LstRg, ↓ev_TupRg, ↓ev_min2, ↓ev_max2, ↓ev_nnn, ↓ev_nni, ↓ev_nnt, ↓ev_nnl, ↓ev_nns, ↓ev_nnb, ↓ev_OpL, ↓ev_cat, ↓ev_rep, ↓ev_elrt, ↓ev_draw, ↓ev_ownDz, ↓ev_ownDs, ↓ev_DPut, ↓ev_newD, ↓ev_disp1, ↓ev_ParL, ↓ev_R0, ↓ev_Rc, ↓ev_sls0, ↓ev_slsc, ↓ev_inl, ↓ev_int, ↓ev_ind, ↓ev_ninl, ↓ev_nint, ↓ev_nind, ↓ev_getD, ↓ev_listD, ↓ev_dictC, ↓ev_keyi, ↓ev_keys, ↓ev_IfT, ↓ev_Index, ↓asTup_e, ↓ev_RevT, ↓ev_Remove, ↓ev_isB, ↓ev_notB, ↓ev_Count, ↓ev_nox, ↓ev_CallX, ↓ev_Raise, ↓ev_Try1, ↓ev_Err, ↓ev_IfC, ↓ev_wrt, ↓ev_wnx, ↓ev_ExtendT, ↓ev_ZipLT, ↓ev_ZipTL, ↓ev_SortSet, ↓ev_ZipTX, ↓ev_OrV, ↓ev_mulE, ↓ev_mulEl, ↓ev_mulEi, ↓ev_reprE, ↓ev_boolI, ↓ev_strI, ↓ev_ia_tuple_bl, ↓ev_ia_tuple_int, ↓ev_ia_tuple_str, ↓ev_ia_tuple_lst, ↓ev_ia_tuple_dct, ↓ev_ia_int_str, ↓ev_ia_int_lst, ↓ev_ia_int_dct, ↓ev_ia_str_non, ↓ev_ia_str_bl, ↓ev_ia_str_int, ↓ev_ia_str_tup, ↓ev_ia_str_lst, ↓ev_ia_str_dct, ↓ev_ia_bool_non, ↓ev_ia_bool_str, ↓ev_ia_bool_tup, ↓ev_ia_bool_lst, ↓ev_ia_bool_dct, ↓ev_ia_list_non, ↓ev_ia_list_bl, ↓ev_ia_list_int, ↓ev_ia_list_str, ↓ev_ia_list_tup, ↓ev_ia_list_dct, ↓ev_ia_dict_non, ↓ev_ia_dict_bl, ↓ev_ia_dict_int, ↓ev_ia_dict_str, ↓ev_ia_dict_tup, ↓ev_ia_dict_lst, ↓ev_ia_dict_dct, ↓ev_Told, ↓asDK_e, ↓ev_Chain3, ↓ev_SortK, ↓asDT_e, ↓List.set_cons_zero, ↓List.set_cons_succ, ↓exists_eq_left', List.length_cons, List.length_nil, Nat.reduceAdd, Nat.reduceLeDiff, true_and, and_true, decide_true, decide_false, Bool.not_true, Bool.not_false, List.nil_append])
local macro_rules | `(tactic| walk_at "e") => `(tactic| simp only [↓getS_z, ↓getS_s, ↓asBl_e, ↓asInt_e, ↓asLst_e, ↓asSeq_l, ↓asSeq_t, ↓ifK_t, ↓ifK_f, ↓ev_C, ↓ev_Var, ↓ev_frv, ↓ev_fro, ↓ev_topv, ↓ev_topo, ↓ev_frl, ↓ev_frd, ↓ev_odv, ↓ev_odn, ↓ev_fiv, ↓ev_fin, ↓ev_Op, ↓ev_Un, ↓ev_UL, ↓ev_Bb, ↓ev_Tst, ↓ev_AndT, ↓ev_OrT, ↓ev_NotT, ↓ev_And, ↓ev_Or, ↓ev_Not, ↓ev_IfE, ↓ev_A0, ↓ev_Ac, ↓ev_Tup, ↓ev_Lst, ↓ev_Frz, ↓ev_NoP, ↓ev_Part, ↓ev_Sl, ↓ev_SeqI, ↓ev_EnumI, ↓ev_Rng1, ↓ev_Rng2, ↓ev_nm, ↓ev_tp, ↓ev_tp0, ↓ev_tpc, ↓ev_Next, ↓ev_Seq, ↓ev_Break, ↓ev_Cont, ↓ev_Drop, ↓ev_Ret, ↓ev_RetN, ↓ev_If, ↓ev_Set, ↓ev_SetL, ↓ev_SetP, ↓ev_rhv, ↓ev_rho, ↓ev_Par, ↓ev_For, ↓ev_Yes, ↓ev_ownz, ↓ev_owns, ↓ev_Append, ↓ev_Extend, ↓ev_Pop, ↓ev_PopAt, ↓ev_SetIx, ↓ev_wi0, ↓ev_wic, ↓ev_re0, ↓ev_rec, ↓ev_kvn, ↓ev_kvv, ↓ev_kvo, ↓ev_kvs, ↓ev_endrt, ↓ev_endnx, ↓ev_addi, ↓ev_addt, ↓ev_addl, ↓ev_adds, ↓ev_sub, ↓ev_muli, ↓ev_mull, ↓ev_mult, ↓ev_mod, ↓ev_div, ↓ev_pow, ↓ev_shl, ↓ev_cmp, ↓ev_lt, ↓ev_le, ↓ev_gt, ↓ev_ge, ↓ev_eqi, ↓ev_nei, ↓ev_eqs, ↓ev_nes, ↓ev_eqtt, ↓ev_eqll, ↓ev_nett, ↓ev_nell, ↓ev_isN, ↓ev_notN, ↓ev_neg, ↓ev_ixt, ↓ev_ixl, ↓ev_ix0, ↓ev_ix1, ↓ev_ix2, ↓ev_slt, ↓ev_sll, ↓ev_lent, ↓ev_lenl, ↓ev_tupt, ↓ev_tupl, ↓ev_inti, ↓ev_intb, ↓ev_abs, ↓ev_listt, ↓ev_listl, ↓ev_repr, ↓ev_Rev, ↓ev_isA, ↓ev_ndt, ↓ev_ndl, ↓ev_ndi, ↓ev_ndb, ↓ev_nds, ↓ev_ndn, ↓ev_iatt, ↓ev_iail, ↓ev_iaii, ↓ev_iabi, ↓ev_iaib, ↓ev_iabb, ↓ev_iass, ↓ev_iain, ↓ev_iain0, ↓ev_iatn0, ↓ev_Chain, ↓ev_Rng3, ↓asZip_l, ↓asZip_t, ↓ev_Zip, ↓ev_Rg1, ↓ev_Rg2, ↓ev_LstRg, ↓ev_TupRg, ↓ev_min2, ↓ev_max2, ↓ev_nnn, ↓ev_nni, ↓ev_nnt, ↓ev_nnl, ↓ev_nns, ↓ev_nnb, ↓ev_OpL, ↓ev_cat, ↓ev_rep, ↓ev_elrt, ↓evk_Comp, ↓evk_KC, ↓evk_Call, ↓evk_draw, ↓ev_ownDz, ↓ev_ownDs, ↓ev_DPut, ↓ev_newD, ↓ev_disp1, ↓ev_ParL, ↓ev_R0, ↓ev_Rc, ↓ev_sls0, ↓ev_slsc, ↓ev_inl, ↓ev_int, ↓ev_ind, ↓ev_ninl, ↓ev_nint, ↓ev_nind, ↓ev_getD, ↓ev_listD, ↓ev_dictC, ↓ev_keyi, ↓ev_keys, ↓ev_IfT, ↓ev_Index, ↓asTup_e, ↓ev_RevT, ↓ev_Remove, ↓ev_isB, ↓ev_notB, ↓ev_Count, ↓ev_nox, ↓ev_CallX, ↓ev_Raise, ↓ev_Try1, ↓ev_Err, ↓ev_IfC, ↓ev_wrt, ↓ev_wnx, ↓ev_ExtendT, ↓ev_ZipLT, ↓ev_ZipTL, ↓ev_SortSet, ↓ev_ZipTX, ↓evk_CompO, ↓evk_KCO, ↓ev_OrV, ↓ev_mulE, ↓ev_mulEl, ↓ev_mulEi, ↓ev_reprE, ↓ev_boolI, ↓ev_strI, ↓ev_ia_tuple_bl, ↓ev_ia_tuple_int, ↓ev_ia_tuple_str, ↓ev_ia_tuple_lst, ↓ev_ia_tuple_dct, ↓ev_ia_int_str, ↓ev_ia_int_lst, ↓ev_ia_int_dct, ↓ev_ia_str_non, ↓ev_ia_str_bl, ↓ev_ia_str_int, ↓ev_ia_str_tup, ↓ev_ia_str_lst, ↓ev_ia_str_dct, ↓ev_ia_bool_non, ↓ev_ia_bool_str, ↓ev_ia_bool_tup, ↓ev_ia_bool_lst, ↓ev_ia_bool_dct, ↓ev_ia_list_non, ↓ev_ia_list_bl, ↓ev_ia_list_int, ↓ev_ia_list_str, ↓ev_ia_list_tup, ↓ev_ia_list_dct, ↓ev_ia_dict_non, ↓ev_ia_dict_bl, ↓ev_ia_dict_int, ↓ev_ia_dict_str, ↓ev_ia_dict_tup, ↓ev_ia_dict_lst, ↓ev_ia_dict_dct, ↓ev_Told, ↓asDK_e, ↓evk_CompK, ↓ev_Chain3, ↓ev_SortK, ↓asDT_e, ↓evk_CompKT, ↓List.set_cons_zero, ↓List.set_cons_succ, ↓exists_eq_left', List.length_cons, List.length_nil, Nat.reduceAdd, Nat.reduceLeDiff, true_and, and_true, decide_true, decide_false, Bool.not_true, Bool.not_false, List.nil_append])
namespace DL
def Lit (l : List (Int × Int)) : Prop := ∀ p ∈ l, IsW p ∧ p.1 ≤ 60
theorem Lit.lot {l : List (Int × Int)} (h : Lit l) : IsLot l := fun p hp => (h p hp).1
theorem Lit.perm {l m : List (Int × Int)} (h : Lit l) (p : m.Perm l) : Lit m := fun q hq => h q (p.mem_iff.mp hq)
end DL
namespace DL
def splL (l : List (Int × Int)) (i n : Nat) : List (Int × Int) := l.take i ++ splitW (l.getD i (1, 0)) n ++ l.drop (i + 1)
theorem at_mem {l : List (Int × Int)} {i : Nat} (hi : i < l.length) : l.getD i (1, 0) ∈ l := by
  rw [List.getD_eq_getElem?_getD, List.getElem?_eq_getElem hi]; exact List.getElem_mem hi
theorem spl_eq {l : List (Int × Int)} {i : Nat} (hi : i < l.length) : l = l.take i ++ [l.getD i (1, 0)] ++ l.drop (i + 1) := by
  rw [List.getD_eq_getElem?_getD, List.getElem?_eq_getElem hi]; simp
theorem spl_tally {l : List (Int × Int)} {i n : Nat} (hi : i < l.length) (hl : ∀ p ∈ l, 0 < p.1) (hn : 0 < n) (d : Int) : tally (splL l i n) d = tally l d := by
  conv => rhs; rw [spl_eq hi]
  unfold splL
  rw [tally_append, tally_append, tally_append, tally_append, split_tally (hl _ (at_mem hi)) hn]
theorem spl_len {l : List (Int × Int)} {i n : Nat} (hi : i < l.length) : (splL l i n).length + 1 = l.length + n := by
  unfold splL splitW
  rw [List.length_append, List.length_append, List.length_take, List.length_drop, List.length_map, List.length_range]; omega
theorem spl_lit {l : List (Int × Int)} {i n : Nat} (hi : i < l.length) (hl : Lit l) (hn : 1 ≤ n) (h : (l.getD i (1, 0)).1 * (n : Int) ≤ 60) : Lit (splL l i n) := by
  intro p hp
  unfold splL at hp
  rcases List.mem_append.mp hp with hp | hp
  · rcases List.mem_append.mp hp with hp | hp
    · exact hl p (List.mem_of_mem_take hp)
    · refine ⟨isW_splitD (hl _ (at_mem hi)).1 hn (by omega) p hp, ?_⟩
      unfold splitW at hp
      obtain ⟨k, hk, rfl⟩ := List.mem_map.mp hp
      exact h
  · exact hl p (List.mem_of_mem_drop hp)
end DL
namespace DL
end DL
namespace DL
end DL
namespace DL
end DL
namespace DL
end DL
open PySem PySem.Spec PyProof.Rows L2 DL
namespace DL
section
variable {l m : List (Int × Int)}
def shF (l : List (Int × Int)) : D := .tup ((List.range 11).map fun k => fracD (cntF l 0 (lcmL l).toNat k) (lcmL l))
end
def RowR (l : List (Int × Int)) (k : Nat) (row : D) : Prop := ∃ (b : Bool) (o : D), row = .lst [.bl b, o] ∧ (b = true ↔ ∀ d, (1 + (k : Int)) ≤ tally l d) ∧ IsOD l (1 + k) o
def TS (l : List (Int × Int)) (b : Int) (n : Nat) (c : Int) (d : D) : Prop := ∃ (lt gt : Nat) (nh no ha oa : D) (rows : List D), IsLT l lt ∧ IsGT l gt ∧ IsNH l b nh ∧ IsFO l b (2 ^ l.length) no ∧ IsHA l b c ha ∧ IsOA l b c oa ∧ Fa2 (RowR l) (List.range 10) rows ∧
  d = .lst ([.tup (listF (cntF l b n) 11), shF l, fracD (shareN l) (lcmL l)] ++ [.int lt, .int gt, nh, no] ++ [ha, oa] ++ rows ++ [b, b + n, 0, -1, 100000000000000000].map fun x : Int => .int (tally l x : Nat))
end DL
namespace DL
def Gd (d : D) : Prop := d.ilw = true ∧ d.ok 59 = true ∧ d.blk ≤ 1000
theorem gd_int {i : Int} (h : i.natAbs < 10 ^ 130) : Gd (.int i) := ⟨by simp only [D.ilw]; exact decide_eq_true h, rfl, by rw [blk_int]; decide⟩
theorem p130 : (10 : Nat) ^ 130 ≥ 10 ^ 40 := Nat.pow_le_pow_right (by decide) (by decide)
theorem gd_small {i : Int} (h : i.natAbs < 10 ^ 40) : Gd (.int i) := gd_int (Nat.lt_of_lt_of_le h p130)
theorem gd_non : Gd .non := ⟨rfl, rfl, by rw [blk_non]; decide⟩
theorem gd_bl (b : Bool) : Gd (.bl b) := ⟨rfl, rfl, by rw [blk_bl]; decide⟩
theorem gd_lst {xs : List D} (h : ∀ x ∈ xs, Gd x) (hn : xs.length ≤ 60) : (D.lst xs).ok 60 = true ∧ (D.lst xs).shw = true := by
  refine ⟨?_, shw_ilw ?_ ?_⟩
  · rw [ok_lst, List.all_eq_true]; exact fun x hx => (h x hx).2.1
  · show ilws xs = true
    rw [ilws_all, List.all_eq_true]; exact fun x hx => (h x hx).1
  · rw [blk_lst]
    have : ∀ {xs : List D}, (∀ x ∈ xs, Gd x) → PyData.bulkAll (pys xs) ≤ 1001 * xs.length := by
      intro xs
      induction xs with
      | nil => intro _; rw [blks_nil]; omega
      | cons x xs ih =>
        intro h
        have a := (h x (by simp)).2.2
        have b := ih fun y hy => h y (by simp [hy])
        rw [blks_cons, List.length_cons]; omega
    have := this h
    omega
theorem gd_ints {c : Nat → Int} (h : ∀ k, (c k).natAbs < 10 ^ 40) (n : Nat) (hn : n ≤ 100) : Gd (.tup (listF c n)) := by
  rw [listF_ints]
  refine ⟨?_, ok_intT 58 _, ?_⟩
  · show ilws _ = true
    rw [ilws_all, List.all_eq_true]
    intro x hx
    obtain ⟨i, hi, rfl⟩ := List.mem_map.mp hx
    obtain ⟨k, _, rfl⟩ := List.mem_map.mp hi
    exact (gd_small (h k)).1
  · rw [blk_intsT]; simp; omega
theorem ilw_nat {i : Int} (h0 : 0 ≤ i) (h : i ≤ 10 * 1000000000000 ^ 10) : (D.int i).ilw = true := by
  simp only [D.ilw]
  refine decide_eq_true ?_
  have h1 : i.natAbs ≤ 10 * 1000000000000 ^ 10 := by omega
  refine Nat.lt_of_le_of_lt h1 ?_
  rw [show (1000000000000 : Nat) = 10 ^ 12 from rfl, ← Nat.pow_mul, Nat.mul_comm 10, ← Nat.pow_succ]
  exact Nat.pow_lt_pow_right (by decide) (by decide)
theorem lcm_10 {l : List (Int × Int)} (hl : IsLp l) (hn : l.length ≤ 10) : lcmL l ≤ 1000000000000 ^ 10 := by
  refine Int.le_trans (lcmL_le hl) ?_
  have : ((1000000000000 ^ l.length : Nat) : Int) ≤ ((1000000000000 ^ 10 : Nat) : Int) := Int.ofNat_le.mpr (Nat.pow_le_pow_right (by decide) hn)
  rw [Int.natCast_pow, Int.natCast_pow] at this
  exact this
theorem gd_frac {a b : Int} (ha : 0 ≤ a) (hb : 0 < b) (h1 : a ≤ 10 * 1000000000000 ^ 10) (h2 : b ≤ 10 * 1000000000000 ^ 10) : Gd (fracD a b) ∧ (fracD a b).blk = 2 := by
  have g1 := gcdI_pos (a := a) (b := b) (.inr hb)
  unfold fracD W2
  generalize (Int.gcd a b : Int) = g at g1 ⊢
  have a1 : 0 ≤ a / g := Int.ediv_nonneg ha (by omega)
  have a2 : a / g ≤ a := Int.ediv_le_self _ ha
  have b1 : 0 ≤ b / g := Int.ediv_nonneg (by omega) (by omega)
  have b2 : b / g ≤ b := Int.ediv_le_self _ (by omega)
  have x := ilw_nat a1 (Int.le_trans a2 h1)
  have y := ilw_nat b1 (Int.le_trans b2 h2)
  have hb : (D.tup [.int (a / g), .int (b / g)]).blk = 2 := by simp [blk_tup, blks_cons, blks_nil, blk_int]
  refine ⟨⟨?_, rfl, by rw [hb]; decide⟩, hb⟩
  show (D.ilw (.int (a / g)) && (D.ilw (.int (b / g)) && true)) = true
  rw [x, y]; rfl
theorem gd_shF {l : List (Int × Int)} (hl : IsLot l) (hn : l.length ≤ 10) : Gd (shF l) := by
  have hR := lcmL_pos hl.lp.pos
  have hle := lcm_10 hl.lp hn
  have hf : ∀ k, Gd (fracD (cntF l 0 (lcmL l).toNat k) (lcmL l)) ∧ (fracD (cntF l 0 (lcmL l).toNat k) (lcmL l)).blk = 2 := fun k => by
    have := cnt_le l 0 k (lcmL l).toNat
    exact gd_frac this.1 hR (by omega) (by omega)
  unfold shF
  refine ⟨?_, ?_, ?_⟩
  · show ilws _ = true
    rw [ilws_all, List.all_eq_true]
    intro x hx
    obtain ⟨k, _, rfl⟩ := List.mem_map.mp hx
    exact (hf k).1.1
  · rw [ok_tup, List.all_eq_true]
    intro x hx
    obtain ⟨k, _, rfl⟩ := List.mem_map.mp hx
    exact rfl
  · rw [blk_tup]
    have : ∀ ks : List Nat, PyData.bulkAll (pys (ks.map fun k => fracD (cntF l 0 (lcmL l).toNat k) (lcmL l))) = 3 * ks.length := fun ks => by
      induction ks with
      | nil => rw [List.map_nil, blks_nil]; rfl
      | cons k ks ih => rw [List.map_cons, blks_cons, ih, (hf k).2, List.length_cons]; omega
    rw [this, List.length_range]; decide
theorem gd_share {l : List (Int × Int)} (hl : IsLot l) (hn : l.length ≤ 10) : Gd (fracD (shareN l) (lcmL l)) := by
  have hR := lcmL_pos hl.lp.pos
  have hle := lcm_10 hl.lp hn
  have h1 : shareN l ≤ l.length * lcmL l := by
    unfold shareN
    have : ∀ {m : List (Int × Int)}, (m.map fun p => lcmL l / p.1).sum ≤ m.length * lcmL l := fun {m} => by
      induction m with
      | nil => simp
      | cons p m ih =>
        have h2 := Int.ediv_le_self p.1 (Int.le_of_lt hR)
        rw [List.map_cons, List.sum_cons, List.length_cons, Int.natCast_add, Int.add_mul]
        omega
    exact this
  have h2 : (l.length : Int) * lcmL l ≤ 10 * lcmL l := Int.mul_le_mul_of_nonneg_right (by omega) (Int.le_of_lt hR)
  exact (gd_frac (shareN_nonneg hl.lp) hR (by omega) (by omega)).1
theorem TS.shown {l : List (Int × Int)} (hl : IsLot l) (hn : l.length ≤ 10) {b : Int} (hb : IsDay b) {n : Nat} (hn2 : n ≤ 10000000) {c : Int} (c0 : 1 ≤ c) (c1 : c ≤ 1000000) {d : D} (h : TS l b n c d) : d.ok 60 = true ∧ d.shw = true := by
  obtain ⟨lt, gt, nh, no, ha, oa, rows, a1, a2, a3, a4, a5, a6, a7, rfl⟩ := h
  obtain ⟨b0, b1⟩ := hb
  have hP := pow10 hn
  have tl : ∀ x, tally l x ≤ 10 := fun x => Nat.le_trans (tally_le l x) hn
  have g1 : Gd (.tup (listF (cntF l b n) 11)) := gd_ints (fun k => by have := cnt_le l b k n; omega) _ (by decide)
  have g2 : Gd (.int lt) := gd_small (by obtain ⟨x, e⟩ := a1.1; have := tl x; omega)
  have g3 : Gd (.int gt) := gd_small (by obtain ⟨x, e⟩ := a2.1; have := tl x; omega)
  have g4 : Gd nh := by
    rcases a3 with ⟨_, rfl⟩ | ⟨x, rfl, ⟨p, hp, e⟩, _⟩
    · exact gd_non
    · obtain ⟨p1, p2, p3, p4⟩ := hl p hp
      have a := Int.emod_nonneg (p.2 - b) (show p.1 ≠ 0 by omega)
      have b := Int.emod_lt_of_pos (p.2 - b) (show 0 < p.1 by omega)
      exact gd_small (by omega)
  have g5 : Gd no := by
    rcases a4 with ⟨rfl, _⟩ | ⟨j, hj, rfl, _⟩
    · exact gd_non
    · exact gd_small (by omega)
  have g6 : Gd ha := by
    rcases a5 with ⟨_, rfl⟩ | ⟨j, rfl, _, _, _, hj⟩
    · exact gd_non
    · exact gd_small (by omega)
  have g7 : Gd oa := by
    rcases a6 with ⟨rfl, _⟩ | ⟨j, rfl, _, _, _, hj⟩
    · exact gd_non
    · exact gd_small (by omega)
  have g8 : rows.length = 10 := by rw [← a7.length]; rfl
  have g9 : ∀ x ∈ rows, Gd x := fun x hx => by
    have : ∀ {ks : List Nat} {rs : List D}, Fa2 (RowR l) ks rs → ∀ x ∈ rs, Gd x := by
      intro ks rs h
      induction h with
      | nil => intro x hx; cases hx
      | @cons k row ks rs hr _ ih =>
        intro x hx
        rcases List.mem_cons.mp hx with rfl | hx
        · obtain ⟨bb, o, rfl, _, ho⟩ := hr
          have go : Gd o := by
            rcases ho with ⟨rfl, _⟩ | ⟨j, rfl, _, _, hj, _⟩
            · exact gd_non
            · exact gd_small (by omega)
          have hz := gd_lst (xs := [.bl bb, o]) (fun x hx => by
            rcases List.mem_cons.mp hx with rfl | hx
            · exact gd_bl bb
            · rw [List.mem_singleton.mp hx]; exact go) (by simp)
          refine ⟨?_, ?_, ?_⟩
          · show (D.ilw (.bl bb) && (o.ilw && true)) = true
            rw [go.1]; rfl
          · rcases ho with ⟨rfl, _⟩ | ⟨j, rfl, _⟩ <;> rfl
          · rcases ho with ⟨rfl, _⟩ | ⟨j, rfl, _⟩ <;> simp [blk_lst, blks_cons, blks_nil, blk_bl, blk_non, blk_int]
        · exact ih x hx
    exact this a7 x hx
  refine gd_lst (fun x hx => ?_) (by simp [g8])
  simp only [List.mem_append, List.mem_cons, List.mem_nil_iff, or_false, List.map_cons, List.map_nil] at hx
  rcases hx with ((((rfl | rfl | rfl) | (rfl | rfl | rfl | rfl)) | (rfl | rfl)) | hx) | hx
  · exact g1
  · exact gd_shF hl hn
  · exact gd_share hl hn
  · exact g2
  · exact g3
  · exact g4
  · exact g5
  · exact g6
  · exact g7
  · exact g9 x hx
  · rcases hx with rfl | rfl | rfl | rfl | rfl <;> exact gd_small (by have := tl b; have := tl (b + n); have := tl 0; have := tl (-1); have := tl 100000000000000000; omega)
end DL
open PySem PySem.Spec PyProof.Rows L2 DL
namespace DL
end DL
namespace DL
end DL
namespace DL
end DL
namespace DL
end DL
namespace DL
end DL
open PySem PySem.Spec PyProof.Rows L2 DL
local macro_rules | `(tactic| walk_at "d") => `(tactic| simp only [↓getS_z, ↓getS_s, ↓asBl_e, ↓asInt_e, ↓asLst_e, ↓asSeq_l, ↓asSeq_t, ↓ifK_t, ↓ifK_f, ↓ev_C, ↓ev_Var, ↓ev_frv, ↓ev_fro, ↓ev_topv, ↓ev_topo, ↓ev_frl, ↓ev_frd, ↓ev_odv, ↓ev_odn, ↓ev_fiv, ↓ev_fin, ↓ev_Op, ↓ev_Un, ↓ev_UL, ↓ev_Bb, ↓ev_Tst, ↓ev_AndT, ↓ev_OrT, ↓ev_NotT, ↓ev_And, ↓ev_Or, ↓ev_Not, ↓ev_IfE, ↓ev_A0, ↓ev_Ac, ↓ev_Tup, ↓ev_Lst, ↓ev_Frz, ↓ev_Call, ↓ev_NoP, ↓ev_Part, ↓ev_Sl, ↓ev_SeqI, ↓ev_EnumI, ↓ev_Rng1, ↓ev_Rng2, ↓ev_nm, ↓ev_tp, ↓ev_tp0, ↓ev_tpc, ↓ev_Next, ↓ev_Seq, ↓ev_Break, ↓ev_Cont, ↓ev_Drop, ↓ev_Ret, ↓ev_RetN, ↓ev_If, ↓ev_Set, ↓ev_SetL, ↓ev_SetP, ↓ev_rhv, ↓ev_rho, ↓ev_Par, ↓ev_For, ↓ev_Comp, ↓ev_Yes, ↓ev_ownz, ↓ev_owns, ↓ev_Append, ↓ev_Extend, ↓ev_Pop, ↓ev_PopAt, ↓ev_SetIx, ↓ev_wi0, ↓ev_wic, ↓ev_re0, ↓ev_rec, ↓ev_kvn, ↓ev_kvv, ↓ev_kvo, ↓ev_kvs, ↓ev_endrt, ↓ev_endnx, ↓ev_addi, ↓ev_addt, ↓ev_addl, ↓ev_adds, ↓ev_sub, ↓ev_muli, ↓ev_mull, ↓ev_mult, ↓ev_mod, ↓ev_div, ↓ev_pow, ↓ev_shl, ↓ev_cmp, ↓ev_lt, ↓ev_le, ↓ev_gt, ↓ev_ge, ↓ev_eqi, ↓ev_nei, ↓ev_eqs, ↓ev_nes, ↓ev_eqtt, ↓ev_eqll, ↓ev_nett, ↓ev_nell, ↓ev_isN, ↓ev_notN, ↓ev_neg, ↓ev_ixt, ↓ev_ixl, ↓ev_ix0, ↓ev_ix1, ↓ev_ix2, ↓ev_slt, ↓ev_sll, ↓ev_lent, ↓ev_lenl, ↓ev_tupt, ↓ev_tupl, ↓ev_inti, ↓ev_intb, ↓ev_abs, ↓ev_listt, ↓ev_listl, ↓ev_repr, ↓ev_Rev, ↓ev_isA, ↓ev_ndt, ↓ev_ndl, ↓ev_ndi, ↓ev_ndb, ↓ev_nds, ↓ev_ndn, ↓ev_iatt, ↓ev_iail, ↓ev_iaii, ↓ev_iabi, ↓ev_iaib, ↓ev_iabb, ↓ev_iass, ↓ev_iain, ↓ev_iain0, ↓ev_iatn0, ↓ev_Chain, ↓ev_Rng3, ↓asZip_l, ↓asZip_t, ↓ev_Zip, ↓ev_Rg1, ↓ev_Rg2, ↓ev_LstRg, ↓ev_TupRg, ↓ev_min2, ↓ev_max2, ↓ev_nnn, ↓ev_nni, ↓ev_nnt, ↓ev_nnl, ↓ev_nns, ↓ev_nnb, ↓ev_OpL, ↓ev_cat, ↓ev_rep, ↓ev_elrt, ↓ev_draw, ↓ev_ownDz, ↓ev_ownDs, ↓ev_DPut, ↓ev_newD, ↓ev_disp1, ↓ev_ParL, ↓ev_R0, ↓ev_Rc, ↓ev_sls0, ↓ev_slsc, ↓ev_inl, ↓ev_int, ↓ev_ind, ↓ev_ninl, ↓ev_nint, ↓ev_nind, ↓ev_getD, ↓ev_listD, ↓ev_dictC, ↓ev_keyi, ↓ev_keys, ↓ev_IfT, ↓ev_Index, ↓asTup_e, ↓ev_RevT, ↓ev_Remove, ↓ev_isB, ↓ev_notB, ↓ev_Count, ↓ev_nox, ↓ev_CallX, ↓ev_Raise, ↓ev_Try1, ↓ev_Err, ↓ev_IfC, ↓ev_wrt, ↓ev_wnx, ↓ev_ExtendT, ↓ev_ZipLT, ↓ev_ZipTL, ↓ev_SortSet, ↓ev_ZipTX, ↓ev_OrV, ↓ev_mulE, ↓ev_mulEl, ↓ev_mulEi, ↓ev_reprE, ↓ev_boolI, ↓ev_strI, ↓ev_ia_tuple_bl, ↓ev_ia_tuple_int, ↓ev_ia_tuple_str, ↓ev_ia_tuple_lst, ↓ev_ia_tuple_dct, ↓ev_ia_int_str, ↓ev_ia_int_lst, ↓ev_ia_int_dct, ↓ev_ia_str_non, ↓ev_ia_str_bl, ↓ev_ia_str_int, ↓ev_ia_str_tup, ↓ev_ia_str_lst, ↓ev_ia_str_dct, ↓ev_ia_bool_non, ↓ev_ia_bool_str, ↓ev_ia_bool_tup, ↓ev_ia_bool_lst, ↓ev_ia_bool_dct, ↓ev_ia_list_non, ↓ev_ia_list_bl, ↓ev_ia_list_int, ↓ev_ia_list_str, ↓ev_ia_list_tup, ↓ev_ia_list_dct, ↓ev_ia_dict_non, ↓ev_ia_dict_bl, ↓ev_ia_dict_int, ↓ev_ia_dict_str, ↓ev_ia_dict_tup, ↓ev_ia_dict_lst, ↓ev_ia_dict_dct, ↓ev_Told, ↓asDK_e, ↓ev_Chain3, ↓ev_SortK, ↓asDT_e, ↓ev_SetPL, ↓ev_CallSw, ↓List.set_cons_zero, ↓List.set_cons_succ, ↓exists_eq_left', List.length_cons, List.length_nil, Nat.reduceAdd, Nat.reduceLeDiff, true_and, and_true, decide_true, decide_false, Bool.not_true, Bool.not_false, List.nil_append])
local macro_rules | `(tactic| walk_at "e") => `(tactic| simp only [↓getS_z, ↓getS_s, ↓asBl_e, ↓asInt_e, ↓asLst_e, ↓asSeq_l, ↓asSeq_t, ↓ifK_t, ↓ifK_f, ↓ev_C, ↓ev_Var, ↓ev_frv, ↓ev_fro, ↓ev_topv, ↓ev_topo, ↓ev_frl, ↓ev_frd, ↓ev_odv, ↓ev_odn, ↓ev_fiv, ↓ev_fin, ↓ev_Op, ↓ev_Un, ↓ev_UL, ↓ev_Bb, ↓ev_Tst, ↓ev_AndT, ↓ev_OrT, ↓ev_NotT, ↓ev_And, ↓ev_Or, ↓ev_Not, ↓ev_IfE, ↓ev_A0, ↓ev_Ac, ↓ev_Tup, ↓ev_Lst, ↓ev_Frz, ↓ev_NoP, ↓ev_Part, ↓ev_Sl, ↓ev_SeqI, ↓ev_EnumI, ↓ev_Rng1, ↓ev_Rng2, ↓ev_nm, ↓ev_tp, ↓ev_tp0, ↓ev_tpc, ↓ev_Next, ↓ev_Seq, ↓ev_Break, ↓ev_Cont, ↓ev_Drop, ↓ev_Ret, ↓ev_RetN, ↓ev_If, ↓ev_Set, ↓ev_SetL, ↓ev_SetP, ↓ev_rhv, ↓ev_rho, ↓ev_Par, ↓ev_For, ↓ev_Yes, ↓ev_ownz, ↓ev_owns, ↓ev_Append, ↓ev_Extend, ↓ev_Pop, ↓ev_PopAt, ↓ev_SetIx, ↓ev_wi0, ↓ev_wic, ↓ev_re0, ↓ev_rec, ↓ev_kvn, ↓ev_kvv, ↓ev_kvo, ↓ev_kvs, ↓ev_endrt, ↓ev_endnx, ↓ev_addi, ↓ev_addt, ↓ev_addl, ↓ev_adds, ↓ev_sub, ↓ev_muli, ↓ev_mull, ↓ev_mult, ↓ev_mod, ↓ev_div, ↓ev_pow, ↓ev_shl, ↓ev_cmp, ↓ev_lt, ↓ev_le, ↓ev_gt, ↓ev_ge, ↓ev_eqi, ↓ev_nei, ↓ev_eqs, ↓ev_nes, ↓ev_eqtt, ↓ev_eqll, ↓ev_nett, ↓ev_nell, ↓ev_isN, ↓ev_notN, ↓ev_neg, ↓ev_ixt, ↓ev_ixl, ↓ev_ix0, ↓ev_ix1, ↓ev_ix2, ↓ev_slt, ↓ev_sll, ↓ev_lent, ↓ev_lenl, ↓ev_tupt, ↓ev_tupl, ↓ev_inti, ↓ev_intb, ↓ev_abs, ↓ev_listt, ↓ev_listl, ↓ev_repr, ↓ev_Rev, ↓ev_isA, ↓ev_ndt, ↓ev_ndl, ↓ev_ndi, ↓ev_ndb, ↓ev_nds, ↓ev_ndn, ↓ev_iatt, ↓ev_iail, ↓ev_iaii, ↓ev_iabi, ↓ev_iaib, ↓ev_iabb, ↓ev_iass, ↓ev_iain, ↓ev_iain0, ↓ev_iatn0, ↓ev_Chain, ↓ev_Rng3, ↓asZip_l, ↓asZip_t, ↓ev_Zip, ↓ev_Rg1, ↓ev_Rg2, ↓ev_LstRg, ↓ev_TupRg, ↓ev_min2, ↓ev_max2, ↓ev_nnn, ↓ev_nni, ↓ev_nnt, ↓ev_nnl, ↓ev_nns, ↓ev_nnb, ↓ev_OpL, ↓ev_cat, ↓ev_rep, ↓ev_elrt, ↓evk_Comp, ↓evk_KC, ↓evk_Call, ↓evk_draw, ↓ev_ownDz, ↓ev_ownDs, ↓ev_DPut, ↓ev_newD, ↓ev_disp1, ↓ev_ParL, ↓ev_R0, ↓ev_Rc, ↓ev_sls0, ↓ev_slsc, ↓ev_inl, ↓ev_int, ↓ev_ind, ↓ev_ninl, ↓ev_nint, ↓ev_nind, ↓ev_getD, ↓ev_listD, ↓ev_dictC, ↓ev_keyi, ↓ev_keys, ↓ev_IfT, ↓ev_Index, ↓asTup_e, ↓ev_RevT, ↓ev_Remove, ↓ev_isB, ↓ev_notB, ↓ev_Count, ↓ev_nox, ↓ev_CallX, ↓ev_Raise, ↓ev_Try1, ↓ev_Err, ↓ev_IfC, ↓ev_wrt, ↓ev_wnx, ↓ev_ExtendT, ↓ev_ZipLT, ↓ev_ZipTL, ↓ev_SortSet, ↓ev_ZipTX, ↓evk_CompO, ↓evk_KCO, ↓ev_OrV, ↓ev_mulE, ↓ev_mulEl, ↓ev_mulEi, ↓ev_reprE, ↓ev_boolI, ↓ev_strI, ↓ev_ia_tuple_bl, ↓ev_ia_tuple_int, ↓ev_ia_tuple_str, ↓ev_ia_tuple_lst, ↓ev_ia_tuple_dct, ↓ev_ia_int_str, ↓ev_ia_int_lst, ↓ev_ia_int_dct, ↓ev_ia_str_non, ↓ev_ia_str_bl, ↓ev_ia_str_int, ↓ev_ia_str_tup, ↓ev_ia_str_lst, ↓ev_ia_str_dct, ↓ev_ia_bool_non, ↓ev_ia_bool_str, ↓ev_ia_bool_tup, ↓ev_ia_bool_lst, ↓ev_ia_bool_dct, ↓ev_ia_list_non, ↓ev_ia_list_bl, ↓ev_ia_list_int, ↓ev_ia_list_str, ↓ev_ia_list_tup, ↓ev_ia_list_dct, ↓ev_ia_dict_non, ↓ev_ia_dict_bl, ↓ev_ia_dict_int, ↓ev_ia_dict_str, ↓ev_ia_dict_tup, ↓ev_ia_dict_lst, ↓ev_ia_dict_dct, ↓ev_Told, ↓asDK_e, ↓evk_CompK, ↓ev_Chain3, ↓ev_SortK, ↓asDT_e, ↓evk_CompKT, ↓ev_SetPL, ↓ev_CallSw, ↓List.set_cons_zero, ↓List.set_cons_succ, ↓exists_eq_left', List.length_cons, List.length_nil, Nat.reduceAdd, Nat.reduceLeDiff, true_and, and_true, decide_true, decide_false, Bool.not_true, Bool.not_false, List.nil_append])
namespace DL
theorem IsPart.symm {l m : List (Int × Int)} {r : D} (h : IsPart l m r) : IsPart m l r := by
  rcases h with ⟨rfl, h⟩ | ⟨n, rfl, hn, h1, h2⟩
  · exact .inl ⟨rfl, fun d => (h d).symm⟩
  · exact .inr ⟨n, rfl, by omega, fun e => h1 e.symm, fun i hi => (h2 i hi).symm⟩
end DL
namespace DL
end DL
open PySem PySem.Spec PyProof.Rows L2 DL
namespace DL
theorem S2_zero : ∀ xs : List Int, (0 : Int) ∈ S2 xs
  | [] => by simp [S2]
  | x :: xs => S2_cons.mpr (.inl (S2_zero xs))
theorem S2_app : ∀ {xs ys : List Int} {s t : Int}, s ∈ S2 xs → t ∈ S2 ys → s + t ∈ S2 (xs ++ ys)
  | [], ys, s, t, hs, ht => by
    have : s = 0 := by simpa [S2] using hs
    rw [this, Int.zero_add]; exact ht
  | x :: xs, ys, s, t, hs, ht => by
    rw [List.cons_append, S2_cons]
    rcases S2_cons.mp hs with h | h
    · exact .inl (S2_app h ht)
    · have := S2_app h ht
      rw [show s - x + t = s + t - x by omega] at this
      exact .inr this
theorem S2_rep (w : Int) : ∀ {n y : Nat}, y ≤ n → (y : Int) * w ∈ S2 (List.replicate n w)
  | 0, y, h => by
    have : y = 0 := by omega
    subst this; simp [S2]
  | n + 1, 0, _ => by rw [show ((0 : Nat) : Int) * w = 0 by simp]; exact S2_zero _
  | n + 1, y + 1, h => by
    rw [List.replicate_succ, S2_cons]
    have := S2_rep w (n := n) (y := y) (by omega)
    rw [show ((y + 1 : Nat) : Int) * w - w = (y : Int) * w by rw [Int.natCast_add, Int.add_mul]; omega]
    exact .inr this
def SubT (ts : List Int) : Prop := ∀ W : Int, (∀ t ∈ ts, t ∣ W) → ∀ t rest, ts.Perm (t :: rest) → ∀ k : Nat, (k : Int) < t → (k : Int) * (W / t) ∈ S2 (rest.map (W / ·))
theorem SubT.perm {ts us : List Int} (h : SubT ts) (p : ts.Perm us) : SubT us := fun W hW t rest hp k hk => h W (fun t ht => hW t (p.mem_iff.mp ht)) t rest (p.trans hp) k hk
theorem SubT.one : SubT [1] := fun W hW t rest hp k hk => by
  have e : t :: rest = [1] := List.perm_singleton.mp hp.symm
  simp only [List.cons.injEq] at e
  obtain ⟨rfl, rfl⟩ := e
  have : k = 0 := by omega
  subst this; simp [S2]
theorem SubT.split {c : List Int} {t : Int} {n : Nat} (ht : 0 < t) (hc : ∀ q ∈ c, 0 < q) (hn : 0 < n) (h : SubT (t :: c)) : SubT (List.replicate n (t * n) ++ c) := by
  intro W hW q rest hp k hk
  have hn0 : (0 : Int) < n := by omega
  have htn : 0 < t * (n : Int) := Int.mul_pos ht hn0
  have dW : t * (n : Int) ∣ W := hW _ (List.mem_append.mpr (.inl (List.mem_replicate.mpr ⟨by omega, rfl⟩)))
  obtain ⟨w, hw⟩ := dW
  have e1 : W / (t * (n : Int)) = w := by rw [hw]; exact Int.mul_ediv_cancel_left _ (by omega)
  have e2 : W / t = (n : Int) * w := by rw [hw, Int.mul_assoc]; exact Int.mul_ediv_cancel_left _ (by omega)
  have old : ∀ x ∈ t :: c, x ∣ W := fun x hx => by
    rcases List.mem_cons.mp hx with rfl | hx
    · exact ⟨(n : Int) * w, by rw [hw, Int.mul_assoc]⟩
    · exact hW x (by simp [hx])
  have hq : q ∈ List.replicate n (t * (n : Int)) ++ c := hp.mem_iff.mpr (by simp)
  by_cases c1 : q = t * (n : Int)
  · subst c1
    obtain ⟨m, rfl⟩ : ∃ m, n = m + 1 := ⟨n - 1, by omega⟩
    rw [List.replicate_succ, List.cons_append] at hp
    have hp' := (List.perm_cons _).mp hp
    rw [← (S2_perm (hp'.map (W / ·)) _), e1, List.map_append, List.map_replicate, e1]
    have k1 : k = k % (m + 1) + (m + 1) * (k / (m + 1)) := by have := Nat.div_add_mod k (m + 1); omega
    have hx : ((k / (m + 1) : Nat) : Int) < t := by
      obtain ⟨T, rfl⟩ := Int.eq_ofNat_of_zero_le (Int.le_of_lt ht)
      have : k < T * (m + 1) := by
        have : ((k : Nat) : Int) < ((T * (m + 1) : Nat) : Int) := by rw [Int.natCast_mul]; exact hk
        omega
      have := Nat.div_lt_of_lt_mul (show k < (m + 1) * T by rw [Nat.mul_comm]; exact this)
      omega
    have a := S2_rep w (n := m) (y := k % (m + 1)) (by have := Nat.mod_lt k (show 0 < m + 1 by omega); omega)
    have b := h W old t c (.refl _) (k / (m + 1)) hx
    have := S2_app a b
    rw [e2] at this
    have e3 : (k : Int) * w = ((k % (m + 1) : Nat) : Int) * w + ((k / (m + 1) : Nat) : Int) * (((m + 1 : Nat) : Int) * w) := by
      conv => lhs; rw [k1]
      rw [Int.natCast_add, Int.add_mul, Int.natCast_mul, ← Int.mul_assoc, Int.mul_comm ((k / (m + 1) : Nat) : Int)]
    rw [e3]; exact this
  · have hqc : q ∈ c := (List.mem_append.mp hq).resolve_left fun h => c1 (List.eq_of_mem_replicate h)
    obtain ⟨c', hc'⟩ : ∃ c', c.Perm (q :: c') := by
      obtain ⟨a, b, rfl⟩ := List.append_of_mem hqc
      exact ⟨a ++ b, List.perm_middle⟩
    have hp' : (List.replicate n (t * (n : Int)) ++ c').Perm rest := by
      have : (q :: (List.replicate n (t * (n : Int)) ++ c')).Perm (q :: rest) := ((List.perm_middle.symm.trans ((List.Perm.refl _).append hc'.symm)).trans hp)
      exact (List.perm_cons _).mp this
    rw [← (S2_perm (hp'.map (W / ·)) _), List.map_append, List.map_replicate, e1]
    have b := h W old q (t :: c') (((List.Perm.refl _).cons _ |>.trans (hc'.cons t)).trans (.swap _ _ _)) k hk
    rw [List.map_cons, S2_cons, e2] at b
    rcases b with b | b
    · have := S2_app (S2_zero (List.replicate n w)) b
      rw [Int.zero_add] at this; exact this
    · have := S2_app (S2_rep w (Nat.le_refl n)) b
      rw [show (n : Int) * w + ((k : Int) * (W / q) - (n : Int) * w) = (k : Int) * (W / q) by omega] at this
      exact this
end DL
namespace DL
structure GoodX (l : List (Int × Int)) : Prop where
  lit : Lit l
  ex : Exact l
  sub : SubT (l.map (·.1))
  one : 1 ≤ l.length
  ten : l.length ≤ 10
theorem split_turns (p : Int × Int) (n : Nat) : (splitW p n).map (·.1) = List.replicate n (p.1 * (n : Int)) := by
  unfold splitW
  rw [List.map_map]
  have : ((fun x : Int × Int => x.1) ∘ fun k : Nat => (p.1 * (n : Int), p.2 + (k : Int) * p.1)) = fun _ => p.1 * (n : Int) := rfl
  rw [this, List.map_const', List.length_range]
theorem sub_step {a b : List (Int × Int)} {p : Int × Int} {n : Nat} (hp : ∀ q ∈ a ++ p :: b, 0 < q.1) (hn : 0 < n) (h : SubT ((a ++ p :: b).map (·.1))) : SubT ((a ++ splitW p n ++ b).map (·.1)) := by
  have h1 : SubT (p.1 :: (a ++ b).map (·.1)) := h.perm (by
    have : (a ++ p :: b).Perm (p :: (a ++ b)) := List.perm_middle
    exact this.map _)
  have h2 := SubT.split (hp p (by simp)) (fun q hq => by
    obtain ⟨x, hx, rfl⟩ := List.mem_map.mp hq
    exact hp x (by rcases List.mem_append.mp hx with h | h <;> simp [h])) hn h1
  refine h2.perm ?_
  rw [← split_turns, ← List.map_append]
  refine List.Perm.map _ ?_
  rw [← List.append_assoc]
  exact (List.perm_append_comm).append (.refl _)
theorem gr_sub {l : List (Int × Int)} (h : Gr l) : SubT (l.map (·.1)) := by
  induction h with
  | one => exact SubT.one
  | @step a b p n hg h2 _ ih => exact sub_step (gr_exact hg).1 (by omega) ih
  | perm _ p ih => exact ih.perm (p.map _)
theorem GoodX.spl {l : List (Int × Int)} (h : GoodX l) {i n : Nat} (hi : i < l.length) (hn : 1 ≤ n) (h60 : (l.getD i (1, 0)).1 * (n : Int) ≤ 60) (h10 : l.length + n ≤ 11) : GoodX (splL l i n) := by
  have hlen := spl_len (n := n) hi
  refine ⟨spl_lit hi h.lit hn h60, fun d => by rw [spl_tally hi h.lit.lot.lp.pos (by omega), h.ex], ?_, by have := h.one; omega, by omega⟩
  unfold splL
  refine sub_step (fun q hq => ?_) (by omega) ?_
  · have := spl_eq hi
    rw [List.append_assoc, List.singleton_append] at this
    rw [← this] at hq
    exact h.lit.lot.lp.pos q hq
  · have := spl_eq hi
    rw [List.append_assoc, List.singleton_append] at this
    rw [← this]; exact h.sub
theorem GoodX.moved {l : List (Int × Int)} (h : GrLot l) (hn : l.length ≤ 10) (e : Int) : GoodX (shiftL l e) := by
  have hl : IsLot l := fun p hp => (h.2 p hp).1
  have hs := lot_shiftJ e hl
  refine ⟨fun p hp => ⟨hs p hp, ?_⟩, fun d => by rw [tally_shiftJ]; exact (gr_exact h.1).2 _, ?_, ?_, by simp [shiftL]; omega⟩
  · unfold shiftL at hp
    obtain ⟨q, hq, rfl⟩ := List.mem_map.mp hp
    have := (h.2 q hq).2.1
    show q.1 ≤ 60
    omega
  · have : (shiftL l e).map (·.1) = l.map (·.1) := by unfold shiftL; rw [List.map_map]; rfl
    rw [this]; exact gr_sub h.1
  · have := gr_ne h.1
    have : 0 < l.length := List.length_pos_iff.mpr this
    simp [shiftL]; omega
end DL
namespace DL
section
variable {l : List (Int × Int)}
theorem GoodX.alone (h : GoodX l) {i : Nat} (hi : i < l.length) : tally (others l i) (l.getD i (1, 0)).2 = 0 := by
  refine Classical.byContradiction fun c => ?_
  obtain ⟨q, hq, hd⟩ := tally_pos'.mp c
  obtain ⟨j, hj, hji, rfl⟩ := mem_others.mp hq
  have e := h.ex (l.getD i (1, 0)).2
  rw [← tally_ix] at e
  have := nodup_sub_length (a := [i, j]) (b := (List.range l.length).filter fun i' => holdsB (l.getD i' (1, 0)) (l.getD i (1, 0)).2) (by simp; exact fun e => hji e.symm) fun x hx => by
    simp only [List.mem_cons, List.mem_nil_iff, or_false] at hx
    rcases hx with rfl | rfl
    · exact List.mem_filter.mpr ⟨List.mem_range.mpr hi, holdsB_iff.mpr (by rw [Int.sub_self]; exact Int.dvd_zero _)⟩
    · exact List.mem_filter.mpr ⟨List.mem_range.mpr hj, holdsB_iff.mpr hd⟩
  rw [e] at this
  exact absurd this (by simp)
theorem GoodX.closed (h : GoodX l) : closedL l := fun d => by rw [h.ex]; decide
theorem pick_rangeX (l : List (Int × Int)) : pick l (List.range l.length) = l := by
  unfold pick
  refine List.ext_getElem (by simp) fun i h1 h2 => ?_
  rw [List.getElem_map, List.getElem_range, List.getD_eq_getElem?_getD, List.getElem?_eq_getElem h2]; rfl
theorem GoodX.miss (h : GoodX l) {p : List Nat} (hp : ∀ j ∈ p, j < l.length) {i : Nat} (hi : i < l.length) (hn : i ∉ p) : ¬ closedL (pick l p) := fun c => by
  have := c (l.getD i (1, 0)).2
  obtain ⟨q, hq, hd⟩ := tally_pos'.mp this
  obtain ⟨j, hj, rfl⟩ := mem_pick.mp hq
  exact tally_pos'.mpr ⟨_, mem_others.mpr ⟨j, hp j hj, fun e => hn (by rw [← e]; exact hj), rfl⟩, hd⟩ (h.alone hi)
theorem sub_all {p : List Nat} {n : Nat} (h : p.Sublist (List.range n)) (ha : ∀ i, i < n → i ∈ p) : p = List.range n := by
  refine h.eq_of_length_le ?_
  exact nodup_len List.nodup_range fun x hx => ha x (List.mem_range.mp hx)
theorem GoodX.rest (h : GoodX l) {p : List Nat} (hp : p.Sublist (List.range l.length)) : RestP l p ↔ p = List.range l.length := by
  have hlt : ∀ j ∈ p, j < l.length := fun j hj => List.mem_range.mp (hp.subset hj)
  constructor
  · intro hr
    refine sub_all hp fun i hi => Classical.byContradiction fun c => h.miss hlt hi c hr
  · rintro rfl
    show closedL (pick l (List.range l.length))
    rw [pick_rangeX]; exact h.closed
theorem GoodX.mp (h : GoodX l) {d : D} (hd : IsMP l d) : d = .non := by
  have := (exact_iff h.lit.lot.lp).mp h.ex
  rcases hd with ⟨rfl, _⟩ | ⟨i, j, h1, h2, _, h3, _⟩
  · rfl
  · rw [this.2 i j h1 h2] at h3; cases h3
end
end DL
open PySem PySem.Spec PyProof.Rows L2 DL
namespace DL
end DL
namespace DL
end DL
namespace DL
end DL
open PySem PySem.Spec PyProof.Rows L2 DL
local macro_rules | `(tactic| walk_at "d") => `(tactic| simp only [↓getS_z, ↓getS_s, ↓asBl_e, ↓asInt_e, ↓asLst_e, ↓asSeq_l, ↓asSeq_t, ↓ifK_t, ↓ifK_f, ↓ev_C, ↓ev_Var, ↓ev_frv, ↓ev_fro, ↓ev_topv, ↓ev_topo, ↓ev_frl, ↓ev_frd, ↓ev_odv, ↓ev_odn, ↓ev_fiv, ↓ev_fin, ↓ev_Op, ↓ev_Un, ↓ev_UL, ↓ev_Bb, ↓ev_Tst, ↓ev_AndT, ↓ev_OrT, ↓ev_NotT, ↓ev_And, ↓ev_Or, ↓ev_Not, ↓ev_IfE, ↓ev_A0, ↓ev_Ac, ↓ev_Tup, ↓ev_Lst, ↓ev_Frz, ↓ev_Call, ↓ev_NoP, ↓ev_Part, ↓ev_Sl, ↓ev_SeqI, ↓ev_EnumI, ↓ev_Rng1, ↓ev_Rng2, ↓ev_nm, ↓ev_tp, ↓ev_tp0, ↓ev_tpc, ↓ev_Next, ↓ev_Seq, ↓ev_Break, ↓ev_Cont, ↓ev_Drop, ↓ev_Ret, ↓ev_RetN, ↓ev_If, ↓ev_Set, ↓ev_SetL, ↓ev_SetP, ↓ev_rhv, ↓ev_rho, ↓ev_Par, ↓ev_For, ↓ev_Comp, ↓ev_Yes, ↓ev_ownz, ↓ev_owns, ↓ev_Append, ↓ev_Extend, ↓ev_Pop, ↓ev_PopAt, ↓ev_SetIx, ↓ev_wi0, ↓ev_wic, ↓ev_re0, ↓ev_rec, ↓ev_kvn, ↓ev_kvv, ↓ev_kvo, ↓ev_kvs, ↓ev_endrt, ↓ev_endnx, ↓ev_addi, ↓ev_addt, ↓ev_addl, ↓ev_adds, ↓ev_sub, ↓ev_muli, ↓ev_mull, ↓ev_mult, ↓ev_mod, ↓ev_div, ↓ev_pow, ↓ev_shl, ↓ev_cmp, ↓ev_lt, ↓ev_le, ↓ev_gt, ↓ev_ge, ↓ev_eqi, ↓ev_nei, ↓ev_eqs, ↓ev_nes, ↓ev_eqtt, ↓ev_eqll, ↓ev_nett, ↓ev_nell, ↓ev_isN, ↓ev_notN, ↓ev_neg, ↓ev_ixt, ↓ev_ixl, ↓ev_ix0, ↓ev_ix1, ↓ev_ix2, ↓ev_slt, ↓ev_sll, ↓ev_lent, ↓ev_lenl, ↓ev_tupt, ↓ev_tupl, ↓ev_inti, ↓ev_intb, ↓ev_abs, ↓ev_listt, ↓ev_listl, ↓ev_repr, ↓ev_Rev, ↓ev_isA, ↓ev_ndt, ↓ev_ndl, ↓ev_ndi, ↓ev_ndb, ↓ev_nds, ↓ev_ndn, ↓ev_iatt, ↓ev_iail, ↓ev_iaii, ↓ev_iabi, ↓ev_iaib, ↓ev_iabb, ↓ev_iass, ↓ev_iain, ↓ev_iain0, ↓ev_iatn0, ↓ev_Chain, ↓ev_Rng3, ↓asZip_l, ↓asZip_t, ↓ev_Zip, ↓ev_Rg1, ↓ev_Rg2, ↓ev_LstRg, ↓ev_TupRg, ↓ev_min2, ↓ev_max2, ↓ev_nnn, ↓ev_nni, ↓ev_nnt, ↓ev_nnl, ↓ev_nns, ↓ev_nnb, ↓ev_OpL, ↓ev_cat, ↓ev_rep, ↓ev_elrt, ↓ev_draw, ↓ev_ownDz, ↓ev_ownDs, ↓ev_DPut, ↓ev_newD, ↓ev_disp1, ↓ev_ParL, ↓ev_R0, ↓ev_Rc, ↓ev_sls0, ↓ev_slsc, ↓ev_inl, ↓ev_int, ↓ev_ind, ↓ev_ninl, ↓ev_nint, ↓ev_nind, ↓ev_getD, ↓ev_listD, ↓ev_dictC, ↓ev_keyi, ↓ev_keys, ↓ev_IfT, ↓ev_Index, ↓asTup_e, ↓ev_RevT, ↓ev_Remove, ↓ev_isB, ↓ev_notB, ↓ev_Count, ↓ev_nox, ↓ev_CallX, ↓ev_Raise, ↓ev_Try1, ↓ev_Err, ↓ev_IfC, ↓ev_wrt, ↓ev_wnx, ↓ev_ExtendT, ↓ev_ZipLT, ↓ev_ZipTL, ↓ev_SortSet, ↓ev_ZipTX, ↓ev_OrV, ↓ev_mulE, ↓ev_mulEl, ↓ev_mulEi, ↓ev_reprE, ↓ev_boolI, ↓ev_strI, ↓ev_ia_tuple_bl, ↓ev_ia_tuple_int, ↓ev_ia_tuple_str, ↓ev_ia_tuple_lst, ↓ev_ia_tuple_dct, ↓ev_ia_int_str, ↓ev_ia_int_lst, ↓ev_ia_int_dct, ↓ev_ia_str_non, ↓ev_ia_str_bl, ↓ev_ia_str_int, ↓ev_ia_str_tup, ↓ev_ia_str_lst, ↓ev_ia_str_dct, ↓ev_ia_bool_non, ↓ev_ia_bool_str, ↓ev_ia_bool_tup, ↓ev_ia_bool_lst, ↓ev_ia_bool_dct, ↓ev_ia_list_non, ↓ev_ia_list_bl, ↓ev_ia_list_int, ↓ev_ia_list_str, ↓ev_ia_list_tup, ↓ev_ia_list_dct, ↓ev_ia_dict_non, ↓ev_ia_dict_bl, ↓ev_ia_dict_int, ↓ev_ia_dict_str, ↓ev_ia_dict_tup, ↓ev_ia_dict_lst, ↓ev_ia_dict_dct, ↓ev_Told, ↓asDK_e, ↓ev_Chain3, ↓ev_SortK, ↓asDT_e, ↓ev_SetPL, ↓ev_CallSw, ↓ev_IndexT, ↓List.set_cons_zero, ↓List.set_cons_succ, ↓exists_eq_left', List.length_cons, List.length_nil, Nat.reduceAdd, Nat.reduceLeDiff, true_and, and_true, decide_true, decide_false, Bool.not_true, Bool.not_false, List.nil_append])
local macro_rules | `(tactic| walk_at "e") => `(tactic| simp only [↓getS_z, ↓getS_s, ↓asBl_e, ↓asInt_e, ↓asLst_e, ↓asSeq_l, ↓asSeq_t, ↓ifK_t, ↓ifK_f, ↓ev_C, ↓ev_Var, ↓ev_frv, ↓ev_fro, ↓ev_topv, ↓ev_topo, ↓ev_frl, ↓ev_frd, ↓ev_odv, ↓ev_odn, ↓ev_fiv, ↓ev_fin, ↓ev_Op, ↓ev_Un, ↓ev_UL, ↓ev_Bb, ↓ev_Tst, ↓ev_AndT, ↓ev_OrT, ↓ev_NotT, ↓ev_And, ↓ev_Or, ↓ev_Not, ↓ev_IfE, ↓ev_A0, ↓ev_Ac, ↓ev_Tup, ↓ev_Lst, ↓ev_Frz, ↓ev_NoP, ↓ev_Part, ↓ev_Sl, ↓ev_SeqI, ↓ev_EnumI, ↓ev_Rng1, ↓ev_Rng2, ↓ev_nm, ↓ev_tp, ↓ev_tp0, ↓ev_tpc, ↓ev_Next, ↓ev_Seq, ↓ev_Break, ↓ev_Cont, ↓ev_Drop, ↓ev_Ret, ↓ev_RetN, ↓ev_If, ↓ev_Set, ↓ev_SetL, ↓ev_SetP, ↓ev_rhv, ↓ev_rho, ↓ev_Par, ↓ev_For, ↓ev_Yes, ↓ev_ownz, ↓ev_owns, ↓ev_Append, ↓ev_Extend, ↓ev_Pop, ↓ev_PopAt, ↓ev_SetIx, ↓ev_wi0, ↓ev_wic, ↓ev_re0, ↓ev_rec, ↓ev_kvn, ↓ev_kvv, ↓ev_kvo, ↓ev_kvs, ↓ev_endrt, ↓ev_endnx, ↓ev_addi, ↓ev_addt, ↓ev_addl, ↓ev_adds, ↓ev_sub, ↓ev_muli, ↓ev_mull, ↓ev_mult, ↓ev_mod, ↓ev_div, ↓ev_pow, ↓ev_shl, ↓ev_cmp, ↓ev_lt, ↓ev_le, ↓ev_gt, ↓ev_ge, ↓ev_eqi, ↓ev_nei, ↓ev_eqs, ↓ev_nes, ↓ev_eqtt, ↓ev_eqll, ↓ev_nett, ↓ev_nell, ↓ev_isN, ↓ev_notN, ↓ev_neg, ↓ev_ixt, ↓ev_ixl, ↓ev_ix0, ↓ev_ix1, ↓ev_ix2, ↓ev_slt, ↓ev_sll, ↓ev_lent, ↓ev_lenl, ↓ev_tupt, ↓ev_tupl, ↓ev_inti, ↓ev_intb, ↓ev_abs, ↓ev_listt, ↓ev_listl, ↓ev_repr, ↓ev_Rev, ↓ev_isA, ↓ev_ndt, ↓ev_ndl, ↓ev_ndi, ↓ev_ndb, ↓ev_nds, ↓ev_ndn, ↓ev_iatt, ↓ev_iail, ↓ev_iaii, ↓ev_iabi, ↓ev_iaib, ↓ev_iabb, ↓ev_iass, ↓ev_iain, ↓ev_iain0, ↓ev_iatn0, ↓ev_Chain, ↓ev_Rng3, ↓asZip_l, ↓asZip_t, ↓ev_Zip, ↓ev_Rg1, ↓ev_Rg2, ↓ev_LstRg, ↓ev_TupRg, ↓ev_min2, ↓ev_max2, ↓ev_nnn, ↓ev_nni, ↓ev_nnt, ↓ev_nnl, ↓ev_nns, ↓ev_nnb, ↓ev_OpL, ↓ev_cat, ↓ev_rep, ↓ev_elrt, ↓evk_Comp, ↓evk_KC, ↓evk_Call, ↓evk_draw, ↓ev_ownDz, ↓ev_ownDs, ↓ev_DPut, ↓ev_newD, ↓ev_disp1, ↓ev_ParL, ↓ev_R0, ↓ev_Rc, ↓ev_sls0, ↓ev_slsc, ↓ev_inl, ↓ev_int, ↓ev_ind, ↓ev_ninl, ↓ev_nint, ↓ev_nind, ↓ev_getD, ↓ev_listD, ↓ev_dictC, ↓ev_keyi, ↓ev_keys, ↓ev_IfT, ↓ev_Index, ↓asTup_e, ↓ev_RevT, ↓ev_Remove, ↓ev_isB, ↓ev_notB, ↓ev_Count, ↓ev_nox, ↓ev_CallX, ↓ev_Raise, ↓ev_Try1, ↓ev_Err, ↓ev_IfC, ↓ev_wrt, ↓ev_wnx, ↓ev_ExtendT, ↓ev_ZipLT, ↓ev_ZipTL, ↓ev_SortSet, ↓ev_ZipTX, ↓evk_CompO, ↓evk_KCO, ↓ev_OrV, ↓ev_mulE, ↓ev_mulEl, ↓ev_mulEi, ↓ev_reprE, ↓ev_boolI, ↓ev_strI, ↓ev_ia_tuple_bl, ↓ev_ia_tuple_int, ↓ev_ia_tuple_str, ↓ev_ia_tuple_lst, ↓ev_ia_tuple_dct, ↓ev_ia_int_str, ↓ev_ia_int_lst, ↓ev_ia_int_dct, ↓ev_ia_str_non, ↓ev_ia_str_bl, ↓ev_ia_str_int, ↓ev_ia_str_tup, ↓ev_ia_str_lst, ↓ev_ia_str_dct, ↓ev_ia_bool_non, ↓ev_ia_bool_str, ↓ev_ia_bool_tup, ↓ev_ia_bool_lst, ↓ev_ia_bool_dct, ↓ev_ia_list_non, ↓ev_ia_list_bl, ↓ev_ia_list_int, ↓ev_ia_list_str, ↓ev_ia_list_tup, ↓ev_ia_list_dct, ↓ev_ia_dict_non, ↓ev_ia_dict_bl, ↓ev_ia_dict_int, ↓ev_ia_dict_str, ↓ev_ia_dict_tup, ↓ev_ia_dict_lst, ↓ev_ia_dict_dct, ↓ev_Told, ↓asDK_e, ↓evk_CompK, ↓ev_Chain3, ↓ev_SortK, ↓asDT_e, ↓evk_CompKT, ↓ev_SetPL, ↓ev_CallSw, ↓ev_IndexT, ↓List.set_cons_zero, ↓List.set_cons_succ, ↓exists_eq_left', List.length_cons, List.length_nil, Nat.reduceAdd, Nat.reduceLeDiff, true_and, and_true, decide_true, decide_false, Bool.not_true, Bool.not_false, List.nil_append])
namespace DL
def csKv (ps : List (Int × List Nat)) : List (D × D) := ps.map fun p => (.int p.1, natsT p.2)
structure CsR (F : Int → Option (List Nat)) (ps : List (Int × List Nat)) : Prop where
  nd : (ps.map (·.1)).Nodup
  mem : ∀ x v, F x = some v ↔ (x, v) ∈ ps
theorem CsR.key {F : Int → Option (List Nat)} {ps : List (Int × List Nat)} (h : CsR F ps) (x : Int) : x ∈ ps.map (·.1) ↔ F x ≠ none := by
  rw [List.mem_map]
  constructor
  · rintro ⟨⟨a, v⟩, hp, rfl⟩ e
    rw [(h.mem a v).mpr hp] at e; cases e
  · intro hne
    obtain ⟨v, hv⟩ := Option.ne_none_iff_exists'.mp hne
    exact ⟨(x, v), (h.mem x v).mp hv, rfl⟩
theorem CsR.lk {F : Int → Option (List Nat)} {ps : List (Int × List Nat)} (h : CsR F ps) (x : Int) : lkD (csKv ps) (.int x) = (F x).map natsT := by
  unfold lkD
  cases e : F x with
  | none =>
    rw [List.find?_eq_none.mpr]
    · rfl
    · intro y hy e2
      unfold csKv at hy
      obtain ⟨⟨a, v⟩, hp, rfl⟩ := List.mem_map.mp hy
      have e3 : (D.int a).eqv (.int x) = true := e2
      rw [eqv_intD] at e3
      have := of_decide_eq_true e3
      subst this
      rw [(h.mem a v).mpr hp] at e; cases e
  | some v =>
    have hm := (h.mem x v).mp e
    cases e4 : (csKv ps).find? fun kv => kv.1.eqv (.int x) with
    | none =>
      have := List.find?_eq_none.mp e4 (.int x, natsT v) (by unfold csKv; exact List.mem_map.mpr ⟨(x, v), hm, rfl⟩)
      exact absurd (show (D.int x).eqv (.int x) = true by rw [eqv_intD]; simp) this
    | some kv =>
      have h1 := List.mem_of_find?_eq_some e4
      have h2 := List.find?_some e4
      unfold csKv at h1
      obtain ⟨⟨a, u⟩, hp, rfl⟩ := List.mem_map.mp h1
      have e3 : (D.int a).eqv (.int x) = true := h2
      rw [eqv_intD] at e3
      have := of_decide_eq_true e3
      subst this
      have := (h.mem a u).mpr hp
      rw [e] at this
      cases this
      rfl
theorem CsR.put {F : Int → Option (List Nat)} {ps : List (Int × List Nat)} (h : CsR F ps) {x : Int} {v : List Nat} (hx : F x = none) : putD (csKv ps) (.int x) (natsT v) = csKv (ps ++ [(x, v)]) ∧ CsR (fun y => if y = x then some v else F y) (ps ++ [(x, v)]) := by
  have hk : x ∉ ps.map (·.1) := fun hm => (h.key x).mp hm hx
  refine ⟨?_, ?_, fun y u => ?_⟩
  · unfold putD
    have : ((csKv ps).any fun kv => kv.1.eqv (.int x)) = false := by
      rw [List.any_eq_false]
      intro y hy e2
      unfold csKv at hy
      obtain ⟨⟨a, u⟩, hp, rfl⟩ := List.mem_map.mp hy
      have e3 : (D.int a).eqv (.int x) = true := e2
      rw [eqv_intD] at e3
      exact hk (List.mem_map.mpr ⟨_, hp, of_decide_eq_true e3⟩)
    rw [this]
    unfold csKv
    rw [List.map_append]; rfl
  · rw [List.map_append, List.nodup_append]
    refine ⟨h.nd, by simp, fun a ha b hb => ?_⟩
    have : b = x := by simpa using hb
    subst this
    intro e; subst e; exact hk ha
  · rw [List.mem_append, List.mem_singleton]
    by_cases c : y = x
    · subst c
      rw [if_pos rfl]
      constructor
      · intro e; cases e; exact .inr rfl
      · rintro (hp | e)
        · exact absurd (List.mem_map.mpr ⟨_, hp, rfl⟩) hk
        · cases e; rfl
    · rw [if_neg c]
      constructor
      · exact fun e => .inl ((h.mem y u).mp e)
      · rintro (hp | e)
        · exact (h.mem y u).mpr hp
        · cases e; exact absurd rfl c
structure CsV (l : List (Int × Int)) (i : Nat) (W : Int) (n : Nat) (x : Int) (v : List Nat) : Prop where
  asc : v.Pairwise (· < ·)
  lt : ∀ j ∈ v, j < n ∧ j ≠ i
  sum : (v.map fun j => W / (l.getD j (1, 0)).1).sum = x
theorem CsV.len {l : List (Int × Int)} {i : Nat} {W : Int} {n : Nat} {x : Int} {v : List Nat} (h : CsV l i W n x v) : v.length ≤ n := by
  have := nodup_sub_length (a := v) (b := List.range n) (h.asc.imp fun {a b} hab => by omega) fun j hj => List.mem_range.mpr (h.lt j hj).1
  simpa using this
theorem CsR.zero : CsR (fun x => if x = 0 then some [] else none) [(0, [])] := by
  refine ⟨by simp, fun x v => ?_⟩
  rw [List.mem_singleton]
  constructor
  · intro h
    have h : (if x = 0 then some [] else none) = some v := h
    by_cases c : x = 0
    · rw [if_pos c] at h; cases h; rw [c]
    · rw [if_neg c] at h; cases h
  · intro h; cases h; rfl
end DL
namespace DL
end DL
namespace DL
end DL
namespace DL
end DL
namespace DL
end DL
namespace DL
end DL
open PySem PySem.Spec PyProof.Rows L2 DL
namespace DL
def MT (ts : List Int) : Prop := ∀ T ∈ ts, (∀ y ∈ ts, y ≤ T) → 1 < T → ∃ n : Nat, 2 ≤ n ∧ (n : Int) ∣ T ∧ n ≤ ts.count T
theorem MT.perm {ts us : List Int} (h : MT ts) (p : ts.Perm us) : MT us := fun T hT hm h1 => by
  obtain ⟨n, a, b, c⟩ := h T (p.mem_iff.mpr hT) (fun y hy => hm y (p.mem_iff.mp hy)) h1
  exact ⟨n, a, b, by rw [← p.count_eq]; exact c⟩
theorem MT.split {c : List Int} {t : Int} {n : Nat} (ht : 0 < t) (hn : 2 ≤ n) (h : MT (t :: c)) : MT (List.replicate n (t * n) ++ c) := by
  intro T hT hm h1
  by_cases e : T = t * (n : Int)
  · refine ⟨n, hn, ⟨t, by rw [e, Int.mul_comm]⟩, ?_⟩
    rw [e, List.count_append, List.count_replicate_self]; omega
  · have hTc : T ∈ c := (List.mem_append.mp hT).resolve_left fun h => e (List.eq_of_mem_replicate h)
    have htn : t * (n : Int) ≤ T := hm _ (List.mem_append.mpr (.inl (List.mem_replicate.mpr ⟨by omega, rfl⟩)))
    have h2 : t * 2 ≤ t * (n : Int) := Int.mul_le_mul_of_nonneg_left (by omega) (by omega)
    obtain ⟨m, a, b, d⟩ := h T (by simp [hTc]) (fun y hy => by
      rcases List.mem_cons.mp hy with rfl | hy
      · omega
      · exact hm y (by simp [hy])) h1
    refine ⟨m, a, b, ?_⟩
    rw [List.count_cons] at d
    have : (t == T) = false := by simp; omega
    rw [this] at d
    rw [List.count_append]
    simp at d
    omega
end DL
namespace DL
end DL
namespace DL
end DL
open PySem PySem.Spec PyProof.Rows L2 DL
namespace DL
end DL
open PySem PySem.Spec PyProof.Rows L2 DL
namespace DL
end DL
namespace DL
end DL
open PySem PySem.Spec PyProof.Rows L2 DL
namespace DL
end DL
namespace DL
def seenW (l : List (Int × Int)) (p r : Nat) : List (Int × Int) := (l.filter fun w => decide (w.2 % (p : Int) = r)).map fun w => (w.1 / (p : Int), w.2 / (p : Int))
end DL
namespace DL
inductive Tr where
  | nd : List Tr → Tr
mutual
def leavesT : Tr → List (Int × Int)
  | .nd ts => if ts.isEmpty then [(1, 0)] else leavesL ts.length 0 ts
def leavesL (n : Nat) : Nat → List Tr → List (Int × Int)
  | _, [] => []
  | k, t :: ts => (leavesT t).map (fun w => (w.1 * (n : Int), w.2 * (n : Int) + (k : Int))) ++ leavesL n (k + 1) ts
end
mutual
def okT : Tr → Prop
  | .nd ts => (ts = [] ∨ (2 ≤ ts.length ∧ ts.length ≤ 10)) ∧ okTs ts
def okTs : List Tr → Prop
  | [] => True
  | t :: ts => okT t ∧ okTs ts
end
end DL
namespace DL
mutual
def canT : List (Int × Int) → Tr → Prop
  | l, .nd ts => (ts = [] ∧ l = [(1, 0)]) ∨ (l ≠ [(1, 0)] ∧ 2 ≤ ts.length ∧ (∀ w ∈ l, (ts.length : Int) ∣ w.1) ∧ (∀ e : Nat, 2 ≤ e → e < ts.length → ¬ ∀ w ∈ l, (e : Int) ∣ w.1) ∧ canTs l ts.length 0 ts)
def canTs : List (Int × Int) → Nat → Nat → List Tr → Prop
  | _, _, _, [] => True
  | l, p, k, t :: ts => canT (seenW l p k) t ∧ canTs l p (k + 1) ts
end
def TR (l : List (Int × Int)) : Option Tr → Prop
  | some t => okT t ∧ (leavesT t).Perm l ∧ canT l t
  | none => ¬ Gr l
end DL
namespace DL
end DL
open PySem PySem.Spec PyProof.Rows L2 DL
namespace DL
end DL
open PySem PySem.Spec PyProof.Rows L2 DL
namespace DL
def subT (h : Int × Int) (t : Tr) : List (Int × Int) := (leavesT t).map fun w => (w.1 * h.1, w.2 * h.1 + h.2)
def expT : List (Int × Int) → List Tr → List (Int × Int)
  | h :: hs, t :: ts => subT h t ++ expT hs ts
  | _, _ => []
theorem sub_list (h : Int × Int) (n : Nat) : ∀ (us : List Tr) (k : Nat), (leavesL n k us).map (fun w => (w.1 * h.1, w.2 * h.1 + h.2)) = expT ((List.range us.length).map fun j : Nat => (h.1 * (n : Int), h.2 + ((k + j : Nat) : Int) * h.1)) us
  | [], k => rfl
  | t :: us, k => by
    rw [leavesL, List.map_append, List.map_map, sub_list h n us (k + 1), List.length_cons, List.range_succ_eq_map, List.map_cons, expT, List.map_map]
    congr 1
    · unfold subT
      refine List.map_congr_left fun w _ => ?_
      simp only [Function.comp, Nat.add_zero]
      refine Prod.ext ?_ ?_
      · show w.1 * (n : Int) * h.1 = w.1 * (h.1 * (n : Int))
        rw [Int.mul_assoc, Int.mul_comm (n : Int)]
      · show (w.2 * (n : Int) + (k : Int)) * h.1 + h.2 = w.2 * (h.1 * (n : Int)) + (h.2 + (k : Int) * h.1)
        rw [Int.add_mul, Int.mul_assoc, Int.mul_comm (n : Int)]; omega
    · congr 1
      refine List.map_congr_left fun j _ => ?_
      simp only [Function.comp, Nat.succ_eq_add_one]
      rw [show k + 1 + j = k + (j + 1) by omega]
theorem sub_nd (h : Int × Int) {us : List Tr} (hu : us ≠ []) : subT h (.nd us) = expT (splitW h us.length) us := by
  have hne : us.isEmpty = false := by
    cases us with
    | nil => exact absurd rfl hu
    | cons => rfl
  unfold subT
  rw [leavesT, hne, if_neg Bool.false_ne_true, sub_list]
  unfold splitW
  simp only [Nat.zero_add]
inductive Run : List (Int × Int) → List (Nat × Nat) → List (Int × Int) → Prop where
  | nil {h} : Run h [] h
  | snoc {h fs m i n} : Run h fs m → i < m.length → 2 ≤ n → n ≤ 10 → Run h (fs ++ [(i, n)]) (splL m i n)
end DL
namespace DL
end DL
namespace DL
end DL
open PySem PySem.Spec PyProof.Rows L2 DL
namespace DL
end DL
namespace DL
end DL
open PySem PySem.Spec PyProof.Rows L2 DL
namespace DL
end DL
namespace DL
end DL
open PySem PySem.Spec PyProof.Rows L2 DL
local macro_rules | `(tactic| walk_at "d") => `(tactic| simp only [↓getS_z, ↓getS_s, ↓asBl_e, ↓asInt_e, ↓asLst_e, ↓asSeq_l, ↓asSeq_t, ↓ifK_t, ↓ifK_f, ↓ev_C, ↓ev_Var, ↓ev_frv, ↓ev_fro, ↓ev_topv, ↓ev_topo, ↓ev_frl, ↓ev_frd, ↓ev_odv, ↓ev_odn, ↓ev_fiv, ↓ev_fin, ↓ev_Op, ↓ev_Un, ↓ev_UL, ↓ev_Bb, ↓ev_Tst, ↓ev_AndT, ↓ev_OrT, ↓ev_NotT, ↓ev_And, ↓ev_Or, ↓ev_Not, ↓ev_IfE, ↓ev_A0, ↓ev_Ac, ↓ev_Tup, ↓ev_Lst, ↓ev_Frz, ↓ev_Call, ↓ev_NoP, ↓ev_Part, ↓ev_Sl, ↓ev_SeqI, ↓ev_EnumI, ↓ev_Rng1, ↓ev_Rng2, ↓ev_nm, ↓ev_tp, ↓ev_tp0, ↓ev_tpc, ↓ev_Next, ↓ev_Seq, ↓ev_Break, ↓ev_Cont, ↓ev_Drop, ↓ev_Ret, ↓ev_RetN, ↓ev_If, ↓ev_Set, ↓ev_SetL, ↓ev_SetP, ↓ev_rhv, ↓ev_rho, ↓ev_Par, ↓ev_For, ↓ev_Comp, ↓ev_Yes, ↓ev_ownz, ↓ev_owns, ↓ev_Append, ↓ev_Extend, ↓ev_Pop, ↓ev_PopAt, ↓ev_SetIx, ↓ev_wi0, ↓ev_wic, ↓ev_re0, ↓ev_rec, ↓ev_kvn, ↓ev_kvv, ↓ev_kvo, ↓ev_kvs, ↓ev_endrt, ↓ev_endnx, ↓ev_addi, ↓ev_addt, ↓ev_addl, ↓ev_adds, ↓ev_sub, ↓ev_muli, ↓ev_mull, ↓ev_mult, ↓ev_mod, ↓ev_div, ↓ev_pow, ↓ev_shl, ↓ev_cmp, ↓ev_lt, ↓ev_le, ↓ev_gt, ↓ev_ge, ↓ev_eqi, ↓ev_nei, ↓ev_eqs, ↓ev_nes, ↓ev_eqtt, ↓ev_eqll, ↓ev_nett, ↓ev_nell, ↓ev_isN, ↓ev_notN, ↓ev_neg, ↓ev_ixt, ↓ev_ixl, ↓ev_ix0, ↓ev_ix1, ↓ev_ix2, ↓ev_slt, ↓ev_sll, ↓ev_lent, ↓ev_lenl, ↓ev_tupt, ↓ev_tupl, ↓ev_inti, ↓ev_intb, ↓ev_abs, ↓ev_listt, ↓ev_listl, ↓ev_repr, ↓ev_Rev, ↓ev_isA, ↓ev_ndt, ↓ev_ndl, ↓ev_ndi, ↓ev_ndb, ↓ev_nds, ↓ev_ndn, ↓ev_iatt, ↓ev_iail, ↓ev_iaii, ↓ev_iabi, ↓ev_iaib, ↓ev_iabb, ↓ev_iass, ↓ev_iain, ↓ev_iain0, ↓ev_iatn0, ↓ev_Chain, ↓ev_Rng3, ↓asZip_l, ↓asZip_t, ↓ev_Zip, ↓ev_Rg1, ↓ev_Rg2, ↓ev_LstRg, ↓ev_TupRg, ↓ev_min2, ↓ev_max2, ↓ev_nnn, ↓ev_nni, ↓ev_nnt, ↓ev_nnl, ↓ev_nns, ↓ev_nnb, ↓ev_OpL, ↓ev_cat, ↓ev_rep, ↓ev_elrt, ↓ev_draw, ↓ev_ownDz, ↓ev_ownDs, ↓ev_DPut, ↓ev_newD, ↓ev_disp1, ↓ev_ParL, ↓ev_R0, ↓ev_Rc, ↓ev_sls0, ↓ev_slsc, ↓ev_inl, ↓ev_int, ↓ev_ind, ↓ev_ninl, ↓ev_nint, ↓ev_nind, ↓ev_getD, ↓ev_listD, ↓ev_dictC, ↓ev_keyi, ↓ev_keys, ↓ev_IfT, ↓ev_Index, ↓asTup_e, ↓ev_RevT, ↓ev_Remove, ↓ev_isB, ↓ev_notB, ↓ev_Count, ↓ev_nox, ↓ev_CallX, ↓ev_Raise, ↓ev_Try1, ↓ev_Err, ↓ev_IfC, ↓ev_wrt, ↓ev_wnx, ↓ev_ExtendT, ↓ev_ZipLT, ↓ev_ZipTL, ↓ev_SortSet, ↓ev_ZipTX, ↓ev_OrV, ↓ev_mulE, ↓ev_mulEl, ↓ev_mulEi, ↓ev_reprE, ↓ev_boolI, ↓ev_strI, ↓ev_ia_tuple_bl, ↓ev_ia_tuple_int, ↓ev_ia_tuple_str, ↓ev_ia_tuple_lst, ↓ev_ia_tuple_dct, ↓ev_ia_int_str, ↓ev_ia_int_lst, ↓ev_ia_int_dct, ↓ev_ia_str_non, ↓ev_ia_str_bl, ↓ev_ia_str_int, ↓ev_ia_str_tup, ↓ev_ia_str_lst, ↓ev_ia_str_dct, ↓ev_ia_bool_non, ↓ev_ia_bool_str, ↓ev_ia_bool_tup, ↓ev_ia_bool_lst, ↓ev_ia_bool_dct, ↓ev_ia_list_non, ↓ev_ia_list_bl, ↓ev_ia_list_int, ↓ev_ia_list_str, ↓ev_ia_list_tup, ↓ev_ia_list_dct, ↓ev_ia_dict_non, ↓ev_ia_dict_bl, ↓ev_ia_dict_int, ↓ev_ia_dict_str, ↓ev_ia_dict_tup, ↓ev_ia_dict_lst, ↓ev_ia_dict_dct, ↓ev_Told, ↓asDK_e, ↓ev_Chain3, ↓ev_SortK, ↓asDT_e, ↓ev_SetPL, ↓ev_CallSw, ↓ev_IndexT, ↓ev_TryA, ↓List.set_cons_zero, ↓List.set_cons_succ, ↓exists_eq_left', List.length_cons, List.length_nil, Nat.reduceAdd, Nat.reduceLeDiff, true_and, and_true, decide_true, decide_false, Bool.not_true, Bool.not_false, List.nil_append])
local macro_rules | `(tactic| walk_at "e") => `(tactic| simp only [↓getS_z, ↓getS_s, ↓asBl_e, ↓asInt_e, ↓asLst_e, ↓asSeq_l, ↓asSeq_t, ↓ifK_t, ↓ifK_f, ↓ev_C, ↓ev_Var, ↓ev_frv, ↓ev_fro, ↓ev_topv, ↓ev_topo, ↓ev_frl, ↓ev_frd, ↓ev_odv, ↓ev_odn, ↓ev_fiv, ↓ev_fin, ↓ev_Op, ↓ev_Un, ↓ev_UL, ↓ev_Bb, ↓ev_Tst, ↓ev_AndT, ↓ev_OrT, ↓ev_NotT, ↓ev_And, ↓ev_Or, ↓ev_Not, ↓ev_IfE, ↓ev_A0, ↓ev_Ac, ↓ev_Tup, ↓ev_Lst, ↓ev_Frz, ↓ev_NoP, ↓ev_Part, ↓ev_Sl, ↓ev_SeqI, ↓ev_EnumI, ↓ev_Rng1, ↓ev_Rng2, ↓ev_nm, ↓ev_tp, ↓ev_tp0, ↓ev_tpc, ↓ev_Next, ↓ev_Seq, ↓ev_Break, ↓ev_Cont, ↓ev_Drop, ↓ev_Ret, ↓ev_RetN, ↓ev_If, ↓ev_Set, ↓ev_SetL, ↓ev_SetP, ↓ev_rhv, ↓ev_rho, ↓ev_Par, ↓ev_For, ↓ev_Yes, ↓ev_ownz, ↓ev_owns, ↓ev_Append, ↓ev_Extend, ↓ev_Pop, ↓ev_PopAt, ↓ev_SetIx, ↓ev_wi0, ↓ev_wic, ↓ev_re0, ↓ev_rec, ↓ev_kvn, ↓ev_kvv, ↓ev_kvo, ↓ev_kvs, ↓ev_endrt, ↓ev_endnx, ↓ev_addi, ↓ev_addt, ↓ev_addl, ↓ev_adds, ↓ev_sub, ↓ev_muli, ↓ev_mull, ↓ev_mult, ↓ev_mod, ↓ev_div, ↓ev_pow, ↓ev_shl, ↓ev_cmp, ↓ev_lt, ↓ev_le, ↓ev_gt, ↓ev_ge, ↓ev_eqi, ↓ev_nei, ↓ev_eqs, ↓ev_nes, ↓ev_eqtt, ↓ev_eqll, ↓ev_nett, ↓ev_nell, ↓ev_isN, ↓ev_notN, ↓ev_neg, ↓ev_ixt, ↓ev_ixl, ↓ev_ix0, ↓ev_ix1, ↓ev_ix2, ↓ev_slt, ↓ev_sll, ↓ev_lent, ↓ev_lenl, ↓ev_tupt, ↓ev_tupl, ↓ev_inti, ↓ev_intb, ↓ev_abs, ↓ev_listt, ↓ev_listl, ↓ev_repr, ↓ev_Rev, ↓ev_isA, ↓ev_ndt, ↓ev_ndl, ↓ev_ndi, ↓ev_ndb, ↓ev_nds, ↓ev_ndn, ↓ev_iatt, ↓ev_iail, ↓ev_iaii, ↓ev_iabi, ↓ev_iaib, ↓ev_iabb, ↓ev_iass, ↓ev_iain, ↓ev_iain0, ↓ev_iatn0, ↓ev_Chain, ↓ev_Rng3, ↓asZip_l, ↓asZip_t, ↓ev_Zip, ↓ev_Rg1, ↓ev_Rg2, ↓ev_LstRg, ↓ev_TupRg, ↓ev_min2, ↓ev_max2, ↓ev_nnn, ↓ev_nni, ↓ev_nnt, ↓ev_nnl, ↓ev_nns, ↓ev_nnb, ↓ev_OpL, ↓ev_cat, ↓ev_rep, ↓ev_elrt, ↓evk_Comp, ↓evk_KC, ↓evk_Call, ↓evk_draw, ↓ev_ownDz, ↓ev_ownDs, ↓ev_DPut, ↓ev_newD, ↓ev_disp1, ↓ev_ParL, ↓ev_R0, ↓ev_Rc, ↓ev_sls0, ↓ev_slsc, ↓ev_inl, ↓ev_int, ↓ev_ind, ↓ev_ninl, ↓ev_nint, ↓ev_nind, ↓ev_getD, ↓ev_listD, ↓ev_dictC, ↓ev_keyi, ↓ev_keys, ↓ev_IfT, ↓ev_Index, ↓asTup_e, ↓ev_RevT, ↓ev_Remove, ↓ev_isB, ↓ev_notB, ↓ev_Count, ↓ev_nox, ↓ev_CallX, ↓ev_Raise, ↓ev_Try1, ↓ev_Err, ↓ev_IfC, ↓ev_wrt, ↓ev_wnx, ↓ev_ExtendT, ↓ev_ZipLT, ↓ev_ZipTL, ↓ev_SortSet, ↓ev_ZipTX, ↓evk_CompO, ↓evk_KCO, ↓ev_OrV, ↓ev_mulE, ↓ev_mulEl, ↓ev_mulEi, ↓ev_reprE, ↓ev_boolI, ↓ev_strI, ↓ev_ia_tuple_bl, ↓ev_ia_tuple_int, ↓ev_ia_tuple_str, ↓ev_ia_tuple_lst, ↓ev_ia_tuple_dct, ↓ev_ia_int_str, ↓ev_ia_int_lst, ↓ev_ia_int_dct, ↓ev_ia_str_non, ↓ev_ia_str_bl, ↓ev_ia_str_int, ↓ev_ia_str_tup, ↓ev_ia_str_lst, ↓ev_ia_str_dct, ↓ev_ia_bool_non, ↓ev_ia_bool_str, ↓ev_ia_bool_tup, ↓ev_ia_bool_lst, ↓ev_ia_bool_dct, ↓ev_ia_list_non, ↓ev_ia_list_bl, ↓ev_ia_list_int, ↓ev_ia_list_str, ↓ev_ia_list_tup, ↓ev_ia_list_dct, ↓ev_ia_dict_non, ↓ev_ia_dict_bl, ↓ev_ia_dict_int, ↓ev_ia_dict_str, ↓ev_ia_dict_tup, ↓ev_ia_dict_lst, ↓ev_ia_dict_dct, ↓ev_Told, ↓asDK_e, ↓evk_CompK, ↓ev_Chain3, ↓ev_SortK, ↓asDT_e, ↓evk_CompKT, ↓ev_SetPL, ↓ev_CallSw, ↓ev_IndexT, ↓ev_TryA, ↓List.set_cons_zero, ↓List.set_cons_succ, ↓exists_eq_left', List.length_cons, List.length_nil, Nat.reduceAdd, Nat.reduceLeDiff, true_and, and_true, decide_true, decide_false, Bool.not_true, Bool.not_false, List.nil_append])
namespace DL
end DL
namespace DL
end DL
namespace DL
end DL
namespace DL
end DL
open PySem PySem.Spec PyProof.Rows L2 DL
namespace DL
mutual
theorem sub_gr : ∀ (t : Tr), okT t → ∀ (a : List (Int × Int)) (q : Int × Int) (b : List (Int × Int)), Gr (a ++ q :: b) → Gr (a ++ subT q t ++ b)
  | .nd us, h, a, q, b, g => by
    rw [okT] at h
    by_cases hu : us = []
    · subst hu
      have e : subT q (.nd []) = [q] := by
        unfold subT
        rw [leavesT]
        show [((1 : Int) * q.1, (0 : Int) * q.1 + q.2)] = [q]
        rw [Int.one_mul, Int.zero_mul, Int.zero_add]
      rw [e, List.append_assoc]; exact g
    · have h2 := h.1.resolve_left hu
      rw [sub_nd q hu]
      exact exp_gr us h.2 (splitW q us.length) a b (by simp [splitW]) (Gr.step g h2.1 h2.2)
theorem exp_gr : ∀ (ts : List Tr), okTs ts → ∀ (hs a b : List (Int × Int)), hs.length = ts.length → Gr (a ++ hs ++ b) → Gr (a ++ expT hs ts ++ b)
  | [], _, [], a, b, _, g => g
  | [], _, _ :: _, _, _, e, _ => by simp at e
  | t :: ts, _, [], _, _, e, _ => by simp at e
  | t :: ts, h, q :: hs, a, b, e, g => by
    have h1 : Gr (a ++ subT q t ++ (hs ++ b)) := sub_gr t h.1 a q (hs ++ b) (by
      have e2 : a ++ q :: (hs ++ b) = a ++ (q :: hs) ++ b := by simp
      rw [e2]; exact g)
    have h2 := exp_gr ts h.2 hs (a ++ subT q t) b (by simpa using e) (by rw [List.append_assoc]; exact h1)
    rw [expT]
    have e3 : a ++ (subT q t ++ expT hs ts) ++ b = a ++ subT q t ++ expT hs ts ++ b := by simp
    rw [e3]; exact h2
end
theorem tr_some_gr {l : List (Int × Int)} {t : Tr} (h : TR l (some t)) : Gr l := by
  have h1 := sub_gr t h.1 [] (1, 0) [] Gr.one
  rw [List.append_nil, List.nil_append] at h1
  have e : subT (1, 0) t = leavesT t := by
    unfold subT
    conv => rhs; rw [← List.map_id (leavesT t)]
    refine List.map_congr_left fun w _ => ?_
    exact Prod.ext (Int.mul_one _) (by show w.2 * 1 + 0 = w.2; omega)
  rw [e] at h1
  exact h1.perm h.2.1
theorem TR.isSome {l : List (Int × Int)} {r : Option Tr} (h : TR l r) : r.isSome = true ↔ Gr l := by
  cases r with
  | none => exact ⟨fun e => (nomatch e), fun g => absurd g h⟩
  | some t => exact ⟨fun _ => tr_some_gr h, fun _ => rfl⟩
end DL
namespace DL
end DL
namespace DL
end DL
open PySem PySem.Spec PyProof.Rows L2 DL
namespace DL
def FO (l : List (Int × Int)) (n : Nat) : Prop := tally l (n : Int) = 0 ∧ ∀ j : Nat, j < n → tally l (j : Int) ≠ 0
def RefX (l : List (Int × Int)) (Y : Str → D → Prop) : Prop := (∀ n : Nat, FO l n → Y "Open" (.int n)) ∧ (closedL l → 8 < l.length → Y "TooMany" (.int 8))
theorem RefX.mono {l : List (Int × Int)} {Y Y' : Str → D → Prop} (k : ∀ c d, Y c d → Y' c d) (h : RefX l Y) : RefX l Y' := ⟨fun n hn => k _ _ (h.1 n hn), fun a b => k _ _ (h.2 a b)⟩
end DL
namespace DL
end DL
namespace DL
end DL
namespace DL
end DL
namespace DL
end DL
open PySem PySem.Spec PyProof.Rows L2 DL
namespace DL
end DL
namespace DL
end DL
namespace DL
end DL
namespace DL
end DL
namespace DL
end DL
namespace DL
end DL
open PySem PySem.Spec PyProof.Rows L2 DL
local macro_rules | `(tactic| walk_at "d") => `(tactic| simp only [↓getS_z, ↓getS_s, ↓asBl_e, ↓asInt_e, ↓asLst_e, ↓asSeq_l, ↓asSeq_t, ↓ifK_t, ↓ifK_f, ↓ev_C, ↓ev_Var, ↓ev_frv, ↓ev_fro, ↓ev_topv, ↓ev_topo, ↓ev_frl, ↓ev_frd, ↓ev_odv, ↓ev_odn, ↓ev_fiv, ↓ev_fin, ↓ev_Op, ↓ev_Un, ↓ev_UL, ↓ev_Bb, ↓ev_Tst, ↓ev_AndT, ↓ev_OrT, ↓ev_NotT, ↓ev_And, ↓ev_Or, ↓ev_Not, ↓ev_IfE, ↓ev_A0, ↓ev_Ac, ↓ev_Tup, ↓ev_Lst, ↓ev_Frz, ↓ev_Call, ↓ev_NoP, ↓ev_Part, ↓ev_Sl, ↓ev_SeqI, ↓ev_EnumI, ↓ev_Rng1, ↓ev_Rng2, ↓ev_nm, ↓ev_tp, ↓ev_tp0, ↓ev_tpc, ↓ev_Next, ↓ev_Seq, ↓ev_Break, ↓ev_Cont, ↓ev_Drop, ↓ev_Ret, ↓ev_RetN, ↓ev_If, ↓ev_Set, ↓ev_SetL, ↓ev_SetP, ↓ev_rhv, ↓ev_rho, ↓ev_Par, ↓ev_For, ↓ev_Comp, ↓ev_Yes, ↓ev_ownz, ↓ev_owns, ↓ev_Append, ↓ev_Extend, ↓ev_Pop, ↓ev_PopAt, ↓ev_SetIx, ↓ev_wi0, ↓ev_wic, ↓ev_re0, ↓ev_rec, ↓ev_kvn, ↓ev_kvv, ↓ev_kvo, ↓ev_kvs, ↓ev_endrt, ↓ev_endnx, ↓ev_addi, ↓ev_addt, ↓ev_addl, ↓ev_adds, ↓ev_sub, ↓ev_muli, ↓ev_mull, ↓ev_mult, ↓ev_mod, ↓ev_div, ↓ev_pow, ↓ev_shl, ↓ev_cmp, ↓ev_lt, ↓ev_le, ↓ev_gt, ↓ev_ge, ↓ev_eqi, ↓ev_nei, ↓ev_eqs, ↓ev_nes, ↓ev_eqtt, ↓ev_eqll, ↓ev_nett, ↓ev_nell, ↓ev_isN, ↓ev_notN, ↓ev_neg, ↓ev_ixt, ↓ev_ixl, ↓ev_ix0, ↓ev_ix1, ↓ev_ix2, ↓ev_slt, ↓ev_sll, ↓ev_lent, ↓ev_lenl, ↓ev_tupt, ↓ev_tupl, ↓ev_inti, ↓ev_intb, ↓ev_abs, ↓ev_listt, ↓ev_listl, ↓ev_repr, ↓ev_Rev, ↓ev_isA, ↓ev_ndt, ↓ev_ndl, ↓ev_ndi, ↓ev_ndb, ↓ev_nds, ↓ev_ndn, ↓ev_iatt, ↓ev_iail, ↓ev_iaii, ↓ev_iabi, ↓ev_iaib, ↓ev_iabb, ↓ev_iass, ↓ev_iain, ↓ev_iain0, ↓ev_iatn0, ↓ev_Chain, ↓ev_Rng3, ↓asZip_l, ↓asZip_t, ↓ev_Zip, ↓ev_Rg1, ↓ev_Rg2, ↓ev_LstRg, ↓ev_TupRg, ↓ev_min2, ↓ev_max2, ↓ev_nnn, ↓ev_nni, ↓ev_nnt, ↓ev_nnl, ↓ev_nns, ↓ev_nnb, ↓ev_OpL, ↓ev_cat, ↓ev_rep, ↓ev_elrt, ↓ev_draw, ↓ev_ownDz, ↓ev_ownDs, ↓ev_DPut, ↓ev_newD, ↓ev_disp1, ↓ev_ParL, ↓ev_R0, ↓ev_Rc, ↓ev_sls0, ↓ev_slsc, ↓ev_inl, ↓ev_int, ↓ev_ind, ↓ev_ninl, ↓ev_nint, ↓ev_nind, ↓ev_getD, ↓ev_listD, ↓ev_dictC, ↓ev_keyi, ↓ev_keys, ↓ev_IfT, ↓ev_Index, ↓asTup_e, ↓ev_RevT, ↓ev_Remove, ↓ev_isB, ↓ev_notB, ↓ev_Count, ↓ev_nox, ↓ev_CallX, ↓ev_Raise, ↓ev_Try1, ↓ev_Err, ↓ev_IfC, ↓ev_wrt, ↓ev_wnx, ↓ev_ExtendT, ↓ev_ZipLT, ↓ev_ZipTL, ↓ev_SortSet, ↓ev_ZipTX, ↓ev_OrV, ↓ev_mulE, ↓ev_mulEl, ↓ev_mulEi, ↓ev_reprE, ↓ev_boolI, ↓ev_strI, ↓ev_ia_tuple_bl, ↓ev_ia_tuple_int, ↓ev_ia_tuple_str, ↓ev_ia_tuple_lst, ↓ev_ia_tuple_dct, ↓ev_ia_int_str, ↓ev_ia_int_lst, ↓ev_ia_int_dct, ↓ev_ia_str_non, ↓ev_ia_str_bl, ↓ev_ia_str_int, ↓ev_ia_str_tup, ↓ev_ia_str_lst, ↓ev_ia_str_dct, ↓ev_ia_bool_non, ↓ev_ia_bool_str, ↓ev_ia_bool_tup, ↓ev_ia_bool_lst, ↓ev_ia_bool_dct, ↓ev_ia_list_non, ↓ev_ia_list_bl, ↓ev_ia_list_int, ↓ev_ia_list_str, ↓ev_ia_list_tup, ↓ev_ia_list_dct, ↓ev_ia_dict_non, ↓ev_ia_dict_bl, ↓ev_ia_dict_int, ↓ev_ia_dict_str, ↓ev_ia_dict_tup, ↓ev_ia_dict_lst, ↓ev_ia_dict_dct, ↓ev_Told, ↓asDK_e, ↓ev_Chain3, ↓ev_SortK, ↓asDT_e, ↓ev_SetPL, ↓ev_CallSw, ↓ev_IndexT, ↓ev_TryA, ↓ev_Told3, ↓ev_Insert, ↓List.set_cons_zero, ↓List.set_cons_succ, ↓exists_eq_left', List.length_cons, List.length_nil, Nat.reduceAdd, Nat.reduceLeDiff, true_and, and_true, decide_true, decide_false, Bool.not_true, Bool.not_false, List.nil_append])
local macro_rules | `(tactic| walk_at "e") => `(tactic| simp only [↓getS_z, ↓getS_s, ↓asBl_e, ↓asInt_e, ↓asLst_e, ↓asSeq_l, ↓asSeq_t, ↓ifK_t, ↓ifK_f, ↓ev_C, ↓ev_Var, ↓ev_frv, ↓ev_fro, ↓ev_topv, ↓ev_topo, ↓ev_frl, ↓ev_frd, ↓ev_odv, ↓ev_odn, ↓ev_fiv, ↓ev_fin, ↓ev_Op, ↓ev_Un, ↓ev_UL, ↓ev_Bb, ↓ev_Tst, ↓ev_AndT, ↓ev_OrT, ↓ev_NotT, ↓ev_And, ↓ev_Or, ↓ev_Not, ↓ev_IfE, ↓ev_A0, ↓ev_Ac, ↓ev_Tup, ↓ev_Lst, ↓ev_Frz, ↓ev_NoP, ↓ev_Part, ↓ev_Sl, ↓ev_SeqI, ↓ev_EnumI, ↓ev_Rng1, ↓ev_Rng2, ↓ev_nm, ↓ev_tp, ↓ev_tp0, ↓ev_tpc, ↓ev_Next, ↓ev_Seq, ↓ev_Break, ↓ev_Cont, ↓ev_Drop, ↓ev_Ret, ↓ev_RetN, ↓ev_If, ↓ev_Set, ↓ev_SetL, ↓ev_SetP, ↓ev_rhv, ↓ev_rho, ↓ev_Par, ↓ev_For, ↓ev_Yes, ↓ev_ownz, ↓ev_owns, ↓ev_Append, ↓ev_Extend, ↓ev_Pop, ↓ev_PopAt, ↓ev_SetIx, ↓ev_wi0, ↓ev_wic, ↓ev_re0, ↓ev_rec, ↓ev_kvn, ↓ev_kvv, ↓ev_kvo, ↓ev_kvs, ↓ev_endrt, ↓ev_endnx, ↓ev_addi, ↓ev_addt, ↓ev_addl, ↓ev_adds, ↓ev_sub, ↓ev_muli, ↓ev_mull, ↓ev_mult, ↓ev_mod, ↓ev_div, ↓ev_pow, ↓ev_shl, ↓ev_cmp, ↓ev_lt, ↓ev_le, ↓ev_gt, ↓ev_ge, ↓ev_eqi, ↓ev_nei, ↓ev_eqs, ↓ev_nes, ↓ev_eqtt, ↓ev_eqll, ↓ev_nett, ↓ev_nell, ↓ev_isN, ↓ev_notN, ↓ev_neg, ↓ev_ixt, ↓ev_ixl, ↓ev_ix0, ↓ev_ix1, ↓ev_ix2, ↓ev_slt, ↓ev_sll, ↓ev_lent, ↓ev_lenl, ↓ev_tupt, ↓ev_tupl, ↓ev_inti, ↓ev_intb, ↓ev_abs, ↓ev_listt, ↓ev_listl, ↓ev_repr, ↓ev_Rev, ↓ev_isA, ↓ev_ndt, ↓ev_ndl, ↓ev_ndi, ↓ev_ndb, ↓ev_nds, ↓ev_ndn, ↓ev_iatt, ↓ev_iail, ↓ev_iaii, ↓ev_iabi, ↓ev_iaib, ↓ev_iabb, ↓ev_iass, ↓ev_iain, ↓ev_iain0, ↓ev_iatn0, ↓ev_Chain, ↓ev_Rng3, ↓asZip_l, ↓asZip_t, ↓ev_Zip, ↓ev_Rg1, ↓ev_Rg2, ↓ev_LstRg, ↓ev_TupRg, ↓ev_min2, ↓ev_max2, ↓ev_nnn, ↓ev_nni, ↓ev_nnt, ↓ev_nnl, ↓ev_nns, ↓ev_nnb, ↓ev_OpL, ↓ev_cat, ↓ev_rep, ↓ev_elrt, ↓evk_Comp, ↓evk_KC, ↓evk_Call, ↓evk_draw, ↓ev_ownDz, ↓ev_ownDs, ↓ev_DPut, ↓ev_newD, ↓ev_disp1, ↓ev_ParL, ↓ev_R0, ↓ev_Rc, ↓ev_sls0, ↓ev_slsc, ↓ev_inl, ↓ev_int, ↓ev_ind, ↓ev_ninl, ↓ev_nint, ↓ev_nind, ↓ev_getD, ↓ev_listD, ↓ev_dictC, ↓ev_keyi, ↓ev_keys, ↓ev_IfT, ↓ev_Index, ↓asTup_e, ↓ev_RevT, ↓ev_Remove, ↓ev_isB, ↓ev_notB, ↓ev_Count, ↓ev_nox, ↓ev_CallX, ↓ev_Raise, ↓ev_Try1, ↓ev_Err, ↓ev_IfC, ↓ev_wrt, ↓ev_wnx, ↓ev_ExtendT, ↓ev_ZipLT, ↓ev_ZipTL, ↓ev_SortSet, ↓ev_ZipTX, ↓evk_CompO, ↓evk_KCO, ↓ev_OrV, ↓ev_mulE, ↓ev_mulEl, ↓ev_mulEi, ↓ev_reprE, ↓ev_boolI, ↓ev_strI, ↓ev_ia_tuple_bl, ↓ev_ia_tuple_int, ↓ev_ia_tuple_str, ↓ev_ia_tuple_lst, ↓ev_ia_tuple_dct, ↓ev_ia_int_str, ↓ev_ia_int_lst, ↓ev_ia_int_dct, ↓ev_ia_str_non, ↓ev_ia_str_bl, ↓ev_ia_str_int, ↓ev_ia_str_tup, ↓ev_ia_str_lst, ↓ev_ia_str_dct, ↓ev_ia_bool_non, ↓ev_ia_bool_str, ↓ev_ia_bool_tup, ↓ev_ia_bool_lst, ↓ev_ia_bool_dct, ↓ev_ia_list_non, ↓ev_ia_list_bl, ↓ev_ia_list_int, ↓ev_ia_list_str, ↓ev_ia_list_tup, ↓ev_ia_list_dct, ↓ev_ia_dict_non, ↓ev_ia_dict_bl, ↓ev_ia_dict_int, ↓ev_ia_dict_str, ↓ev_ia_dict_tup, ↓ev_ia_dict_lst, ↓ev_ia_dict_dct, ↓ev_Told, ↓asDK_e, ↓evk_CompK, ↓ev_Chain3, ↓ev_SortK, ↓asDT_e, ↓evk_CompKT, ↓ev_SetPL, ↓ev_CallSw, ↓ev_IndexT, ↓ev_TryA, ↓ev_Told3, ↓ev_Insert, ↓List.set_cons_zero, ↓List.set_cons_succ, ↓exists_eq_left', List.length_cons, List.length_nil, Nat.reduceAdd, Nat.reduceLeDiff, true_and, and_true, decide_true, decide_false, Bool.not_true, Bool.not_false, List.nil_append])
namespace DL
end DL
namespace DL
end DL
namespace DL
end DL
namespace DL
end DL
open PySem PySem.Spec PyProof.Rows L2 DL
local macro_rules | `(tactic| walk_at "d") => `(tactic| simp only [↓getS_z, ↓getS_s, ↓asBl_e, ↓asInt_e, ↓asLst_e, ↓asSeq_l, ↓asSeq_t, ↓ifK_t, ↓ifK_f, ↓ev_C, ↓ev_Var, ↓ev_frv, ↓ev_fro, ↓ev_topv, ↓ev_topo, ↓ev_frl, ↓ev_frd, ↓ev_odv, ↓ev_odn, ↓ev_fiv, ↓ev_fin, ↓ev_Op, ↓ev_Un, ↓ev_UL, ↓ev_Bb, ↓ev_Tst, ↓ev_AndT, ↓ev_OrT, ↓ev_NotT, ↓ev_And, ↓ev_Or, ↓ev_Not, ↓ev_IfE, ↓ev_A0, ↓ev_Ac, ↓ev_Tup, ↓ev_Lst, ↓ev_Frz, ↓ev_Call, ↓ev_NoP, ↓ev_Part, ↓ev_Sl, ↓ev_SeqI, ↓ev_EnumI, ↓ev_Rng1, ↓ev_Rng2, ↓ev_nm, ↓ev_tp, ↓ev_tp0, ↓ev_tpc, ↓ev_Next, ↓ev_Seq, ↓ev_Break, ↓ev_Cont, ↓ev_Drop, ↓ev_Ret, ↓ev_RetN, ↓ev_If, ↓ev_Set, ↓ev_SetL, ↓ev_SetP, ↓ev_rhv, ↓ev_rho, ↓ev_Par, ↓ev_For, ↓ev_Comp, ↓ev_Yes, ↓ev_ownz, ↓ev_owns, ↓ev_Append, ↓ev_Extend, ↓ev_Pop, ↓ev_PopAt, ↓ev_SetIx, ↓ev_wi0, ↓ev_wic, ↓ev_re0, ↓ev_rec, ↓ev_kvn, ↓ev_kvv, ↓ev_kvo, ↓ev_kvs, ↓ev_endrt, ↓ev_endnx, ↓ev_addi, ↓ev_addt, ↓ev_addl, ↓ev_adds, ↓ev_sub, ↓ev_muli, ↓ev_mull, ↓ev_mult, ↓ev_mod, ↓ev_div, ↓ev_pow, ↓ev_shl, ↓ev_cmp, ↓ev_lt, ↓ev_le, ↓ev_gt, ↓ev_ge, ↓ev_eqi, ↓ev_nei, ↓ev_eqs, ↓ev_nes, ↓ev_eqtt, ↓ev_eqll, ↓ev_nett, ↓ev_nell, ↓ev_isN, ↓ev_notN, ↓ev_neg, ↓ev_ixt, ↓ev_ixl, ↓ev_ix0, ↓ev_ix1, ↓ev_ix2, ↓ev_slt, ↓ev_sll, ↓ev_lent, ↓ev_lenl, ↓ev_tupt, ↓ev_tupl, ↓ev_inti, ↓ev_intb, ↓ev_abs, ↓ev_listt, ↓ev_listl, ↓ev_repr, ↓ev_Rev, ↓ev_isA, ↓ev_ndt, ↓ev_ndl, ↓ev_ndi, ↓ev_ndb, ↓ev_nds, ↓ev_ndn, ↓ev_iatt, ↓ev_iail, ↓ev_iaii, ↓ev_iabi, ↓ev_iaib, ↓ev_iabb, ↓ev_iass, ↓ev_iain, ↓ev_iain0, ↓ev_iatn0, ↓ev_Chain, ↓ev_Rng3, ↓asZip_l, ↓asZip_t, ↓ev_Zip, ↓ev_Rg1, ↓ev_Rg2, ↓ev_LstRg, ↓ev_TupRg, ↓ev_min2, ↓ev_max2, ↓ev_nnn, ↓ev_nni, ↓ev_nnt, ↓ev_nnl, ↓ev_nns, ↓ev_nnb, ↓ev_OpL, ↓ev_cat, ↓ev_rep, ↓ev_elrt, ↓ev_draw, ↓ev_ownDz, ↓ev_ownDs, ↓ev_DPut, ↓ev_newD, ↓ev_disp1, ↓ev_ParL, ↓ev_R0, ↓ev_Rc, ↓ev_sls0, ↓ev_slsc, ↓ev_inl, ↓ev_int, ↓ev_ind, ↓ev_ninl, ↓ev_nint, ↓ev_nind, ↓ev_getD, ↓ev_listD, ↓ev_dictC, ↓ev_keyi, ↓ev_keys, ↓ev_IfT, ↓ev_Index, ↓asTup_e, ↓ev_RevT, ↓ev_Remove, ↓ev_isB, ↓ev_notB, ↓ev_Count, ↓ev_nox, ↓ev_CallX, ↓ev_Raise, ↓ev_Try1, ↓ev_Err, ↓ev_IfC, ↓ev_wrt, ↓ev_wnx, ↓ev_ExtendT, ↓ev_ZipLT, ↓ev_ZipTL, ↓ev_SortSet, ↓ev_ZipTX, ↓ev_OrV, ↓ev_mulE, ↓ev_mulEl, ↓ev_mulEi, ↓ev_reprE, ↓ev_boolI, ↓ev_strI, ↓ev_ia_tuple_bl, ↓ev_ia_tuple_int, ↓ev_ia_tuple_str, ↓ev_ia_tuple_lst, ↓ev_ia_tuple_dct, ↓ev_ia_int_str, ↓ev_ia_int_lst, ↓ev_ia_int_dct, ↓ev_ia_str_non, ↓ev_ia_str_bl, ↓ev_ia_str_int, ↓ev_ia_str_tup, ↓ev_ia_str_lst, ↓ev_ia_str_dct, ↓ev_ia_bool_non, ↓ev_ia_bool_str, ↓ev_ia_bool_tup, ↓ev_ia_bool_lst, ↓ev_ia_bool_dct, ↓ev_ia_list_non, ↓ev_ia_list_bl, ↓ev_ia_list_int, ↓ev_ia_list_str, ↓ev_ia_list_tup, ↓ev_ia_list_dct, ↓ev_ia_dict_non, ↓ev_ia_dict_bl, ↓ev_ia_dict_int, ↓ev_ia_dict_str, ↓ev_ia_dict_tup, ↓ev_ia_dict_lst, ↓ev_ia_dict_dct, ↓ev_Told, ↓asDK_e, ↓ev_Chain3, ↓ev_SortK, ↓asDT_e, ↓ev_SetPL, ↓ev_CallSw, ↓ev_IndexT, ↓ev_TryA, ↓ev_Told3, ↓ev_Insert, ↓asStr_s, ↓ev_StrI, ↓asStrs_l, ↓asStrs_t, ↓ev_Split, ↓ev_Join, ↓ev_CountS, ↓ev_StartS, ↓ev_Fmt, ↓ev_fmts, ↓ev_fmti, ↓ev_JsN, ↓ev_JsC, ↓ev_Fstr, ↓ev_intS, ↓ev_lens, ↓ev_ixs, ↓ev_notins, ↓ev_ins, ↓ev_slss, ↓ev_mulS, ↓List.set_cons_zero, ↓List.set_cons_succ, ↓exists_eq_left', List.length_cons, List.length_nil, Nat.reduceAdd, Nat.reduceLeDiff, true_and, and_true, decide_true, decide_false, Bool.not_true, Bool.not_false, List.nil_append])
local macro_rules | `(tactic| walk_at "e") => `(tactic| simp only [↓getS_z, ↓getS_s, ↓asBl_e, ↓asInt_e, ↓asLst_e, ↓asSeq_l, ↓asSeq_t, ↓ifK_t, ↓ifK_f, ↓ev_C, ↓ev_Var, ↓ev_frv, ↓ev_fro, ↓ev_topv, ↓ev_topo, ↓ev_frl, ↓ev_frd, ↓ev_odv, ↓ev_odn, ↓ev_fiv, ↓ev_fin, ↓ev_Op, ↓ev_Un, ↓ev_UL, ↓ev_Bb, ↓ev_Tst, ↓ev_AndT, ↓ev_OrT, ↓ev_NotT, ↓ev_And, ↓ev_Or, ↓ev_Not, ↓ev_IfE, ↓ev_A0, ↓ev_Ac, ↓ev_Tup, ↓ev_Lst, ↓ev_Frz, ↓ev_NoP, ↓ev_Part, ↓ev_Sl, ↓ev_SeqI, ↓ev_EnumI, ↓ev_Rng1, ↓ev_Rng2, ↓ev_nm, ↓ev_tp, ↓ev_tp0, ↓ev_tpc, ↓ev_Next, ↓ev_Seq, ↓ev_Break, ↓ev_Cont, ↓ev_Drop, ↓ev_Ret, ↓ev_RetN, ↓ev_If, ↓ev_Set, ↓ev_SetL, ↓ev_SetP, ↓ev_rhv, ↓ev_rho, ↓ev_Par, ↓ev_For, ↓ev_Yes, ↓ev_ownz, ↓ev_owns, ↓ev_Append, ↓ev_Extend, ↓ev_Pop, ↓ev_PopAt, ↓ev_SetIx, ↓ev_wi0, ↓ev_wic, ↓ev_re0, ↓ev_rec, ↓ev_kvn, ↓ev_kvv, ↓ev_kvo, ↓ev_kvs, ↓ev_endrt, ↓ev_endnx, ↓ev_addi, ↓ev_addt, ↓ev_addl, ↓ev_adds, ↓ev_sub, ↓ev_muli, ↓ev_mull, ↓ev_mult, ↓ev_mod, ↓ev_div, ↓ev_pow, ↓ev_shl, ↓ev_cmp, ↓ev_lt, ↓ev_le, ↓ev_gt, ↓ev_ge, ↓ev_eqi, ↓ev_nei, ↓ev_eqs, ↓ev_nes, ↓ev_eqtt, ↓ev_eqll, ↓ev_nett, ↓ev_nell, ↓ev_isN, ↓ev_notN, ↓ev_neg, ↓ev_ixt, ↓ev_ixl, ↓ev_ix0, ↓ev_ix1, ↓ev_ix2, ↓ev_slt, ↓ev_sll, ↓ev_lent, ↓ev_lenl, ↓ev_tupt, ↓ev_tupl, ↓ev_inti, ↓ev_intb, ↓ev_abs, ↓ev_listt, ↓ev_listl, ↓ev_repr, ↓ev_Rev, ↓ev_isA, ↓ev_ndt, ↓ev_ndl, ↓ev_ndi, ↓ev_ndb, ↓ev_nds, ↓ev_ndn, ↓ev_iatt, ↓ev_iail, ↓ev_iaii, ↓ev_iabi, ↓ev_iaib, ↓ev_iabb, ↓ev_iass, ↓ev_iain, ↓ev_iain0, ↓ev_iatn0, ↓ev_Chain, ↓ev_Rng3, ↓asZip_l, ↓asZip_t, ↓ev_Zip, ↓ev_Rg1, ↓ev_Rg2, ↓ev_LstRg, ↓ev_TupRg, ↓ev_min2, ↓ev_max2, ↓ev_nnn, ↓ev_nni, ↓ev_nnt, ↓ev_nnl, ↓ev_nns, ↓ev_nnb, ↓ev_OpL, ↓ev_cat, ↓ev_rep, ↓ev_elrt, ↓evk_Comp, ↓evk_KC, ↓evk_Call, ↓evk_draw, ↓ev_ownDz, ↓ev_ownDs, ↓ev_DPut, ↓ev_newD, ↓ev_disp1, ↓ev_ParL, ↓ev_R0, ↓ev_Rc, ↓ev_sls0, ↓ev_slsc, ↓ev_inl, ↓ev_int, ↓ev_ind, ↓ev_ninl, ↓ev_nint, ↓ev_nind, ↓ev_getD, ↓ev_listD, ↓ev_dictC, ↓ev_keyi, ↓ev_keys, ↓ev_IfT, ↓ev_Index, ↓asTup_e, ↓ev_RevT, ↓ev_Remove, ↓ev_isB, ↓ev_notB, ↓ev_Count, ↓ev_nox, ↓ev_CallX, ↓ev_Raise, ↓ev_Try1, ↓ev_Err, ↓ev_IfC, ↓ev_wrt, ↓ev_wnx, ↓ev_ExtendT, ↓ev_ZipLT, ↓ev_ZipTL, ↓ev_SortSet, ↓ev_ZipTX, ↓evk_CompO, ↓evk_KCO, ↓ev_OrV, ↓ev_mulE, ↓ev_mulEl, ↓ev_mulEi, ↓ev_reprE, ↓ev_boolI, ↓ev_strI, ↓ev_ia_tuple_bl, ↓ev_ia_tuple_int, ↓ev_ia_tuple_str, ↓ev_ia_tuple_lst, ↓ev_ia_tuple_dct, ↓ev_ia_int_str, ↓ev_ia_int_lst, ↓ev_ia_int_dct, ↓ev_ia_str_non, ↓ev_ia_str_bl, ↓ev_ia_str_int, ↓ev_ia_str_tup, ↓ev_ia_str_lst, ↓ev_ia_str_dct, ↓ev_ia_bool_non, ↓ev_ia_bool_str, ↓ev_ia_bool_tup, ↓ev_ia_bool_lst, ↓ev_ia_bool_dct, ↓ev_ia_list_non, ↓ev_ia_list_bl, ↓ev_ia_list_int, ↓ev_ia_list_str, ↓ev_ia_list_tup, ↓ev_ia_list_dct, ↓ev_ia_dict_non, ↓ev_ia_dict_bl, ↓ev_ia_dict_int, ↓ev_ia_dict_str, ↓ev_ia_dict_tup, ↓ev_ia_dict_lst, ↓ev_ia_dict_dct, ↓ev_Told, ↓asDK_e, ↓evk_CompK, ↓ev_Chain3, ↓ev_SortK, ↓asDT_e, ↓evk_CompKT, ↓ev_SetPL, ↓ev_CallSw, ↓ev_IndexT, ↓ev_TryA, ↓ev_Told3, ↓ev_Insert, ↓asStr_s, ↓ev_StrI, ↓asStrs_l, ↓asStrs_t, ↓ev_Split, ↓ev_Join, ↓ev_CountS, ↓ev_StartS, ↓ev_Fmt, ↓ev_fmts, ↓ev_fmti, ↓ev_JsN, ↓ev_JsC, ↓ev_Fstr, ↓ev_intS, ↓ev_lens, ↓ev_ixs, ↓ev_notins, ↓ev_ins, ↓ev_slss, ↓ev_mulS, ↓List.set_cons_zero, ↓List.set_cons_succ, ↓exists_eq_left', List.length_cons, List.length_nil, Nat.reduceAdd, Nat.reduceLeDiff, true_and, and_true, decide_true, decide_false, Bool.not_true, Bool.not_false, List.nil_append])
namespace DL
def digS : Str := "0123456789"
theorem dig_mem {c : Nat} : c ∈ digS.cps.toList ↔ 48 ≤ c ∧ c ≤ 57 := by
  have e : digS.cps.toList = [48, 49, 50, 51, 52, 53, 54, 55, 56, 57] := by decide +kernel
  rw [e]
  simp only [List.mem_cons, List.mem_nil_iff, or_false]
  omega
abbrev sgn_s (w : Str) : List Nat := w.cps.toList
def allDig (w : Str) : Bool := (sgn_s w).all fun c => decide (48 ≤ c ∧ c ≤ 57)
theorem allDig_iff {w : Str} : allDig w = true ↔ NumText.AllDigits (sgn_s w) := by
  unfold allDig NumText.AllDigits
  rw [List.all_eq_true]
  exact ⟨fun h c hc => of_decide_eq_true (h c hc), fun h c hc => decide_eq_true (h c hc)⟩
def right0 (w : Str) : Bool := decide (w = Str.ofString "0") || decide ((sgn_s w).head? ≠ some 48)
def numN (w : Str) : Option Int := if decide (1 ≤ w.length ∧ w.length ≤ 13) && allDig w && right0 w then some (NumText.digitsVal (sgn_s w) : Nat) else none
def lawN (w : Str) : Int := if decide (1 ≤ w.length ∧ w.length ≤ 15) && allDig w && right0 w then ((NumText.digitsVal (sgn_s w) : Nat) : Int) else -1
theorem len_sg (w : Str) : (sgn_s w).length = w.length := Array.length_toList
theorem sgn_ne {w : Str} (h : 1 ≤ w.length) : sgn_s w ≠ [] := fun e => by
  have := len_sg w
  rw [e] at this
  simp at this; omega
theorem int_dig {w : Str} (h : allDig w = true) (h1 : 1 ≤ w.length) (h2 : w.length ≤ 15) : PySem.intText? w = some ((NumText.digitsVal (sgn_s w) : Nat) : Int) :=
  PySem.intText_digits (allDig_iff.mp h) (sgn_ne h1) (by omega)
theorem val_great : ∀ {cs : List Nat} {c : Nat}, NumText.AllDigits (c :: cs) → c ≠ 48 → 10 ^ cs.length ≤ NumText.digitsVal (c :: cs) := by
  intro cs
  have key : ∀ (cs : List Nat) (a : Nat), 1 ≤ a → 10 ^ cs.length ≤ cs.foldl (fun acc c => acc * 10 + (c - 48)) a := fun cs => by
    induction cs with
    | nil => intro a ha; simpa using ha
    | cons c r ih =>
      intro a ha
      have step : ∀ (r : List Nat) (a b : Nat), a * 10 ^ r.length ≤ r.foldl (fun acc c => acc * 10 + (c - 48)) a := fun r => by
        induction r with
        | nil => intro a b; simp
        | cons d r ih =>
          intro a b
          have := ih (a * 10 + (d - 48)) b
          rw [List.foldl_cons, List.length_cons, Nat.pow_succ]
          refine Nat.le_trans ?_ this
          rw [show a * (10 ^ r.length * 10) = (a * 10) * 10 ^ r.length by rw [Nat.mul_comm (10 ^ r.length) 10, Nat.mul_assoc]]
          exact Nat.mul_le_mul_right _ (by omega)
      have := step (c :: r) a 0
      refine Nat.le_trans ?_ this
      exact Nat.le_mul_of_pos_left _ ha
  intro c h hc
  have := h.head
  show 10 ^ cs.length ≤ cs.foldl _ (0 * 10 + (c - 48))
  exact key cs _ (by omega)
theorem lawN_some {w : Str} {n : Int} (h : numN w = some n) : lawN w = n ∧ 0 ≤ n := by
  unfold numN at h
  unfold lawN
  split at h
  · rename_i c
    simp only [Bool.and_eq_true, decide_eq_true_eq] at c
    cases h
    rw [if_pos (by simp only [Bool.and_eq_true, decide_eq_true_eq]; exact ⟨⟨⟨c.1.1.1, by omega⟩, c.1.2⟩, c.2⟩)]
    exact ⟨rfl, by omega⟩
  · cases h
theorem lawN_none {w : Str} (h : numN w = none) : lawN w = -1 ∨ 10000000000000 ≤ lawN w := by
  unfold numN at h
  unfold lawN
  split at h
  · cases h
  · rename_i c
    split
    · rename_i d
      right
      simp only [Bool.and_eq_true, decide_eq_true_eq] at c d
      have hl : 14 ≤ w.length := by
        rcases Nat.lt_or_ge w.length 14 with x | x
        · exact absurd ⟨⟨⟨d.1.1.1, by omega⟩, d.1.2⟩, d.2⟩ c
        · exact x
      have hd := allDig_iff.mp d.1.2
      have hlen := len_sg w
      cases e : sgn_s w with
      | nil => rw [e] at hlen; simp at hlen; omega
      | cons c cs =>
        have hc : c ≠ 48 := by
          have hr := d.2
          unfold right0 at hr
          rw [e] at hr
          rcases Bool.or_eq_true_iff.mp hr with hr | hr
          · have := of_decide_eq_true hr
            rw [this] at hl
            exact absurd hl (by decide +kernel)
          · intro e2; subst e2; simp at hr
        rw [e] at hd hlen
        have := val_great hd hc
        rw [List.length_cons] at hlen
        have h13 : 10 ^ 13 ≤ 10 ^ cs.length := Nat.pow_le_pow_right (by decide) (by omega)
        have : (10 : Nat) ^ 13 ≤ NumText.digitsVal (c :: cs) := Nat.le_trans h13 this
        omega
    · exact .inl rfl
theorem any_dig (w : Str) : ((sgn_s w).map fun c => !decide (c ∈ digS.cps.toList)).any id = !allDig w := by
  unfold allDig
  rw [List.any_map]
  generalize sgn_s w = l
  induction l with
  | nil => rfl
  | cons c r ih =>
    rw [List.any_cons, List.all_cons, ih]
    have : decide (c ∈ digS.cps.toList) = decide (48 ≤ c ∧ c ≤ 57) := by rw [decide_eq_decide]; exact dig_mem
    simp only [Function.comp, id, this, Bool.not_and]
theorem sign_cons {w : Str} (h : 1 ≤ w.length) : ∃ d r, sgn_s w = d :: r := by
  cases e : sgn_s w with
  | nil => exact absurd e (sgn_ne h)
  | cons d r => exact ⟨d, r, rfl⟩
theorem num_end {w : Str} {R : Int → Prop} {N : Prop} (hw : w.length ≤ 16777216) (c1 : 1 ≤ w.length) (c2 : w.length ≤ 15) (hd : allDig w = true) (hy : right0 w = true → R ((NumText.digitsVal (sgn_s w) : Nat) : Int)) (hn : right0 w = false → N) :
    ifK (decide (w = Str.ofString "0")) (∃ n, PySem.intText? w = some n ∧ w.length ≤ 640 ∧ R n) (w.length ≤ 16777216 ∧ ∃ c, atI w.cps.toList 0 = some c ∧ ifK (!decide ((⟨#[c]⟩ : Str) = Str.ofString "0")) (∃ n, PySem.intText? w = some n ∧ w.length ≤ 640 ∧ R n) N) := by
  have hi := int_dig hd c1 c2
  refine ifK_d (fun c => ⟨_, hi, by omega, hy (by unfold right0; rw [decide_eq_true c]; rfl)⟩) fun c => ⟨hw, ?_⟩
  obtain ⟨d, r, e⟩ := sign_cons c1
  refine ⟨d, by rw [show w.cps.toList = d :: r from e]; exact atI_nat (j := 0) rfl, ?_⟩
  have hr : right0 w = decide (d ≠ 48) := by
    unfold right0
    rw [decide_eq_false c, e]
    simp
  refine ifK_i (fun h => ⟨_, hi, by omega, hy ?_⟩) fun h => hn ?_
  · rw [hr]; exact decide_eq_true fun e2 => by subst e2; revert h; decide +kernel
  · rw [hr]; exact decide_eq_false fun e2 => by
      have : (⟨#[d]⟩ : Str) = Str.ofString "0" := by simpa using h
      have e3 : Str.ofString "0" = ⟨#[48]⟩ := by decide +kernel
      rw [e3] at this
      exact e2 (sign_inj (congrArg D.str this))
theorem spl_in (S : List Nat) : ∀ (l : List Nat) (k : Nat) (acc : List Nat), ∀ p ∈ TL.spl S k acc l, ∀ c ∈ p, c ∈ acc ∨ c ∈ l
  | [], k, acc, p, hp, c, hc => by
    rw [TL.spl_nil] at hp
    rw [List.mem_singleton.mp hp] at hc; exact .inl hc
  | x :: r, 0, acc, p, hp, c, hc => by
    unfold TL.spl at hp
    split at hp
    · rcases List.mem_cons.mp hp with rfl | hp
      · exact .inl hc
      · rcases spl_in S r _ _ p hp c hc with h | h
        · cases h
        · exact .inr (by simp [h])
    · rcases spl_in S r _ _ p hp c hc with h | h
      · rcases List.mem_append.mp h with h | h
        · exact .inl h
        · exact .inr (by simp [List.mem_singleton.mp h])
      · exact .inr (by simp [h])
  | x :: r, k + 1, acc, p, hp, c, hc => by
    unfold TL.spl at hp
    rcases spl_in S r _ _ p hp c hc with h | h
    · exact .inl h
    · exact .inr (by simp [h])
theorem spl_sum (S : List Nat) : ∀ (l : List Nat) (k : Nat) (acc : List Nat), ((TL.spl S k acc l).map (·.length)).sum ≤ acc.length + l.length
  | [], k, acc => by rw [TL.spl_nil]; simp
  | x :: r, 0, acc => by
    unfold TL.spl
    split
    · have := spl_sum S r (S.length - 1) []
      rw [List.map_cons, List.sum_cons, List.length_cons]
      simp only [List.length_nil] at this; omega
    · have := spl_sum S r 0 (acc ++ [x])
      rw [List.length_append, List.length_singleton] at this
      rw [List.length_cons]; omega
  | x :: r, k + 1, acc => by
    unfold TL.spl
    have := spl_sum S r k acc
    rw [List.length_cons]; omega
theorem split_tl (x : Str) (c : Nat) (hc : c < 256) : (Txt.split x ⟨#[c]⟩).map TL.tl = TL.spl [c] 0 [] (TL.tl x) :=
  TL.split_spl x ⟨#[c]⟩ (by simp [TL.tl]) (TL.kind_ok (by simp [hc]))
theorem split_sgn {x : Str} {c : Nat} (hc : c < 256) {p : Str} (hp : p ∈ Txt.split x ⟨#[c]⟩) : ∀ a ∈ sgn_s p, a ∈ sgn_s x := fun a ha => by
  have := split_tl x c hc
  have hm : TL.tl p ∈ TL.spl [c] 0 [] (TL.tl x) := by rw [← this]; exact List.mem_map.mpr ⟨p, hp, rfl⟩
  rcases spl_in _ _ _ _ _ hm a ha with h | h
  · cases h
  · exact h
theorem split_sum (x : Str) {c : Nat} (hc : c < 256) : ((Txt.split x ⟨#[c]⟩).map (·.length)).sum ≤ x.length := by
  have := spl_sum [c] (TL.tl x) 0 []
  rw [← split_tl x c hc, List.map_map] at this
  have e : ((Txt.split x ⟨#[c]⟩).map (List.length ∘ TL.tl)) = (Txt.split x ⟨#[c]⟩).map (·.length) := List.map_congr_left fun p _ => (TL.len_tl p).symm
  rw [show ((fun x : List Nat => x.length) ∘ TL.tl) = (List.length ∘ TL.tl) from rfl, e, ← TL.len_tl] at this
  simpa using this
theorem sum_mem : ∀ {l : List Str} {p : Str}, p ∈ l → p.length ≤ (l.map (·.length)).sum
  | a :: r, p, h => by
    rw [List.map_cons, List.sum_cons]
    rcases List.mem_cons.mp h with rfl | h
    · omega
    · have := sum_mem h; omega
theorem split_len1 {x : Str} {c : Nat} (hc : c < 256) {p : Str} (hp : p ∈ Txt.split x ⟨#[c]⟩) : p.length ≤ x.length := Nat.le_trans (sum_mem hp) (split_sum x hc)
theorem strOk_in {x p : Str} (h : PyData.strOk x = true) (hp : ∀ a ∈ sgn_s p, a ∈ sgn_s x) : PyData.strOk p = true := by
  unfold PyData.strOk at *
  rw [Array.all_eq_true'] at *
  intro a ha
  exact h a (Array.mem_toList_iff.mp (hp a (Array.mem_toList_iff.mpr ha)))
def rdW (w : Str) : Option (Int × Int) := match Txt.split w (Str.ofString ":") with
  | [a, b] => match numN a, numN b with
    | some x, some y => if 1 ≤ x ∧ x ≤ 1000000000000 ∧ y < x then some (x, y) else none
    | _, _ => none
  | _ => none
theorem rdW_w {w : Str} {p : Int × Int} (h : rdW w = some p) : IsW p := by
  unfold rdW at h
  split at h
  · split at h
    · rename_i hx hy
      split at h
      · cases h
        exact ⟨by show 1 ≤ _; omega, by show _ ≤ _; omega, (lawN_some hy).2, by show _ < _; omega⟩
      · cases h
    · cases h
  · cases h
def rdWs : List Str → Nat → List (Int × Int) → Nat ⊕ List (Int × Int)
  | [], _, acc => .inr acc
  | w :: r, k, acc => match rdW w with
    | some p => if k < 10 then rdWs r (k + 1) (acc ++ [p]) else .inl k
    | none => .inl k
end DL
namespace DL
def sp_number_of : DSp := fun ds K => ∃ w : Str, ds = [.str w] ∧ w.length ≤ 16777216 ∧ K (encO (numN w))
theorem ms_number_of : MonoSp sp_number_of := fun ds K K' h ⟨w, e, a, q⟩ => ⟨w, e, a, h _ q⟩
theorem len_number_of : ∀ ds Q, sp_number_of ds Q → ds.length = 1 := fun ds Q ⟨w, e, _⟩ => by rw [e]; rfl
end DL
def b_number_of : DSm :=
  (dSeq (dIf (dOrT (dNotT (dTst (dChain (fun i j => decide (i ≤ j)) (fun i j => decide (i ≤ j)) (dC (.int 1)) (dUn opLen (.n 0)) (dC (.int 13))))) (dTst (dUn opAny (.v (dFrz (dComp (dStrI (dVar 0)) (.nm 1) dYes (dOp opNotIn (.n 1) (.v (dC (.str "0123456789")))) [1])))))) (dRet (dC .non)) dNext)
  (dRet (dIfE (dOrT (dTst (dOp opEq (.n 0) (.v (dC (.str "0"))))) (dTst (dOp opNe (.v (dOp opIx (.n 0) (.v (dC (.int 0))))) (.v (dC (.str "0")))))) (dUn opIntS (.n 0)) (dC .non))))
def N_number_of : List Str := ["word", "sign"]
namespace DL
theorem number_of_ok : ∀ ds Q, sp_number_of ds Q → b_number_of (endD Q) (startD N_number_of ds) := by
  rintro _ Q ⟨w, rfl, hw, q⟩
  show b_number_of (endD Q) [some (.val (.str w)), none]
  unfold b_number_of
  walk_at "e"
  have hno : ¬ (1 ≤ w.length ∧ w.length ≤ 13) → Q .non := fun h => by
    have : numN w = none := by unfold numN; rw [decide_eq_false h]; rfl
    rw [this] at q; exact q
  refine ⟨hw, ifK_d (fun c1 => ?_) fun c1 => hno (by omega)⟩
  refine ifK_i (fun c2 => hno (by simp at c2; omega)) fun c2 => ?_
  have c2 : w.length ≤ 13 := by simp at c2; omega
  have c1 : 1 ≤ w.length := by omega
  unfold signsD
  refine comp_map (fun c => D.str ⟨#[c]⟩) (fun c => D.bl (!decide (c ∈ digS.cps.toList))) (by rw [len_sg]; omega) ?_ ?_
  · intro c hc C hC
    walk_at "e"
    exact hC
  walk_at "e"
  refine ⟨(sgn_s w).map fun c => !decide (c ∈ digS.cps.toList), by rw [List.map_map]; rfl, ?_⟩
  rw [any_dig]
  walk_at "e"
  cases hd : allDig w with
  | false =>
    walk_at "e"
    have : numN w = none := by unfold numN; rw [hd]; simp
    rw [this] at q; exact q
  | true =>
    walk_at "e"
    have hy : right0 w = true → Q (.int ((NumText.digitsVal (sgn_s w) : Nat) : Int)) := fun h => by
      have : numN w = some ((NumText.digitsVal (sgn_s w) : Nat) : Int) := by
        unfold numN; rw [hd, h, decide_eq_true ⟨c1, c2⟩]; rfl
      rw [this] at q; exact q
    have hn : right0 w = false → Q .non := fun h => by
      have : numN w = none := by unfold numN; rw [h]; simp
      rw [this] at q; exact q
    exact num_end (R := fun n => Q (.int n)) hw c1 (by omega) hd hy hn
end DL
namespace DL
def sp_law_number : DSp := fun ds K => ∃ w : Str, ds = [.str w] ∧ w.length ≤ 900000 ∧ PyData.strOk w = true ∧ K (.int (lawN w))
theorem ms_law_number : MonoSp sp_law_number := fun ds K K' h ⟨w, e, a, b, q⟩ => ⟨w, e, a, b, h _ q⟩
theorem len_law_number : ∀ ds Q, sp_law_number ds Q → ds.length = 1 := fun ds Q ⟨w, e, _⟩ => by rw [e]; rfl
end DL
def b_law_number : DSm :=
  (dSeq (dIf (dOrT (dTst (dOp opEq (.n 0) (.v (dC (.str ""))))) (dOrT (dTst (dOp opNe (.v (dFrz (dComp (dStrI (dVar 0)) (.nm 1) (dTst (dOp opNotIn (.n 1) (.v (dC (.str "0123456789"))))) (dVar 1) [1]))) (.v (dFrz (dLst dA0))))) (dTst (dOp opGt (.v (dUn opLen (.n 0))) (.v (dC (.int 15))))))) (dRet (dUn opNeg (.v (dC (.int 1))))) dNext)
  (dRet (dIfE (dOrT (dTst (dOp opEq (.n 0) (.v (dC (.str "0"))))) (dTst (dOp opNe (.v (dOp opIx (.n 0) (.v (dC (.int 0))))) (.v (dC (.str "0")))))) (dUn opIntS (.n 0)) (dUn opNeg (.v (dC (.int 1)))))))
def N_law_number : List Str := ["word", "sign"]
namespace DL
theorem law_number_ok : ∀ ds Q, sp_law_number ds Q → b_law_number (endD Q) (startD N_law_number ds) := by
  rintro _ Q ⟨w, rfl, hw, hok, q⟩
  show b_law_number (endD Q) [some (.val (.str w)), none]
  unfold b_law_number
  walk_at "e"
  have hno : ¬ (1 ≤ w.length ∧ w.length ≤ 15) ∨ allDig w = false ∨ right0 w = false → Q (.int (-1)) := fun h => by
    have : lawN w = -1 := by
      unfold lawN
      rcases h with h | h | h
      · rw [decide_eq_false h]; rfl
      · rw [h]; simp
      · rw [h]; simp
    rw [this] at q; exact q
  have e0 : Str.ofString "" = ⟨#[]⟩ := by decide +kernel
  refine ifK_d (fun c => hno (.inl (by rw [c, e0]; decide))) fun c => ?_
  have c1 : 1 ≤ w.length := by
    rcases Nat.lt_or_ge w.length 1 with x | x
    · exfalso; apply c
      rw [e0]
      have : w.cps = #[] := Array.eq_empty_of_size_eq_zero (by have : w.cps.size = w.length := rfl; omega)
      cases w; simp only at this; rw [this]
    · exact x
  unfold signsD
  refine comp_enc (fun c => D.str ⟨#[c]⟩) (fun c => if (!decide (c ∈ digS.cps.toList)) = true then some (D.str ⟨#[c]⟩) else none) (by rw [len_sg]; omega) ?_ ?_
  · intro c hc C hC
    walk_at "e"
    rw [show Str.ofString "0123456789" = digS from rfl]
    by_cases x : (!decide (c ∈ digS.cps.toList)) = true
    · rw [if_pos x] at hC ⊢; exact hC
    · rw [if_neg x] at hC ⊢; exact hC
  walk_at "e"
  refine ⟨?_, rfl, ?_⟩
  · rw [ok_lst, List.all_eq_true]
    intro d hd
    obtain ⟨c, hc, e⟩ := List.mem_filterMap.mp hd
    split at e
    · cases e
      show PyData.strOk ⟨#[c]⟩ = true
      refine strOk_in hok fun a ha => ?_
      have : a = c := by simpa [sgn_s] using ha
      subst this; exact hc
    · cases e
  have hnil : ∀ l : List Nat, (l.filterMap fun c => if (!decide (c ∈ digS.cps.toList)) = true then some (D.str ⟨#[c]⟩) else none) = [] → ∀ c ∈ l, 48 ≤ c ∧ c ≤ 57 := fun l h c hc => by
    rw [List.filterMap_eq_nil_iff] at h
    have := h c hc
    split at this
    · cases this
    · rename_i x
      exact dig_mem.mp (by simpa using x)
  have hcons : ∀ l : List Nat, (l.filterMap fun c => if (!decide (c ∈ digS.cps.toList)) = true then some (D.str ⟨#[c]⟩) else none) ≠ [] → (l.all fun c => decide (48 ≤ c ∧ c ≤ 57)) = false := fun l h => by
    cases e : (l.all fun c => decide (48 ≤ c ∧ c ≤ 57)) with
    | false => rfl
    | true =>
      rw [List.all_eq_true] at e
      exact absurd (List.filterMap_eq_nil_iff.mpr fun c hc => by rw [if_neg (by simpa using dig_mem.mpr (of_decide_eq_true (e c hc)))]) h
  have h1 := hnil w.cps.toList
  have h2 := hcons w.cps.toList
  generalize (w.cps.toList.filterMap fun c => if (!decide (c ∈ digS.cps.toList)) = true then some (D.str ⟨#[c]⟩) else none) = L at *
  cases L with
  | cons x r => exact hno (.inr (.inl (h2 (by simp))))
  | nil =>
    have hd : allDig w = true := allDig_iff.mpr fun c hc => h1 rfl c hc
    refine ifK_i (fun h => absurd h (by decide)) fun _ => ⟨by omega, ifK_d (fun c => hno (.inl (by omega))) fun c15 => ?_⟩
    refine num_end (R := fun n => Q (.int n)) (by omega) c1 (by omega) hd (fun h => ?_) fun h => hno (.inr (.inr h))
    have : lawN w = ((NumText.digitsVal (sgn_s w) : Nat) : Int) := by
      unfold lawN; rw [hd, h, decide_eq_true ⟨c1, by omega⟩]; rfl
    rw [this] at q; exact q
end DL
namespace DL
def optW : Option (Int × Int) → D
  | some p => W2 p
  | none => .non
def sp_watch_of : DSp := fun ds K => ∃ w : Str, ds = [.str w] ∧ w.length ≤ 900000 ∧ K (optW (rdW w))
theorem ms_watch_of : MonoSp sp_watch_of := fun ds K K' h ⟨w, e, a, q⟩ => ⟨w, e, a, h _ q⟩
theorem len_watch_of : ∀ ds Q, sp_watch_of ds Q → ds.length = 1 := fun ds Q ⟨w, e, _⟩ => by rw [e]; rfl
def colS : Str := ⟨#[58]⟩
theorem col_eq : Str.ofString ":" = colS := by decide +kernel
theorem spc_eq : Str.ofString " " = ⟨#[32]⟩ := by decide +kernel
theorem rdW_two {w a b : Str} (e : Txt.split w (Str.ofString ":") = [a, b]) : rdW w = match numN a, numN b with
    | some x, some y => if 1 ≤ x ∧ x ≤ 1000000000000 ∧ y < x then some (x, y) else none
    | _, _ => none := by unfold rdW; rw [e]
theorem rdW_not {w : Str} (e : (Txt.split w (Str.ofString ":")).length ≠ 2) : rdW w = none := by
  unfold rdW
  split
  · rename_i h; rw [h] at e; exact absurd rfl e
  · rfl
theorem judge1 (a b : Str) : ∀ w, Txt.split w (Str.ofString ":") = [a, b] → ((watchE (.tup [encO (numN a), encO (numN b)])).isNon = true → rdW w ≠ none ∧ optW (rdW w) = .tup [encO (numN a), encO (numN b)]) ∧ ((watchE (.tup [encO (numN a), encO (numN b)])).isNon = false → rdW w = none) := fun w e => by
  rw [rdW_two e, watchE_two]
  cases ha : numN a with
  | none => exact ⟨fun h => by simp [encO, wholeD, D.isNon] at h, fun _ => rfl⟩
  | some x =>
    have hx : wholeD (encO (some x)) 1 1000000000000 = (decide (1 ≤ x) && decide (x ≤ 1000000000000)) := rfl
    rw [hx]
    cases hb : numN b with
    | none =>
      refine ⟨fun h => ?_, fun _ => rfl⟩
      split at h
      · simp [encO, wholeD, D.isNon] at h
      · simp [D.isNon] at h
    | some y =>
      have hy : wholeD (encO (some y)) 0 (toI (encO (some x)) - 1) = (decide (0 ≤ y) && decide (y ≤ x - 1)) := rfl
      rw [hy]
      have h0 := (lawN_some hb).2
      simp only
      by_cases c : 1 ≤ x ∧ x ≤ 1000000000000 ∧ y < x
      · rw [if_pos c, decide_eq_true c.1, decide_eq_true c.2.1, decide_eq_true h0, decide_eq_true (show y ≤ x - 1 by omega)]
        exact ⟨fun _ => ⟨by simp, rfl⟩, fun h => by simp [D.isNon] at h⟩
      · rw [if_neg c]
        refine ⟨fun h => ?_, fun _ => rfl⟩
        split at h
        · rename_i h1
          simp only [Bool.and_eq_true, decide_eq_true_eq] at h1
          split at h
          · rename_i h2
            simp only [Bool.and_eq_true, decide_eq_true_eq] at h2
            exact absurd ⟨h1.1, h1.2, by omega⟩ c
          · simp [D.isNon] at h
        · simp [D.isNon] at h
theorem judge2 (a b : Str) : ∀ w, Txt.split w (Str.ofString ":") = [a, b] → ((watchE (.tup [.int (lawN a), .int (lawN b)])).isNon = true → rdW w ≠ none ∧ optW (rdW w) = .tup [.int (lawN a), .int (lawN b)]) ∧ ((watchE (.tup [.int (lawN a), .int (lawN b)])).isNon = false → rdW w = none) := fun w e => by
  have hj := judge1 a b w e
  have key : (watchE (.tup [.int (lawN a), .int (lawN b)])).isNon = (watchE (.tup [encO (numN a), encO (numN b)])).isNon := by
    rw [watchE_two, watchE_two]
    have hA : wholeD (.int (lawN a)) 1 1000000000000 = wholeD (encO (numN a)) 1 1000000000000 := by
      cases ha : numN a with
      | none =>
        show (decide (1 ≤ lawN a) && decide (lawN a ≤ 1000000000000)) = false
        rcases lawN_none ha with h | h
        · rw [h]; rfl
        · rw [decide_eq_false (show ¬ lawN a ≤ 1000000000000 by omega), Bool.and_false]
      | some x => rw [(lawN_some ha).1]; rfl
    rw [hA]
    by_cases c : wholeD (encO (numN a)) 1 1000000000000 = true
    · rw [if_pos c, if_pos c]
      cases ha : numN a with
      | none => rw [ha] at c; simp [encO, wholeD] at c
      | some x =>
        rw [ha] at c
        have hx : lawN a = x := (lawN_some ha).1
        have c' : (decide (1 ≤ x) && decide (x ≤ 1000000000000)) = true := c
        simp only [Bool.and_eq_true, decide_eq_true_eq] at c'
        have hB : wholeD (.int (lawN b)) 0 (toI (.int (lawN a)) - 1) = wholeD (encO (numN b)) 0 (toI (encO (some x)) - 1) := by
          rw [hx]
          cases hb : numN b with
          | none =>
            show (decide (0 ≤ lawN b) && decide (lawN b ≤ x - 1)) = false
            rcases lawN_none hb with h | h
            · rw [h]; rfl
            · rw [decide_eq_false (show ¬ lawN b ≤ x - 1 by omega), Bool.and_false]
          | some y => rw [(lawN_some hb).1]; rfl
        rw [hB]
    · rw [if_neg c, if_neg c]
  refine ⟨fun h => ?_, fun h => hj.2 (by rw [← key]; exact h)⟩
  obtain ⟨h1, h2⟩ := hj.1 (by rw [← key]; exact h)
  refine ⟨h1, h2.trans ?_⟩
  have hn : ∀ u : Str, numN u ≠ none → encO (numN u) = .int (lawN u) := fun u hu => by
    cases hx : numN u with
    | none => exact absurd hx hu
    | some x => rw [(lawN_some hx).1]; rfl
  rw [rdW_two e] at h1
  rw [hn a fun h => by rw [h] at h1; exact h1 rfl, hn b fun h => by rw [h] at h1; split at h1 <;> first | exact h1 rfl | (rename_i q; cases q)]
end DL
def b_watch_of : DSm :=
  (dSeq (dSetL 1 (dSplit (dVar 0) (dC (.str ":"))))
  (dSeq (dIf (dTst (dOp opNe (.v (dUn opLen (.n 1))) (.v (dC (.int 2))))) (dRet (dC .non)) dNext)
  (dSeq (dSet 2 (dTup (dAc (dCall sp_number_of (dAc (dOp opIx (.n 1) (.v (dC (.int 0)))) dA0)) (dAc (dCall sp_number_of (dAc (dOp opIx (.n 1) (.v (dC (.int 1)))) dA0)) dA0))))
  (dRet (dIfE (dTst (dOp opIsN (.v (dCall sp_watch_error (dAc (dVar 2) dA0))) (.v (dC .non)))) (dVar 2) (dC .non))))))
def N_watch_of : List Str := ["word", "parts", "found"]
namespace DL
theorem watch_of_ok : ∀ ds Q, sp_watch_of ds Q → b_watch_of (endD Q) (startD N_watch_of ds) := by
  rintro _ Q ⟨w, rfl, hw, q⟩
  show b_watch_of (endD Q) [some (.val (.str w)), none, none]
  unfold b_watch_of
  walk_at "e"
  rw [List.length_map]
  refine ⟨by decide +kernel, by omega, ifK_i (fun h => ?_) fun h => ?_⟩
  · rw [rdW_not (w := w) (fun e => by rw [e] at h; simp at h)] at q
    exact q
  have h2 : (Txt.split w (Str.ofString ":")).length = 2 := by
    have : ((Txt.split w (Str.ofString ":")).length : Int) = 2 := by simpa using h
    omega
  have hlen : ∀ p ∈ Txt.split w (Str.ofString ":"), p.length ≤ w.length := fun p hp => by
    rw [col_eq] at hp; exact split_len1 (by decide) hp
  cases e : Txt.split w (Str.ofString ":") with
  | nil => rw [e] at h2; cases h2
  | cons a r =>
    cases r with
    | nil => rw [e] at h2; cases h2
    | cons b r2 =>
      cases r2 with
      | cons c r3 => rw [e] at h2; simp at h2
      | nil =>
        rw [e] at hlen
        obtain ⟨j1, j2⟩ := judge1 a b w e
        rw [List.map_cons, List.map_cons, List.map_nil]
        walk_at "e"
        refine ⟨a, rfl, by have := hlen a (by simp); omega, ?_⟩
        walk_at "e"
        refine ⟨b, rfl, by have := hlen b (by simp); omega, ?_⟩
        walk_at "e"
        have ok : (D.tup [encO (numN a), encO (numN b)]).okE 5 = true := by
          cases numN a <;> cases numN b <;> rfl
        refine ⟨_, 5, rfl, ok, ?_⟩
        walk_at "e"
        cases hj : (watchE (.tup [encO (numN a), encO (numN b)])).isNon with
        | true =>
          walk_at "e"
          rw [← (j1 hj).2]; exact q
        | false =>
          walk_at "e"
          rw [j2 hj] at q; exact q
end DL
namespace DL
def sp_parse_lot_x : DSpX := fun ds K Y => ∃ d : D, ds = [d] ∧ d ≠ .dk ∧ (∀ z, d = .str z → z.length ≤ 900000 ∧ (z = Str.ofString "none" → K (.tup [])) ∧ (z ≠ Str.ofString "none" → (∀ k : Nat, rdWs (Txt.split z (Str.ofString " ")) 0 [] = .inl k → Y "BadText" (.int k)) ∧ ∀ l, rdWs (Txt.split z (Str.ofString " ")) 0 [] = .inr l → K (LotD l))) ∧ ((∀ z, d ≠ .str z) → Y "BadText" .non)
theorem ms_parse_lot_x : MonoSpX sp_parse_lot_x := fun ds K K' Y Y' h h' ⟨d, e, a, b, c⟩ => ⟨d, e, a, fun z hz => ⟨(b z hz).1, fun x => h _ ((b z hz).2.1 x), fun x => ⟨fun k hk => h' _ _ (((b z hz).2.2 x).1 k hk), fun l hl => h _ (((b z hz).2.2 x).2 l hl)⟩⟩, fun x => h' _ _ (c x)⟩
theorem len_parse_lot_x : ∀ ds Q Y, sp_parse_lot_x ds Q Y → ds.length = 1 := fun ds Q Y ⟨l, e, _⟩ => by rw [e]; rfl
theorem not_str {d : D} (h : ∀ z, d ≠ .str z) (hd : d ≠ .dk) : D.isA "str" d = false := by
  cases d with
  | str z => exact absurd rfl (h z)
  | dk => exact absurd rfl hd
  | _ => rfl
theorem zipIdx_cut {ws : List Str} {pre post : List (Str × Nat)} {x : Str × Nat} (h : pre ++ x :: post = ws.zipIdx) : x.2 = pre.length ∧ ws = pre.map (·.1) ++ x.1 :: post.map (·.1) ∧ x.1 ∈ ws := by
  have h2 : ws = pre.map (·.1) ++ x.1 :: post.map (·.1) := by
    have := congrArg (List.map Prod.fst) h
    rw [List.zipIdx_map_fst, List.map_append, List.map_cons] at this
    exact this.symm
  refine ⟨?_, h2, by rw [h2]; simp⟩
  have h3 : (ws.zipIdx)[pre.length]? = some x := by rw [← h]; simp
  rw [List.getElem?_zipIdx] at h3
  obtain ⟨w, _, e⟩ := Option.map_eq_some_iff.mp h3
  rw [← e]; simp
theorem rdWs_step {w : Str} {r : List Str} {k : Nat} {acc : List (Int × Int)} : rdWs (w :: r) k acc = match rdW w with | some p => if k < 10 then rdWs r (k + 1) (acc ++ [p]) else .inl k | none => .inl k := rfl
theorem rdWs_go : ∀ (pre : List Str) (ps : List (Int × Int)) (k : Nat) (acc : List (Int × Int)) (post : List Str), pre.map rdW = ps.map some → k + pre.length ≤ 10 → rdWs (pre ++ post) k acc = rdWs post (k + pre.length) (acc ++ ps)
  | [], [], k, acc, post, _, _ => by simp
  | [], p :: ps, _, _, _, h, _ => by simp at h
  | w :: pre, [], _, _, _, h, _ => by simp at h
  | w :: pre, p :: ps, k, acc, post, h, hk => by
    rw [List.map_cons, List.map_cons] at h
    injection h with h1 h2
    rw [List.length_cons] at hk
    rw [List.cons_append]
    show (match rdW w with | some p => if k < 10 then rdWs (pre ++ post) (k + 1) (acc ++ [p]) else .inl k | none => .inl k) = _
    rw [h1]
    simp only
    rw [if_pos (by omega), rdWs_go pre ps (k + 1) (acc ++ [p]) post h2 (by omega), List.length_cons, show k + 1 + pre.length = k + (pre.length + 1) by omega, List.append_assoc]; rfl
end DL
def b_parse_lot_x (EX : EXs) : DSm :=
  (dSeq (dIf (dNotT (dTst (dUn (opIsA "str") (.n 0)))) (dRaise "BadText" EX (dC .non)) dNext)
  (dSeq (dIf (dTst (dOp opEq (.n 0) (.v (dC (.str "none"))))) (dRet (dTup dA0)) dNext)
  (dSeq (dSetL 1 (dLst dA0))
  (dSeq (dFor (dEnumI (dFrz (dSplit (dVar 0) (dC (.str " "))))) (.tp [(.nm 2), (.nm 3)]) (dSeq (dSet 4 (dCall sp_watch_of (dAc (dVar 3) dA0)))
  (dSeq (dIf (dOrT (dTst (dOp opIsN (.n 4) (.v (dC .non)))) (dTst (dOp opGe (.n 2) (.v (dC (.int 10)))))) (dRaise "BadText" EX (dVar 2)) dNext)
  (dDrop (dAppend 1 (dVar 4))))))
  (dRet (dUn opTuple (.n 1)))))))
def N_parse_lot_x : List Str := ["value", "found", "place", "word", "one"]
namespace DL
theorem parse_lot_x_ok : ∀ ds Q Y, sp_parse_lot_x ds Q Y → b_parse_lot_x (fun c d _ => Y c d) (endD Q) (startD N_parse_lot_x ds) := by
  rintro _ Q Y ⟨d, rfl, hd, q1, q2⟩
  show b_parse_lot_x (fun c d _ => Y c d) (endD Q) [some (.val d), none, none, none, none]
  unfold b_parse_lot_x
  walk_at "e"
  refine ⟨hd, ?_⟩
  rcases Classical.em (∃ z, d = .str z) with ⟨z, rfl⟩ | hz
  · obtain ⟨hz, qn, qs⟩ := q1 z rfl
    walk_at "e"
    refine ifK_d (fun c => qn c) fun c => ?_
    obtain ⟨q3, q4⟩ := qs c
    refine ⟨by decide +kernel, by omega, ?_⟩
    have hwl : ∀ p ∈ Txt.split z (Str.ofString " "), p.length ≤ z.length := fun p hp => by
      rw [spc_eq] at hp; exact split_len1 (by decide) hp
    have hwn : (Txt.split z (Str.ofString " ")).length ≤ z.length + 2 := by first | exact PyProof.Rows.split_le _ _ | exact PySem.split_le _ _ | exact PySem.Rows.split_le _ _ | exact Txt.split_le _ _ | exact PySem.Spec.split_le _ _
    generalize Txt.split z (Str.ofString " ") = ws at *
    rw [enumD_map]
    refine for_enc (fun x : Str × Nat => D.tup [.int (x.2 : Int), .str x.1]) (fun pre _ δ => ∃ (ps : List (Int × Int)) (a b c : Option Sl), δ = [some (.val (.str z)), some (.own (.l (ps.map W2))), a, b, c] ∧ (pre.map (·.1)).map rdW = ps.map some ∧ pre.length ≤ 10) ⟨[], _, _, _, rfl, rfl, by simp⟩ ?_ ?_
    · rintro pre x post _ hpp ⟨ps, a, b, c, rfl, hps, hpl⟩ nx hnx
      obtain ⟨hx, hws, hm⟩ := zipIdx_cut hpp
      have hgo := rdWs_go (pre.map (·.1)) ps 0 [] (x.1 :: post.map (·.1)) hps (by rw [List.length_map]; omega)
      rw [← hws, List.length_map, Nat.zero_add, List.nil_append] at hgo
      have hlp : ps.length = pre.length := by have := congrArg List.length hps; simpa using this.symm
      walk_at "e"
      refine ⟨x.1, rfl, by have := hwl _ hm; omega, ?_⟩
      rw [rdWs_step] at hgo
      cases hr : rdW x.1 with
      | none =>
        rw [hr] at hgo
        rw [show optW none = D.non from rfl]
        walk_at "e"
        have := q3 _ hgo
        rw [← hx] at this
        exact this
      | some p =>
        rw [hr] at hgo
        simp only at hgo
        rw [show optW (some p) = D.tup [.int p.1, .int p.2] from rfl]
        walk_at "e"
        refine ifK_d (fun c10 => ?_) fun c10 => ⟨by rw [List.length_map]; omega, ?_⟩
        · rw [if_neg (by omega)] at hgo
          have := q3 _ hgo
          rw [← hx] at this
          exact this
        · exact hnx _ ⟨ps ++ [p], _, _, _, by rw [List.map_append]; rfl, by rw [List.map_append, List.map_append, List.map_append, hps]; simp [hr], by rw [List.length_append, List.length_singleton]; omega⟩
    · rintro _ ⟨ps, a, b, c, rfl, hps, hpl⟩
      walk_at "e"
      refine q4 ps ?_
      have hw : (ws.zipIdx).map (·.1) = ws := List.zipIdx_map_fst ..
      rw [hw] at hps
      rw [List.length_zipIdx] at hpl
      have hgo := rdWs_go ws ps 0 [] [] hps (by omega)
      rw [List.append_nil] at hgo
      rw [hgo]; rfl
  · have hz : ∀ z, d ≠ .str z := fun z e => hz ⟨z, e⟩
    rw [not_str hz hd]
    walk_at "e"
    exact q2 hz
end DL
namespace DL
def rdD (z : Str) : D := if z = Str.ofString "none" then .lst [.str (Str.ofString "ok"), .tup []] else match rdWs (Txt.split z (Str.ofString " ")) 0 [] with
  | .inl k => .lst [.str (Str.ofString "bad"), .int (k : Int)]
  | .inr l => .lst [.str (Str.ofString "ok"), LotD l]
def rdV : D → D
  | .str z => rdD z
  | _ => .lst [.str (Str.ofString "bad"), .non]
theorem rdV_not {d : D} (h : ∀ z, d ≠ .str z) : rdV d = .lst [.str (Str.ofString "bad"), .non] := by
  cases d with
  | str z => exact absurd rfl (h z)
  | _ => rfl
theorem rdD_none {z : Str} (h : z = Str.ofString "none") : rdD z = .lst [.str (Str.ofString "ok"), .tup []] := if_pos h
theorem rdD_bad {z : Str} {k : Nat} (h : z ≠ Str.ofString "none") (e : rdWs (Txt.split z (Str.ofString " ")) 0 [] = .inl k) : rdD z = .lst [.str (Str.ofString "bad"), .int (k : Int)] := by unfold rdD; rw [if_neg h, e]
theorem rdD_ok {z : Str} {l : List (Int × Int)} (h : z ≠ Str.ofString "none") (e : rdWs (Txt.split z (Str.ofString " ")) 0 [] = .inr l) : rdD z = .lst [.str (Str.ofString "ok"), LotD l] := by unfold rdD; rw [if_neg h, e]
def sp_law_told_lot : DSp := fun ds K => ∃ d : D, ds = [d] ∧ d ≠ .dk ∧ (∀ z, d = .str z → z.length ≤ 900000) ∧ K (rdV d)
theorem ms_law_told_lot : MonoSp sp_law_told_lot := fun ds K K' h ⟨d, e, a, b, q⟩ => ⟨d, e, a, b, h _ q⟩
theorem len_law_told_lot : ∀ ds Q, sp_law_told_lot ds Q → ds.length = 1 := fun ds Q ⟨l, e, _⟩ => by rw [e]; rfl
end DL
def b_law_told_lot : DSm :=
  (dSeq (dTry1 1 "BadText" (fun EX => (dSet 2 (dFrz (dLst (dAc (dC (.str "ok")) (dAc (dCallX sp_parse_lot_x EX (dAc (dVar 0) dA0)) dA0)))))) (fun d => (dSet 2 (dFrz (dLst (dAc (dC (.str "bad")) (dAc (dErr d) dA0)))))))
  (dRet (dVar 2)))
def N_law_told_lot : List Str := ["value", "error", "found"]
namespace DL
theorem law_told_lot_ok : ∀ ds Q, sp_law_told_lot ds Q → b_law_told_lot (endD Q) (startD N_law_told_lot ds) := by
  rintro _ Q ⟨d, rfl, hd, hz, q⟩
  show b_law_told_lot (endD Q) [some (.val d), none, none]
  unfold b_law_told_lot
  walk_at "e"
  refine ⟨d, rfl, hd, fun z e => ?_, fun h => ?_⟩
  · subst e
    refine ⟨hz z rfl, fun c => ?_, fun c => ⟨fun k e => ⟨rfl, by decide, ?_⟩, fun l e => ?_⟩⟩
    · have : rdV (.str z) = _ := rdD_none c
      rw [this] at q; exact q
    · have : rdV (.str z) = _ := rdD_bad c e
      rw [this] at q; exact q
    · have : rdV (.str z) = _ := rdD_ok c e
      rw [this] at q; exact q
  · rw [rdV_not h] at q
    exact ⟨rfl, by decide, q⟩
end DL
namespace DL
def sp_law_read : DSp := fun ds K => ∃ d : D, ds = [d] ∧ d ≠ .dk ∧ (∀ z, d = .str z → z.length ≤ 900000 ∧ PyData.strOk z = true) ∧ K (rdV d)
theorem ms_law_read : MonoSp sp_law_read := fun ds K K' h ⟨d, e, a, b, q⟩ => ⟨d, e, a, b, h _ q⟩
theorem len_law_read : ∀ ds Q, sp_law_read ds Q → ds.length = 1 := fun ds Q ⟨l, e, _⟩ => by rw [e]; rfl
end DL
def b_law_read : DSm :=
  (dSeq (dIf (dNotT (dTst (dUn (opIsA "str") (.n 0)))) (dRet (dFrz (dLst (dAc (dC (.str "bad")) (dAc (dC .non) dA0))))) dNext)
  (dSeq (dIf (dTst (dOp opEq (.n 0) (.v (dC (.str "none"))))) (dRet (dFrz (dLst (dAc (dC (.str "ok")) (dAc (dTup dA0) dA0))))) dNext)
  (dSeq (dPar 2 3 (.o (dSplit (dVar 0) (dC (.str " ")))) (.o (dLst dA0)))
  (dSeq (dFor (dRng1 (dUn opLen (.n 2))) (.nm 1) (dSeq (dSetL 4 (dSplit (dOp opIx (.n 2) (.n 1)) (dC (.str ":"))))
  (dSeq (dSet 5 (dUn opTuple (.v (dFrz (dComp (dSeqI (dVar 4)) (.nm 6) dYes (dCall sp_law_number (dAc (dVar 6) dA0)) [6])))))
  (dSeq (dIf (dOrT (dTst (dOp opNe (.v (dUn opLen (.n 4))) (.v (dC (.int 2))))) (dOrT (dTst (dOp opNotN (.v (dCall sp_law_watch_error_g (dAc (dVar 5) dA0))) (.v (dC .non)))) (dTst (dOp opGt (.n 1) (.v (dC (.int 9))))))) (dRet (dFrz (dLst (dAc (dC (.str "bad")) (dAc (dVar 1) dA0))))) dNext)
  (dDrop (dAppend 3 (dVar 5)))))))
  (dRet (dFrz (dLst (dAc (dC (.str "ok")) (dAc (dUn opTuple (.n 3)) dA0)))))))))
def N_law_read : List Str := ["value", "place", "words", "found", "parts", "one", "part"]
namespace DL
theorem law_read_ok : ∀ ds Q, sp_law_read ds Q → b_law_read (endD Q) (startD N_law_read ds) := by
  rintro _ Q ⟨d, rfl, hd, hz, q⟩
  show b_law_read (endD Q) [some (.val d), none, none, none, none, none, none]
  unfold b_law_read
  walk_at "e"
  refine ⟨hd, ?_⟩
  rcases Classical.em (∃ z, d = .str z) with ⟨z, rfl⟩ | hz'
  · obtain ⟨hz, hok⟩ := hz z rfl
    walk_at "e"
    refine ifK_d (fun c => ?_) fun c => ?_
    · have : rdV (.str z) = _ := rdD_none c
      rw [this] at q; exact q
    have hwl : ∀ p ∈ Txt.split z (Str.ofString " "), p.length ≤ z.length ∧ PyData.strOk p = true := fun p hp => by
      rw [spc_eq] at hp; exact ⟨split_len1 (by decide) hp, strOk_in hok (split_sgn (by decide) hp)⟩
    have hwn : (Txt.split z (Str.ofString " ")).length ≤ z.length + 2 := by first | exact PyProof.Rows.split_le _ _ | exact PySem.split_le _ _ | exact PySem.Rows.split_le _ _ | exact Txt.split_le _ _ | exact PySem.Spec.split_le _ _
    have q3 : ∀ k : Nat, rdWs (Txt.split z (Str.ofString " ")) 0 [] = .inl k → Q (.lst [.str (Str.ofString "bad"), .int (k : Int)]) := fun k e => by
      rw [← rdD_bad c e]; exact q
    have q4 : ∀ l, rdWs (Txt.split z (Str.ofString " ")) 0 [] = .inr l → Q (.lst [.str (Str.ofString "ok"), LotD l]) := fun l e => by
      rw [← rdD_ok c e]; exact q
    generalize Txt.split z (Str.ofString " ") = ws at *
    rw [List.length_map, Int.toNat_natCast]
    refine ⟨by decide +kernel, by omega, by omega, by omega, ?_⟩
    refine for_rng (fun k δ => ∃ (ps : List (Int × Int)) (a b c d : Option Sl), δ = [some (.val (.str z)), a, some (.own (.l (ws.map D.str))), some (.own (.l (ps.map W2))), b, c, d] ∧ (ws.take k).map rdW = ps.map some ∧ k ≤ 10 ∧ ps.length = k) ⟨[], _, _, _, _, rfl, rfl, by omega, rfl⟩ ?_ ?_
    · rintro k _ hk ⟨ps, a, b, c, d, rfl, hps, hk10, hlp⟩ nx hnx
      rw [Int.zero_add]
      have hcut : ws = ws.take k ++ ws[k] :: ws.drop (k + 1) := by rw [List.getElem_cons_drop, List.take_append_drop]
      have hm : ws[k] ∈ ws := List.getElem_mem hk
      have hgo := rdWs_go (ws.take k) ps 0 [] (ws[k] :: ws.drop (k + 1)) hps (by rw [List.length_take]; omega)
      rw [← hcut, List.length_take, Nat.min_eq_left (by omega), Nat.zero_add, List.nil_append, rdWs_step] at hgo
      obtain ⟨hwl1, hwok⟩ := hwl _ hm
      have hix : (ws.map D.str)[k]? = some (.str ws[k]) := by rw [List.getElem?_map, List.getElem?_eq_getElem hk]; rfl
      have htk : (ws.take (k + 1)).map rdW = (ws.take k).map rdW ++ [rdW ws[k]] := by rw [List.take_succ_eq_append_getElem hk, List.map_append]; rfl
      generalize ws[k] = w at *
      walk_at "e"
      refine ⟨.str w, atI_nat hix, ?_⟩
      walk_at "e"
      have hpl : ∀ p ∈ Txt.split w (Str.ofString ":"), p.length ≤ w.length ∧ PyData.strOk p = true := fun p hp => by
        rw [col_eq] at hp; exact ⟨split_len1 (by decide) hp, strOk_in hwok (split_sgn (by decide) hp)⟩
      have hpn : (Txt.split w (Str.ofString ":")).length ≤ w.length + 2 := by first | exact PyProof.Rows.split_le _ _ | exact PySem.split_le _ _ | exact PySem.Rows.split_le _ _ | exact Txt.split_le _ _ | exact PySem.Spec.split_le _ _
      refine ⟨by decide +kernel, by omega, ?_⟩
      refine comp_map D.str (fun p => D.int (lawN p)) (by omega) ?_ ?_
      · intro p hp C hC
        walk_at "e"
        rw [if_pos trivial]
        exact ⟨p, rfl, by have := hpl p hp; omega, (hpl p hp).2, hC⟩
      walk_at "e"
      have bad : rdW w = none → Q (.lst [.str (Str.ofString "bad"), .int (k : Int)]) := fun h => by
        rw [h] at hgo
        exact q3 k hgo
      rw [List.length_map]
      generalize kv _ 6 = s6
      refine ifK_i (fun h => bad (rdW_not fun e => by rw [e] at h; simp at h)) fun h => ?_
      have h2 : (Txt.split w (Str.ofString ":")).length = 2 := by
        have : ((Txt.split w (Str.ofString ":")).length : Int) = 2 := by simpa using h
        omega
      cases e : Txt.split w (Str.ofString ":") with
      | nil => rw [e] at h2; cases h2
      | cons x r =>
        cases r with
        | nil => rw [e] at h2; cases h2
        | cons y r2 =>
          cases r2 with
          | cons _ _ => rw [e] at h2; simp at h2
          | nil =>
            obtain ⟨j1, j2⟩ := judge2 x y w e
            refine ⟨_, 5, rfl, rfl, ?_⟩
            walk_at "e"
            simp only [List.map_cons, List.map_nil]
            cases hj : (watchE (.tup [.int (lawN x), .int (lawN y)])).isNon with
            | false => exact ifK_i (fun _ => bad (j2 hj)) fun h => absurd h (by decide)
            | true =>
              refine ifK_i (fun h => absurd h (by decide)) fun _ => ?_
              obtain ⟨hne, hopt⟩ := j1 hj
              cases hr : rdW w with
              | none => exact absurd hr hne
              | some p =>
                rw [hr] at hgo hopt
                simp only at hgo
                refine ifK_d (fun c10 => ?_) fun c10 => ⟨by rw [List.length_map]; omega, ?_⟩
                · rw [if_neg (by omega)] at hgo
                  exact q3 k hgo
                · have hW : List.map W2 ps ++ [D.tup [.int (lawN x), .int (lawN y)]] = (ps ++ [p]).map W2 := by
                    rw [List.map_append, List.map_singleton, show W2 p = D.tup [.int (lawN x), .int (lawN y)] from hopt]
                  rw [hW]
                  exact hnx _ ⟨ps ++ [p], _, _, _, _, rfl, by rw [htk, hps, hr, List.map_append]; rfl, by omega, by rw [List.length_append, hlp]; rfl⟩
    · rintro _ ⟨ps, a, b, c, d, rfl, hps, hk10, hlp⟩
      walk_at "e"
      refine q4 ps ?_
      rw [List.take_length] at hps
      have hgo := rdWs_go ws ps 0 [] [] hps (by omega)
      rw [List.append_nil] at hgo
      rw [hgo]; rfl
  · have hz : ∀ z, d ≠ .str z := fun z e => hz' ⟨z, e⟩
    rw [not_str hz hd]
    walk_at "e"
    rw [rdV_not hz] at q
    exact q
end DL
namespace DL
def wrdL (p : Int × Int) : Str := Str.ofString (toString p.1) ++ colS ++ Str.ofString (toString p.2)
def textL (l : List (Int × Int)) : Str := if l = [] then Str.ofString "none" else Txt.join (Str.ofString " ") (l.map wrdL)
def sp_lot_text : DSp := fun ds K => ∃ l : List (Int × Int), ds = [LotD l] ∧ IsLot l ∧ l.length ≤ 1000 ∧ K (.str (textL l))
theorem ms_lot_text : MonoSp sp_lot_text := fun ds K K' h ⟨d, e, a, b, q⟩ => ⟨d, e, a, b, h _ q⟩
theorem len_lot_text : ∀ ds Q, sp_lot_text ds Q → ds.length = 1 := fun ds Q ⟨l, e, _⟩ => by rw [e]; rfl
theorem int_len {i : Int} (h0 : 0 ≤ i) (h : i ≤ 1000000000000) : (Str.ofString (toString i)).length ≤ 14 := by
  rw [PySem.ofString_length]
  exact PySem.int_text_length_le10 (k := 13) (by decide) (by omega)
theorem wrd_len {p : Int × Int} (h : IsW p) : (wrdL p).length ≤ 29 := by
  have h1 := int_len (i := p.1) (by have := h.1; omega) h.2.1
  have h2 := int_len h.2.2.1 (by have a := h.2.2.2; have b := h.2.1; omega)
  unfold wrdL
  rw [Str.length_append, Str.length_append]
  have : colS.length = 1 := rfl
  omega
theorem emp_app (x : Str) : Str.empty ++ x = x := by
  show (⟨#[] ++ x.cps⟩ : Str) = x
  cases x; simp
theorem txt_ok {p : Int × Int} (h : IsW p) : p.1.natAbs.log2 < 1920 ∧ p.2.natAbs.log2 < 1920 := by
  have key : ∀ n : Nat, n < 2 ^ 41 → n.log2 < 1920 := fun n hn => by
    by_cases hz : n = 0
    · rw [hz]; decide
    · have := (Nat.log2_lt hz).mpr hn; omega
  have h1 := h.1; have h2 := h.2.1; have h3 := h.2.2.1; have h4 := h.2.2.2
  exact ⟨key _ (by omega), key _ (by omega)⟩
theorem join_len {l : List (Int × Int)} (hl : IsLot l) (hn : l.length ≤ 1000) : ((l.map wrdL).map (·.length)).sum + (l.map wrdL).length * (Str.ofString " ").length ≤ 16777216 := by
  have key : ∀ m : List (Int × Int), IsLot m → ((m.map wrdL).map (·.length)).sum ≤ 29 * m.length := fun m => by
    induction m with
    | nil => intro _; simp
    | cons p r ih =>
      intro h
      have h1 := wrd_len (h p (by simp))
      have h2 := ih fun q hq => h q (by simp [hq])
      rw [List.map_cons, List.map_cons, List.sum_cons, List.length_cons]; omega
  have h1 := key l hl
  have h2 : (Str.ofString " ").length = 1 := by rw [spc_eq]; rfl
  rw [h2, List.length_map]; omega
end DL
def b_lot_text : DSm :=
  (dSeq (dIf (dTst (dOp opEq (.n 0) (.v (dTup dA0)))) (dRet (dC (.str "none"))) dNext)
  (dRet (dJoin (dC (.str " ")) (dFrz (dComp (dSeqI (dVar 0)) (.tp [(.nm 1), (.nm 2)]) dYes (dFstr [(dFmt (dVar 1)), (dC (.str ":")), (dFmt (dVar 2))]) [1, 2])))))
def N_lot_text : List Str := ["lot", "turn", "first"]
namespace DL
theorem lot_text_ok : ∀ ds Q, sp_lot_text ds Q → b_lot_text (endD Q) (startD N_lot_text ds) := by
  rintro _ Q ⟨l, rfl, hl, hn, q⟩
  show b_lot_text (endD Q) [some (.val (LotD l)), none, none]
  unfold b_lot_text LotD
  walk_at "e"
  refine ⟨ok_lotT 62 l, rfl, ?_⟩
  cases hl0 : l with
  | nil =>
    subst hl0
    refine ifK_i (fun _ => q) fun h => absurd h (by decide)
  | cons p r =>
    rw [← hl0]
    have hne : l ≠ [] := by rw [hl0]; simp
    have he : (D.tup (l.map W2)).eqv (D.tup []) = false := by rw [hl0]; rfl
    rw [he]
    walk_at "e"
    refine comp_map W2 (fun p => D.str (wrdL p)) (by omega) ?_ ?_
    · intro p hp C hC
      have hp := hl p hp
      obtain ⟨t1, t2⟩ := txt_ok hp
      have h1 := int_len (i := p.1) (by have := hp.1; omega) hp.2.1
      have h2 := int_len hp.2.2.1 (by have a := hp.2.2.2; have b := hp.2.1; omega)
      unfold W2
      walk_at "e"
      rw [if_pos trivial, col_eq, emp_app]
      have hc : colS.length = 1 := rfl
      refine ⟨t1, by omega, by rw [Str.length_append]; omega, t2, by rw [Str.length_append, Str.length_append]; omega, hC⟩
    rw [show l.map (fun p => D.str (wrdL p)) = (l.map wrdL).map D.str by rw [List.map_map]; rfl]
    walk_at "e"
    refine ⟨join_len hl hn, ?_⟩
    have : textL l = _ := if_neg hne
    rw [this] at q
    exact q
end DL
namespace DL
def sp_law_text : DSp := fun ds K => ∃ l : List (Int × Int), ds = [LotD l] ∧ IsLot l ∧ l.length ≤ 1000 ∧ K (.str (textL l))
theorem ms_law_text : MonoSp sp_law_text := fun ds K K' h ⟨d, e, a, b, q⟩ => ⟨d, e, a, b, h _ q⟩
theorem len_law_text : ∀ ds Q, sp_law_text ds Q → ds.length = 1 := fun ds Q ⟨l, e, _⟩ => by rw [e]; rfl
end DL
def b_law_text : DSm :=
  (dRet (dIfE (dTst (dOp opNe (.n 0) (.v (dTup dA0)))) (dJoin (dC (.str " ")) (dFrz (dComp (dSeqI (dVar 0)) (.tp [(.nm 1), (.nm 2)]) dYes (dOp opAdd (.v (dOp opAdd (.v (dUn opStr (.n 1))) (.v (dC (.str ":"))))) (.v (dUn opStr (.n 2)))) [1, 2]))) (dC (.str "none"))))
def N_law_text : List Str := ["lot", "turn", "first"]
namespace DL
theorem law_text_ok : ∀ ds Q, sp_law_text ds Q → b_law_text (endD Q) (startD N_law_text ds) := by
  rintro _ Q ⟨l, rfl, hl, hn, q⟩
  show b_law_text (endD Q) [some (.val (LotD l)), none, none]
  unfold b_law_text LotD
  walk_at "e"
  refine ⟨ok_lotT 62 l, rfl, ?_⟩
  cases hl0 : l with
  | nil =>
    subst hl0
    refine ifK_i (fun h => absurd h (by decide)) fun _ => q
  | cons p r =>
    rw [← hl0]
    have hne : l ≠ [] := by rw [hl0]; simp
    have he : (D.tup (l.map W2)).eqv (D.tup []) = false := by rw [hl0]; rfl
    rw [he]
    refine ifK_i (fun _ => ?_) fun h => absurd h (by decide)
    refine comp_map W2 (fun p => D.str (wrdL p)) (by omega) ?_ ?_
    · intro p hp C hC
      have hp := hl p hp
      obtain ⟨t1, t2⟩ := txt_ok hp
      have h1 := int_len (i := p.1) (by have := hp.1; omega) hp.2.1
      have h2 := int_len hp.2.2.1 (by have a := hp.2.2.2; have b := hp.2.1; omega)
      unfold W2
      walk_at "e"
      rw [if_pos trivial, col_eq]
      have hc : colS.length = 1 := rfl
      refine ⟨t1, by omega, t2, by rw [Str.length_append]; omega, hC⟩
    rw [show l.map (fun p => D.str (wrdL p)) = (l.map wrdL).map D.str by rw [List.map_map]; rfl]
    walk_at "e"
    refine ⟨join_len hl hn, ?_⟩
    have : textL l = _ := if_neg hne
    rw [this] at q
    exact q
end DL
namespace DL
def txtOk (z : Str) (n : Nat) : Prop := z.length ≤ n ∧ PyData.strOk z = true
theorem ok_app {x y : Str} (h1 : PyData.strOk x = true) (h2 : PyData.strOk y = true) : PyData.strOk (x ++ y) = true := by
  unfold PyData.strOk at *
  show ((x.cps ++ y.cps).all _) = true
  rw [Array.all_append, h1, h2]; rfl
theorem join_ok {y : Str} (hy : PyData.strOk y = true) : ∀ ys : List Str, (∀ p ∈ ys, PyData.strOk p = true) → PyData.strOk (Txt.join y ys) = true := fun ys h => by
  rw [TL.join_eq]
  induction ys with
  | nil => show PyData.strOk Str.empty = true; decide +kernel
  | cons a r ih =>
    cases r with
    | nil => exact h a (by simp)
    | cons b r =>
      show PyData.strOk (a ++ y ++ Str.join y (b :: r)) = true
      exact ok_app (ok_app (h a (by simp)) hy) (ih fun p hp => h p (by simp [hp]))
theorem join_len2 (y : Str) (ys : List Str) : (Txt.join y ys).length ≤ (ys.map (·.length)).sum + ys.length * y.length := by
  rw [TL.join_eq]
  induction ys with
  | nil => exact Nat.zero_le _
  | cons a r ih =>
    cases r with
    | nil => show a.length ≤ _; simp
    | cons b r =>
      show (a ++ y ++ Str.join y (b :: r)).length ≤ _
      rw [Str.length_append, Str.length_append, List.map_cons, List.sum_cons, List.length_cons, Nat.succ_mul]
      omega
theorem cutD_map {α β : Type} (f : α → β) (xs : List α) (lo hi : Option Int) : cutD (xs.map f) lo hi = (cutD xs lo hi).map f := by
  unfold cutD; simp [List.map_take, List.map_drop]
theorem sum_sub {xs ys : List Str} (h : xs.Sublist ys) : (xs.map (·.length)).sum ≤ (ys.map (·.length)).sum := by
  induction h with
  | slnil => exact Nat.le_refl _
  | cons a _ ih => rw [List.map_cons, List.sum_cons]; omega
  | cons_cons a _ ih => rw [List.map_cons, List.map_cons, List.sum_cons, List.sum_cons]; omega
theorem cutS_ok {z : Str} {n : Nat} (h : txtOk z n) (lo hi : Option Int) : txtOk (cutS z lo hi) n := by
  have hs : ∀ a ∈ sgn_s (cutS z lo hi), a ∈ sgn_s z := fun a ha => by
    unfold cutS at ha
    simp only [sgn_s] at ha
    exact List.mem_of_mem_drop (List.mem_of_mem_take ha)
  refine ⟨?_, strOk_in h.2 hs⟩
  have : (cutS z lo hi).length ≤ z.length := by
    rw [← len_sg, ← len_sg]
    unfold cutS
    simp only [sgn_s]
    rw [List.length_take, List.length_drop]; omega
  exact Nat.le_trans this h.1
def sp_law_spoilt : DSp := fun ds K => ∃ (z : Str) (n : Nat), ds = [.dk, .str z] ∧ txtOk z n ∧ n ≤ 100000 ∧ ∀ y, txtOk y (5 * n + 100) → K (.str y)
theorem ms_law_spoilt : MonoSp sp_law_spoilt := fun ds K K' h ⟨z, n, e, a, b, q⟩ => ⟨z, n, e, a, b, fun y hy => h _ (q y hy)⟩
theorem len_law_spoilt : ∀ ds Q, sp_law_spoilt ds Q → ds.length = 2 := fun ds Q ⟨l, n, e, _⟩ => by rw [e]; rfl
end DL
def b_law_spoilt : DSm :=
  (dSeq (dPar 6 7 (.o (dSplit (dVar 1) (dC (.str " ")))) (.v (dCall sp_draw (dAc (dVar 0) (dAc (dOp opAdd (.v (dUn opLen (.n 1))) (.v (dC (.int 1)))) dA0)))))
  (dSeq (dSet 2 (dCall sp_draw (dAc (dVar 0) (dAc (dUn opLen (.n 6)) dA0))))
  (dSeq (dSet 3 (dCall sp_law_one (dAc (dVar 0) (dAc (dFrz (dLst (dAc (dC (.str "0")) (dAc (dC (.str "1")) (dAc (dC (.str " ")) (dAc (dC (.str ":")) (dAc (dC (.str "-")) (dAc (dC (.str "+")) (dAc (dC (.str "_")) (dAc (dC (.str ".")) (dAc (dC (.str "x")) (dAc (dC (.str "\n")) (dAc (dC (.str "9")) (dAc (dC (.str "")) dA0)))))))))))))) dA0))))
  (dSeq (dSet 4 (dCall sp_law_one (dAc (dVar 0) (dAc (dFrz (dLst (dAc (dC (.str "2:0")) (dAc (dC (.str "2:2")) (dAc (dC (.str "02:0")) (dAc (dC (.str "2:00")) (dAc (dC (.str "none")) (dAc (dC (.str "")) (dAc (dC (.str "1000000000000:999999999999")) (dAc (dC (.str "1000000000001:0")) (dAc (dC (.str "2")) (dAc (dC (.str "2:0:0")) dA0)))))))))))) dA0))))
  (dSeq (dSet 5 (dCall sp_draw (dAc (dVar 0) (dAc (dC (.int 4)) dA0))))
  (dSeq (dIf (dTst (dOp opLt (.n 5) (.v (dC (.int 2))))) (dRet (dOp opAdd (.v (dOp opAdd (.v (dSl (.n 1) dNoP (dPart (dVar 7)))) (.n 3))) (.v (dSl (.n 1) (dPart (dOp opAdd (.n 7) (.n 5))) dNoP)))) dNext)
  (dRet (dJoin (dC (.str " ")) (dOp opAdd (.v (dOp opAdd (.v (dSl (.n 6) dNoP (dPart (dVar 2)))) (.v (dFrz (dLst (dAc (dVar 4) dA0)))))) (.v (dSl (.n 6) (dPart (dOp opSub (.v (dOp opAdd (.n 2) (.n 5))) (.v (dC (.int 2))))) dNoP)))))))))))
def N_law_spoilt : List Str := ["deck", "text", "place", "sign", "odd", "way", "words", "at"]
namespace DL
theorem law_spoilt_ok : ∀ ds Q, sp_law_spoilt ds Q → b_law_spoilt (endD Q) (startD N_law_spoilt ds) := by
  rintro _ Q ⟨z, n, rfl, ⟨hz, hok⟩, hn, q⟩
  show b_law_spoilt (endD Q) [some (.val .dk), some (.val (.str z)), none, none, none, none, none, none]
  unfold b_law_spoilt
  walk_at "e"
  have hwn : (Txt.split z (Str.ofString " ")).length ≤ z.length + 2 := by first | exact PyProof.Rows.split_le _ _ | exact PySem.split_le _ _ | exact PySem.Rows.split_le _ _ | exact Txt.split_le _ _ | exact PySem.Spec.split_le _ _
  have hw1 : 1 ≤ (Txt.split z (Str.ofString " ")).length := by first | exact PyProof.Rows.split_pos _ _ | exact PySem.split_pos _ _ | exact PySem.Rows.split_pos _ _ | exact Txt.split_pos _ _ | exact PySem.Spec.split_pos _ _
  have hwok : ∀ p ∈ Txt.split z (Str.ofString " "), PyData.strOk p = true := fun p hp => by
    rw [spc_eq] at hp; exact strOk_in hok (split_sgn (by decide) hp)
  have hws : ((Txt.split z (Str.ofString " ")).map (·.length)).sum ≤ z.length := by rw [spc_eq]; exact split_sum z (by decide)
  generalize Txt.split z (Str.ofString " ") = ws at *
  rw [List.length_map]
  refine ⟨by decide +kernel, by omega, by omega, by omega, by omega, fun at' a0 a1 => ⟨by omega, by omega, fun pl p0 p1 => ?_⟩⟩
  refine one_of fun d hd => ?_
  have hd : ∃ u : Str, d = .str u ∧ txtOk u 30 := by
    simp only [List.mem_cons, List.mem_nil_iff, or_false] at hd
    rcases hd with rfl | rfl | rfl | rfl | rfl | rfl | rfl | rfl | rfl | rfl | rfl | rfl <;> exact ⟨_, rfl, by decide +kernel, by decide +kernel⟩
  obtain ⟨u, rfl, hu⟩ := hd
  walk_at "e"
  refine one_of fun d hd => ?_
  have hd : ∃ v : Str, d = .str v ∧ txtOk v 30 := by
    simp only [List.mem_cons, List.mem_nil_iff, or_false] at hd
    rcases hd with rfl | rfl | rfl | rfl | rfl | rfl | rfl | rfl | rfl | rfl <;> exact ⟨_, rfl, by decide +kernel, by decide +kernel⟩
  obtain ⟨v, rfl, hv⟩ := hd
  walk_at "e"
  have hz1 : txtOk z n := ⟨hz, hok⟩
  have spl : (Str.ofString " ").length = 1 := by rw [spc_eq]; rfl
  have spo : PyData.strOk (Str.ofString " ") = true := by decide +kernel
  refine ⟨by decide, by decide, fun way w0 w1 => ifK_d (fun _ => ?_) fun _ => ?_⟩
  · have h1 := cutS_ok hz1 none (some at')
    have h2 := cutS_ok hz1 (some (at' + way)) none
    have l1 := h1.1; have l2 := h2.1; have l3 := hu.1
    refine ⟨by omega, by omega, by omega, by rw [Str.length_append]; omega, q _ ⟨?_, ok_app (ok_app h1.2 hu.2) h2.2⟩⟩
    rw [Str.length_append, Str.length_append]; omega
  · have s1 : (cutD ws none (some pl)).Sublist ws := cutD_sub _ _ _
    have s2 : (cutD ws (some (pl + way - 2)) none).Sublist ws := cutD_sub _ _ _
    have l1 := s1.length_le
    have l2 := s2.length_le
    have t1 := sum_sub s1
    have t2 := sum_sub s2
    have l3 := hv.1
    rw [cutD_map, cutD_map]
    rw [show (cutD ws none (some pl)).map D.str ++ [D.str v] ++ (cutD ws (some (pl + way - 2)) none).map D.str = (cutD ws none (some pl) ++ [v] ++ cutD ws (some (pl + way - 2)) none).map D.str by rw [List.map_append, List.map_append]; rfl]
    walk_at "e"
    have hsum : ((cutD ws none (some pl) ++ [v] ++ cutD ws (some (pl + way - 2)) none).map (·.length)).sum + (cutD ws none (some pl) ++ [v] ++ cutD ws (some (pl + way - 2)) none).length * (Str.ofString " ").length ≤ 5 * n + 100 := by
      rw [List.map_append, List.map_append, List.sum_append, List.sum_append, List.length_append, List.length_append, spl]
      simp only [List.map_cons, List.map_nil, List.sum_cons, List.sum_nil, List.length_singleton]
      omega
    refine ⟨by rw [List.length_map]; omega, by simp only [List.length_append, List.length_map, List.length_singleton]; omega, by omega, q _ ⟨Nat.le_trans (join_len2 _ _) hsum, join_ok spo _ fun p hp => ?_⟩⟩
    rcases List.mem_append.mp hp with hp | hp
    · rcases List.mem_append.mp hp with hp | hp
      · exact hwok p (s1.subset hp)
      · rw [List.mem_singleton.mp hp]; exact hv.2
    · exact hwok p (s2.subset hp)
end DL
namespace DL
def vB (n : Nat) : D → Bool
  | .dk => false
  | .str z => PyData.strOk z && decide (z.length ≤ n)
  | _ => true
def sp_law_odd_s : DSp := fun ds K => ds = [.dk] ∧ ∀ d, vB 100 d = true → K d
theorem ms_law_odd_s : MonoSp sp_law_odd_s := fun ds K K' h ⟨e, q⟩ => ⟨e, fun d hd => h _ (q d hd)⟩
theorem len_law_odd_s : ∀ ds Q, sp_law_odd_s ds Q → ds.length = 1 := fun ds Q ⟨e, _⟩ => by rw [e]; rfl
theorem vB_of {n : Nat} {d : D} (h : vB n d = true) : d ≠ .dk ∧ ∀ z, d = .str z → txtOk z n := by
  refine ⟨(fun e => by subst e; cases h), fun z e => ?_⟩
  subst e
  have : PyData.strOk z = true ∧ z.length ≤ n := by simpa [vB] using h
  exact ⟨this.2, this.1⟩
theorem vB_txt {n : Nat} {z : Str} (h : txtOk z n) : vB n (.str z) = true := by
  show (PyData.strOk z && decide (z.length ≤ n)) = true
  rw [h.2, decide_eq_true h.1]; rfl
theorem vB_le {n m : Nat} (hm : n ≤ m) {d : D} (h : vB n d = true) : vB m d = true := by
  cases d with
  | str z => obtain ⟨a, b⟩ := (vB_of h).2 z rfl; exact vB_txt ⟨Nat.le_trans a hm, b⟩
  | dk => cases h
  | _ => rfl
end DL
def b_law_odd_s : DSm :=
  (dSeq (dSetL 1 (dLst (dAc (dC .non) (dAc (dC (.bl true)) (dAc (dC (.bl false)) (dAc (dC (.int 0)) (dAc (dC (.int 1)) (dAc (dC (.int 2)) (dAc (dUn opNeg (.v (dC (.int 1)))) (dAc (dOp opPow (.v (dC (.int 10))) (.v (dC (.int 30)))) (dAc (dC (.str "")) (dAc (dC (.str "0")) (dAc (dC (.str "2:0")) (dAc (dTup dA0) (dAc (dFrz (dLst dA0)) (dAc (dFrz (dNewD false)) (dAc (dTup (dAc (dC (.int 0)) dA0)) (dAc (dTup (dAc (dC (.int 1)) dA0)) (dAc (dTup (dAc (dC (.int 1)) (dAc (dC (.int 0)) dA0))) (dAc (dTup (dAc (dC (.bl true)) (dAc (dC (.int 0)) dA0))) (dAc (dTup (dAc (dC (.int 2)) (dAc (dC (.int 2)) dA0))) dA0)))))))))))))))))))))
  (dSeq (dSet 1 (dOp opAdd (.n 1) (.v (dFrz (dLst (dAc (dTup (dAc (dTup (dAc (dC (.int 1)) (dAc (dC (.int 0)) dA0))) dA0)) (dAc (dTup (dAc (dTup (dAc (dC (.int 2)) (dAc (dC (.int 0)) dA0))) (dAc (dTup (dAc (dC (.int 2)) (dAc (dC (.int 1)) dA0))) dA0))) (dAc (dTup (dAc (dTup (dAc (dC (.int 2)) (dAc (dC (.bl true)) dA0))) dA0)) (dAc (dFrz (dLst (dAc (dTup (dAc (dC (.int 2)) (dAc (dC (.int 0)) dA0))) dA0))) (dAc (dTup (dAc (dTup (dAc (dC (.int 2)) (dAc (dC (.int 0)) (dAc (dC (.int 1)) dA0)))) dA0)) (dAc (dTup (dAc (dOp opAdd (.v (dOp opPow (.v (dC (.int 10))) (.v (dC (.int 12))))) (.v (dC (.int 1)))) (dAc (dC (.int 0)) dA0))) (dAc (dTup (dAc (dC (.str "held")) (dAc (dC (.int 0)) dA0))) dA0))))))))))))
  (dRet (dCall sp_law_one (dAc (dVar 0) (dAc (dOp opAdd (.n 1) (.v (dFrz (dLst (dAc (dTup (dAc (dC (.str "split")) (dAc (dC (.int 2)) (dAc (dTup (dAc (dTup (dAc (dC (.str "held")) (dAc (dC (.int 0)) dA0))) (dAc (dTup (dAc (dC (.str "held")) (dAc (dC (.int 1)) dA0))) dA0))) dA0)))) (dAc (dTup (dAc (dC (.int 0)) (dAc (dC (.int 0)) dA0))) (dAc (dTup (dAc (dC (.int 3)) (dAc (dUn opNeg (.v (dC (.int 1)))) dA0))) (dAc (dTup (dAc (dC (.str "add")) (dAc (dC (.int 2)) (dAc (dC (.int 0)) dA0)))) (dAc (dC (.str "2:0 4:1")) dA0))))))))) dA0))))))
def N_law_odd_s : List Str := ["deck", "some"]
namespace DL
theorem law_odd_s_ok : ∀ ds Q, sp_law_odd_s ds Q → b_law_odd_s (endD Q) (startD N_law_odd_s ds) := by
  rintro _ Q ⟨rfl, q⟩
  show b_law_odd_s (endD Q) [some (.val .dk), none]
  unfold b_law_odd_s
  walk_at "e"
  refine ⟨⟨by decide, by decide, by decide⟩, ⟨by decide, by decide, by decide⟩, by decide, ?_⟩
  refine ⟨_, .inl rfl, (fun h => nomatch h), by decide, fun x hx => q x ?_⟩
  exact List.all_eq_true.mp (show List.all _ (vB 100) = true by decide +kernel) x hx
end DL
namespace LawK03
open PySem PySem.Spec PyProof.Rows L2 DL
def topS (i : Nat) : Stmt := PySem.Challenge.pw_daywatches_k03_texts.main.body.getD i (.Pass ⟨0, 0, 0, 0⟩)
abbrev s_is_integer : Stmt := topS 6
theorem sc_is_integer : FnScope ["value", "low", "high"] ["value", "low", "high"] (defScope s_is_integer) := ⟨rfl, rfl, rfl, by decide +kernel, rfl, by decide +kernel, by decide +kernel⟩
abbrev s_watch_error : Stmt := topS 7
theorem sc_watch_error : FnScope ["value"] ["value"] (defScope s_watch_error) := ⟨rfl, rfl, rfl, by decide +kernel, rfl, by decide +kernel, by decide +kernel⟩
abbrev s_lot_text : Stmt := topS 9
theorem sc_lot_text : FnScope ["lot", "turn", "first"] ["lot"] (defScope s_lot_text) := ⟨rfl, rfl, rfl, by decide +kernel, rfl, by decide +kernel, by decide +kernel⟩
abbrev s_number_of : Stmt := topS 10
theorem sc_number_of : FnScope ["word", "sign"] ["word"] (defScope s_number_of) := ⟨rfl, rfl, rfl, by decide +kernel, rfl, by decide +kernel, by decide +kernel⟩
abbrev s_watch_of : Stmt := topS 11
theorem sc_watch_of : FnScope ["word", "parts", "found"] ["word"] (defScope s_watch_of) := ⟨rfl, rfl, rfl, by decide +kernel, rfl, by decide +kernel, by decide +kernel⟩
abbrev s_parse_lot : Stmt := topS 12
theorem sc_parse_lot : FnScope ["value", "found", "place", "word", "one"] ["value"] (defScope s_parse_lot) := ⟨rfl, rfl, rfl, by decide +kernel, rfl, by decide +kernel, by decide +kernel⟩
abbrev s__law_deck : Stmt := topS 14
theorem sc__law_deck : FnScope ["script", "cells", "cell"] ["script"] (defScope s__law_deck) := ⟨rfl, rfl, rfl, by decide +kernel, rfl, by decide +kernel, by decide +kernel⟩
abbrev s__law_draw : Stmt := topS 15
theorem sc__law_draw : FnScope ["deck", "many", "rest", "cell", "mixed"] ["deck", "many"] (defScope s__law_draw) := ⟨rfl, rfl, rfl, by decide +kernel, rfl, by decide +kernel, by decide +kernel⟩
abbrev s__law_one : Stmt := topS 16
theorem sc__law_one : FnScope ["deck", "items"] ["deck", "items"] (defScope s__law_one) := ⟨rfl, rfl, rfl, by decide +kernel, rfl, by decide +kernel, by decide +kernel⟩
abbrev s__law_mixed : Stmt := topS 17
theorem sc__law_mixed : FnScope ["deck", "items", "turn", "rest", "found"] ["deck", "items"] (defScope s__law_mixed) := ⟨rfl, rfl, rfl, by decide +kernel, rfl, by decide +kernel, by decide +kernel⟩
abbrev s__law_odd : Stmt := topS 18
theorem sc__law_odd : FnScope ["deck", "some"] ["deck"] (defScope s__law_odd) := ⟨rfl, rfl, rfl, by decide +kernel, rfl, by decide +kernel, by decide +kernel⟩
abbrev s__law_whole : Stmt := topS 19
theorem sc__law_whole : FnScope ["value", "least", "most"] ["value", "least", "most"] (defScope s__law_whole) := ⟨rfl, rfl, rfl, by decide +kernel, rfl, by decide +kernel, by decide +kernel⟩
abbrev s__law_watch : Stmt := topS 20
theorem sc__law_watch : FnScope ["deck", "turns", "turn"] ["deck", "turns"] (defScope s__law_watch) := ⟨rfl, rfl, rfl, by decide +kernel, rfl, by decide +kernel, by decide +kernel⟩
abbrev s__law_small_lot : Stmt := topS 21
theorem sc__law_small_lot : FnScope ["deck", "most", "some", "turns", "k"] ["deck", "most"] (defScope s__law_small_lot) := ⟨rfl, rfl, rfl, by decide +kernel, rfl, by decide +kernel, by decide +kernel⟩
abbrev s__law_grown : Stmt := topS 22
theorem sc__law_grown : FnScope ["deck", "most", "lot", "step", "at", "parts", "turn", "first", "k"] ["deck", "most"] (defScope s__law_grown) := ⟨rfl, rfl, rfl, by decide +kernel, rfl, by decide +kernel, by decide +kernel⟩
abbrev s__law_held_lot : Stmt := topS 23
theorem sc__law_held_lot : FnScope ["deck", "most", "lot", "by", "moved", "turn", "first"] ["deck", "most"] (defScope s__law_held_lot) := ⟨rfl, rfl, rfl, by decide +kernel, rfl, by decide +kernel, by decide +kernel⟩
abbrev s__law_great_lot : Stmt := topS 24
theorem sc__law_great_lot : FnScope ["deck", "most", "k", "base", "found", "turn"] ["deck", "most"] (defScope s__law_great_lot) := ⟨rfl, rfl, rfl, by decide +kernel, rfl, by decide +kernel, by decide +kernel⟩
abbrev s__law_dense_lot : Stmt := topS 25
theorem sc__law_dense_lot : FnScope ["deck", "most", "lot", "many", "by", "k"] ["deck", "most"] (defScope s__law_dense_lot) := ⟨rfl, rfl, rfl, by decide +kernel, rfl, by decide +kernel, by decide +kernel⟩
abbrev s__law_any_lot : Stmt := topS 26
theorem sc__law_any_lot : FnScope ["deck", "most", "way"] ["deck", "most"] (defScope s__law_any_lot) := ⟨rfl, rfl, rfl, by decide +kernel, rfl, by decide +kernel, by decide +kernel⟩
abbrev s__law_watch_error : Stmt := topS 27
theorem sc__law_watch_error : FnScope ["value"] ["value"] (defScope s__law_watch_error) := ⟨rfl, rfl, rfl, by decide +kernel, rfl, by decide +kernel, by decide +kernel⟩
abbrev s__law_text : Stmt := topS 28
theorem sc__law_text : FnScope ["lot", "turn", "first"] ["lot"] (defScope s__law_text) := ⟨rfl, rfl, rfl, by decide +kernel, rfl, by decide +kernel, by decide +kernel⟩
abbrev s__law_number : Stmt := topS 29
theorem sc__law_number : FnScope ["word", "sign"] ["word"] (defScope s__law_number) := ⟨rfl, rfl, rfl, by decide +kernel, rfl, by decide +kernel, by decide +kernel⟩
abbrev s__law_read : Stmt := topS 30
theorem sc__law_read : FnScope ["value", "place", "words", "found", "parts", "one", "part"] ["value"] (defScope s__law_read) := ⟨rfl, rfl, rfl, by decide +kernel, rfl, by decide +kernel, by decide +kernel⟩
abbrev s__law_told_lot : Stmt := topS 31
theorem sc__law_told_lot : FnScope ["value", "error", "found"] ["value"] (defScope s__law_told_lot) := ⟨rfl, rfl, rfl, by decide +kernel, rfl, by decide +kernel, by decide +kernel⟩
abbrev s__law_spoilt : Stmt := topS 32
theorem sc__law_spoilt : FnScope ["deck", "text", "place", "sign", "odd", "way", "words", "at"] ["deck", "text"] (defScope s__law_spoilt) := ⟨rfl, rfl, rfl, by decide +kernel, rfl, by decide +kernel, by decide +kernel⟩
abbrev s_law : Stmt := topS 33
theorem sc_law : FnScope ["script", "deck", "turn", "lot", "text", "one", "some", "value"] ["script"] (defScope s_law) := ⟨rfl, rfl, rfl, by decide +kernel, rfl, by decide +kernel, by decide +kernel⟩
structure Txt (P : Program) (K : PySem.W.Frag) (mg : Str → Option Value) : Prop where
  z_abs : mg "abs" = none
  z_any : mg "any" = none
  z_bool : mg "bool" = none
  z_enumerate : mg "enumerate" = none
  z_int : mg "int" = none
  z_isinstance : mg "isinstance" = none
  z_len : mg "len" = none
  z_list : mg "list" = none
  z_range : mg "range" = none
  z_repr : mg "repr" = none
  z_str : mg "str" = none
  z_tuple : mg "tuple" = none
  c_MAX_TURN : ∃ t, mg "MAX_TURN" = some (.int 1000000000000 t)
  c_MAX_WATCHES : ∃ t, mg "MAX_WATCHES" = some (.int 10 t)
  e_BadText : ErrC P K mg "BadText"
section
variable {P : Program} {w : World} {K : PySem.W.Frag} {mg : Str → Option Value} {base : Heap}
theorem ok__law_draw (T : Txt P K mg) (D0 : Df K mg "_law_draw" s__law_draw ["deck", "many"]) : Fn P w K mg base 1 "_law_draw" ["deck", "many"] sp_draw := by
  obtain ⟨f, fd, h1, F, B⟩ := D0
  refine ⟨⟨f, fd, h1, F.kp, B, okG F sc__law_draw (fun vs H Q E ⟨dk, F, ds, _, _, _, r, h⟩ => by rw [r.length]; exact len_draw _ _ h) fun cdv A outer s H vs Q E hr h => ⟨t_draw K, ?_, t_draw_ok h⟩⟩, ms_draw⟩
  have mi := T.z_int
  have ml := T.z_len
  exact pss_cons (ps_if (pt_cmpR (L2.op_neD hr.units) (pe_ix ix_list (pv 0) pe_int (fun _ _ => rfl)) (pe_lst pa_nil) (nomark _))
     (pss_cons (ps_set (i := 2) sc__law_draw.nd rfl (.inl rfl) (pe_ix ix_list (pe_ix ix_list (pv 0) pe_int (fun _ _ => rfl)) pe_int (fun _ _ => rfl)))
     (pss_cons (ps_asg (pe_op op_fdivW (pv 2) (pv 1)) (pg_sub (pe_ix ix_list (pv 0) pe_int (fun _ _ => rfl)) pe_int set_list))
     (pss_cons (ps_if (pt_cmpR op_eq (pe_ix ix_list (pe_ix ix_list (pv 0) pe_int (fun _ _ => rfl)) pe_int (fun _ _ => rfl)) pe_int (nomark _)) (pss_one (ps_expr (pe_bm PySem.F.plainAttrs_list PySem.F.slot_list_pop PySem.F.type_list_pop mt_popAt (pe_ix ix_list (pv 0) pe_int (fun _ _ => rfl)) (pa_cons pe_int pa_nil)))) pss_nil)
     (pss_one (ps_ret (pe_op op_mod (pe_callTy call_int1 (by rfl) mi boot_int (pa_cons (pv 2) pa_nil)) (pv 1)))))))
     pss_nil)
    (pss_cons (ps_asg (pe_op op_add (pe_ix ix_list (pv 0) pe_int (fun _ _ => rfl)) pe_int) (pg_sub (pv 0) pe_int set_list))
    (pss_cons (ps_set (i := 3) sc__law_draw.nd rfl (.inl rfl) (pe_ix ix_list (pe_ix ix_list (pv 0) pe_int (fun _ _ => rfl)) (pe_op op_mod (pe_callTy call_int1 (by rfl) mi boot_int (pa_cons (pe_ix ix_list (pv 0) pe_int (fun _ _ => rfl)) pa_nil)) (pe_callB call_len_seq (by rfl) ml PySem.boot_len (pa_cons (pe_ix ix_list (pv 0) pe_int (fun _ _ => rfl)) pa_nil))) (fun _ _ => rfl)))
    (pss_cons (ps_set (i := 4) sc__law_draw.nd rfl (.inl rfl) (pe_op op_mod (pe_callTy call_int1 (by rfl) mi boot_int (pa_cons (pe_op op_add (pe_op op_mod (pe_callTy call_int1 (by rfl) mi boot_int (pa_cons (pv 3) pa_nil)) pe_int) (pe_op op_mul pe_int (pe_ix ix_list (pv 0) pe_int (fun _ _ => rfl)))) pa_nil)) pe_int))
    (pss_cons (ps_set (i := 4) sc__law_draw.nd rfl (.inl rfl) (pe_op op_mod (pe_callTy call_int1 (by rfl) mi boot_int (pa_cons (pe_op op_add (pe_op op_mul (pv 4) (pv 4)) (pe_op op_mul pe_int (pe_ix ix_list (pv 0) pe_int (fun _ _ => rfl)))) pa_nil)) pe_int))
    (pss_one (ps_ret (pe_op op_mod (pe_op op_fdiv (pe_op op_mod (pe_callTy call_int1 (by rfl) mi boot_int (pa_cons (pe_op op_mul (pv 4) (pv 4)) pa_nil)) pe_int) pe_int) (pv 1))))))))
theorem ok__law_deck (T : Txt P K mg) (D0 : Df K mg "_law_deck" s__law_deck ["script"]) : FnDeck P w K mg base := by
  obtain ⟨f, fd, h1, F, B⟩ := D0
  refine ⟨f, fd, h1, F.kp, B, okG F sc__law_deck len_deck fun cdv A outer s H vs Q E hr h => ⟨t_deck K, ?_, t_deck_ok h⟩⟩
  have mi := T.z_abs
  have ml := T.z_len
  exact pss_cons (ps_setLc (i := 1) (own := [("cell", 2)]) (g := gName 2) (tt := tYes) rfl sc__law_deck.nd rfl rfl (sw_true rfl rfl rfl (by decide +kernel)) (pi_list (pe_slice sl_list (pv 0) po_none (po_some pe_int))) (blkOk_by (own := [("cell", 2)]) (N := ["script", "cells", "cell"]) (sc := defScope s__law_deck) (by decide +kernel)) (fun _ _ _ _ _ => pg_name (i := 2) sc__law_deck.nd rfl (Or.inl rfl)) (fun _ _ _ _ _ => pts_nil) (fun _ _ _ _ _ => pe_callB call_abs (by rfl) mi (by decide +kernel) (pa_cons (pv 2) pa_nil)))
    (pss_one (ps_ret (pe_lst (pa_cons (pe_lc (own := [("cell", 2)]) (g := gName 2) rfl sc__law_deck.nd (pi_list (pv 1)) (blkOk_by (own := [("cell", 2)]) (N := ["script", "cells", "cell"]) (sc := defScope s__law_deck) (by decide +kernel)) (fun _ _ _ _ _ => pg_name (i := 2) sc__law_deck.nd rfl (Or.inl rfl)) (fun _ _ _ _ _ => pts_one (pt_cmpR op_ge (pv 2) (pe_op op_pow pe_int pe_int) (nomark _))) (fun _ _ _ _ _ => pv 2))
      (pa_cons (pe_op op_cat (pv 1) (pe_lst (pa_cons (pe_op op_add pe_int (pe_callB call_len_seq (by rfl) ml PySem.boot_len (pa_cons (pv 1) pa_nil))) pa_nil))) (pa_cons pe_int pa_nil))))))
theorem ok_is_integer (T : Txt P K mg) (D0 : Df K mg "is_integer" s_is_integer ["value", "low", "high"])  : Fn P w K mg base 1 "is_integer" ["value", "low", "high"] sp_is_integer :=
  fn_mk (N := ["value", "low", "high"]) D0 sc_is_integer ms_is_integer len_is_integer (fun f cdv A outer s H E hr => (psd_one (psd_ret (pv_and (pv_isA rfl T.z_isinstance rfl T.z_int (by decide +kernel) (od_n 0) (by decide)) (pv_and (pv_not (pv_isA rfl T.z_isinstance rfl T.z_bool (by decide +kernel) (od_n 0) (by decide))) (pv_and1 (pv_chain L2.op_le L2.op_le (pv_n 1) (pv_n 0) (pv_n 2)))))))) is_integer_ok
theorem ok_watch_error (T : Txt P K mg) (D0 : Df K mg "watch_error" s_watch_error ["value"]) (G_is_integer : Fn P w K mg base 1 "is_integer" ["value", "low", "high"] sp_is_integer) : Fn P w K mg base 2 "watch_error" ["value"] sp_watch_error :=
  fn_mk (N := ["value"]) D0 sc_watch_error ms_watch_error len_watch_error (fun f cdv A outer s H E hr => (psd_cons (psd_if (PWd.pt (pwd_or (ptd_not (pt_v (pv_isA rfl T.z_isinstance rfl T.z_tuple (by decide +kernel) (od_n 0) (by decide)))) (pwd_or1 (pt_cmp (DL.op_neD hr.units) (od_v (pv_B1 b_len (by rfl) T.z_len PySem.boot_len (od_n 0))) (od_v pv_int) (nomark _))))) (psd_one (psd_ret pv_str)) psd_nil)
  (psd_cons (psd_if (ptd_not (pt_v (pv_fn G_is_integer (hr.mono (by decide)) (pad_cons (pv_ix ix_D (od_n 0) (od_v pv_int)) (pad_cons pv_int (pad_cons (pv_globI rfl T.c_MAX_TURN) pad_nil)))))) (psd_one (psd_ret pv_str)) psd_nil)
  (psd_one (psd_ret (pv_if (pt_v (pv_fn G_is_integer (hr.mono (by decide)) (pad_cons (pv_ix ix_D (od_n 0) (od_v pv_int)) (pad_cons pv_int (pad_cons (pv_bin op_subD (od_v (pv_ix ix_D (od_n 0) (od_v pv_int))) (od_v pv_int)) pad_nil))))) pv_non pv_str)))))) watch_error_ok
theorem ok_lot_text (T : Txt P K mg) (D0 : Df K mg "lot_text" s_lot_text ["lot"])  : Fn P w K mg base 1 "lot_text" ["lot"] sp_lot_text :=
  fn_mk (N := ["lot", "turn", "first"]) D0 sc_lot_text ms_lot_text len_lot_text (fun f cdv A outer s H E hr => (psd_cons (psd_if (pt_cmp (DL.op_eqD hr.units) (od_n 0) (od_v (pv_tup pad_nil)) (nomark _)) (psd_one (psd_ret pv_str)) psd_nil)
  (psd_one (psd_ret (pv_join pv_str (pv_frz (pl_comp (own := [("turn", 1), ("first", 2)]) rfl sc_lot_text.nd (pid_seq (pv_n 0)) (blkOk_by (own := [("turn", 1), ("first", 2)]) (N := ["lot", "turn", "first"]) (sc := defScope s_lot_text) (by decide +kernel)) (fun _ _ _ _ _ => (pg_tp rfl (pgs_cons' (pg_nm (i := 1) sc_lot_text.nd) (pgs_cons' (pg_nm (i := 2) sc_lot_text.nd) pgs_nil')))) (fun _ _ _ _ _ => ptsd_nil) (fun _ _ _ _ _ => (pv_fstr (.cons (pv_fmt (pv_n 1)) (.cons pv_str (.cons (pv_fmt (pv_n 2)) .nil)))))))))))) lot_text_ok
theorem ok_number_of (T : Txt P K mg) (D0 : Df K mg "number_of" s_number_of ["word"])  : Fn P w K mg base 1 "number_of" ["word"] sp_number_of :=
  fn_mk (N := ["word", "sign"]) D0 sc_number_of ms_number_of len_number_of (fun f cdv A outer s H E hr => (psd_cons (psd_if (PWd.pt (pwd_or (ptd_not (pt_chainD L2.op_le L2.op_le pv_int (pv_B1 b_len (by rfl) T.z_len PySem.boot_len (od_n 0)) pv_int)) (pwd_or1 (pt_v (pv_B1 (b_any rfl) (by rfl) T.z_any (by decide +kernel) (od_v (pv_frz (pl_comp (own := [("sign", 1)]) rfl sc_number_of.nd (pid_str (pv_n 0)) (blkOk_by (own := [("sign", 1)]) (N := ["word", "sign"]) (sc := defScope s_number_of) (by decide +kernel)) (fun _ _ _ _ _ => (pg_nm (i := 1) sc_number_of.nd)) (fun _ _ _ _ _ => ptsd_nil) (fun _ _ _ _ _ => (pv_cmp (DL.op_notInD hr.units) (od_n 1) (od_v pv_str) (by rfl))))))))))) (psd_one (psd_ret pv_non)) psd_nil)
  (psd_one (psd_ret (pv_if (PWd.pt (pwd_or (pt_cmp (DL.op_eqD hr.units) (od_n 0) (od_v pv_str) (nomark _)) (pwd_or1 (pt_cmp (DL.op_neD hr.units) (od_v (pv_ix ix_D (od_n 0) (od_v pv_int))) (od_v pv_str) (nomark _))))) (pv_T1 b_intS (by rfl) T.z_int boot_int (od_n 0)) pv_non))))) number_of_ok
theorem ok_watch_of (T : Txt P K mg) (D0 : Df K mg "watch_of" s_watch_of ["word"]) (G_number_of : Fn P w K mg base 1 "number_of" ["word"] sp_number_of) (G_watch_error : Fn P w K mg base 2 "watch_error" ["value"] sp_watch_error) : Fn P w K mg base 3 "watch_of" ["word"] sp_watch_of :=
  fn_mk (N := ["word", "parts", "found"]) D0 sc_watch_of ms_watch_of len_watch_of (fun f cdv A outer s H E hr => (psd_cons (psd_setL (i := 1) sc_watch_of.nd (pl_split (pv_n 0) pv_str))
  (psd_cons (psd_if (pt_cmp (DL.op_neD hr.units) (od_v (pv_B1 b_len (by rfl) T.z_len PySem.boot_len (od_n 1))) (od_v pv_int) (nomark _)) (psd_one (psd_ret pv_non)) psd_nil)
  (psd_cons (psd_set (i := 2) sc_watch_of.nd (pv_tup (pad_cons (pv_fn G_number_of (hr.mono (by decide)) (pad_cons (pv_ix ix_D (od_n 1) (od_v pv_int)) pad_nil)) (pad_cons (pv_fn G_number_of (hr.mono (by decide)) (pad_cons (pv_ix ix_D (od_n 1) (od_v pv_int)) pad_nil)) pad_nil))))
  (psd_one (psd_ret (pv_if (pt_cmp op_isND (od_v (pv_fn G_watch_error (hr.mono (by decide)) (pad_cons (pv_n 2) pad_nil))) (od_v pv_non) (nomark _)) (pv_n 2) pv_non))))))) watch_of_ok
theorem ok_parse_lot (T : Txt P K mg) (D0 : Df K mg "parse_lot" s_parse_lot ["value"]) (G_watch_of : Fn P w K mg base 3 "watch_of" ["word"] sp_watch_of) : FnX P w K mg base 4 "parse_lot" ["value"] sp_parse_lot_x :=
  fnx_mk (N := ["value", "found", "place", "word", "one"]) D0 sc_parse_lot ms_parse_lot_x len_parse_lot_x (fun f cdv A outer s H E hr EX tk po => (stss_cons sx_stb sx_ind (sts_if sx_stb (pts_of (ptd_not (pt_v (pv_isA rfl T.z_isinstance rfl T.z_str (by decide +kernel) (od_n 0) (by decide))))) (stss_one (sts_raise1 rfl tk T.e_BadText hr pv_non rfl)) stss_nil)
  (stss_cons sx_stb sx_ind (sts_of (psd_if (pt_cmp (DL.op_eqD hr.units) (od_n 0) (od_v pv_str) (nomark _)) (psd_one (psd_ret (pv_tup pad_nil))) psd_nil))
  (stss_cons sx_stb sx_ind (sts_of (psd_setL (i := 1) sc_parse_lot.nd (pl_lst pad_nil)))
  (stss_cons sx_stb sx_ind (sts_for sx_stb sx_ind po rfl (pid_enum (pv_frz (pl_split (pv_n 0) pv_str)) rfl T.z_enumerate) (pg_tp rfl (pgs_cons' (pg_nm (i := 2) sc_parse_lot.nd) (pgs_cons' (pg_nm (i := 3) sc_parse_lot.nd) pgs_nil'))) (stss_cons sx_stb sx_ind (sts_of (psd_set (i := 4) sc_parse_lot.nd (pv_fn G_watch_of (hr.mono (by decide)) (pad_cons (pv_n 3) pad_nil))))
  (stss_cons sx_stb sx_ind (sts_if sx_stb (pts_of (PWd.pt (pwd_or (pt_cmp op_isND (od_n 4) (od_v pv_non) (nomark _)) (pwd_or1 (pt_cmp op_geD (od_n 2) (od_v (pv_globI rfl T.c_MAX_WATCHES)) (nomark _)))))) (stss_one (sts_raise1 rfl tk T.e_BadText hr (pv_n 2) rfl)) stss_nil)
  (stss_one (sts_of (psd_expr (pv_append (i := 1) (pv_n 4))))))))
  (stss_one (sts_of (psd_ret (pv_T1 b_tuple (by rfl) T.z_tuple (by decide +kernel) (od_n 1)))))))))) parse_lot_x_ok
theorem ok__law_one (T : Txt P K mg) (D0 : Df K mg "_law_one" s__law_one ["deck", "items"]) (G__law_draw : Fn P w K mg base 1 "_law_draw" ["deck", "many"] sp_draw) : Fn P w K mg base 2 "_law_one" ["deck", "items"] sp_law_one :=
  fn_mk (N := ["deck", "items"]) D0 sc__law_one ms_law_one len_law_one (fun f cdv A outer s H E hr => (psd_one (psd_ret (pv_ix ix_D (od_n 1) (od_v (pv_fn G__law_draw (hr.mono (by decide)) (pad_cons (pv_n 0) (pad_cons (pv_B1 b_len (by rfl) T.z_len PySem.boot_len (od_n 1)) pad_nil)))))))) law_one_ok
theorem ok__law_mixed (T : Txt P K mg) (D0 : Df K mg "_law_mixed" s__law_mixed ["deck", "items"]) (G__law_draw : Fn P w K mg base 1 "_law_draw" ["deck", "many"] sp_draw) : Fn P w K mg base 2 "_law_mixed" ["deck", "items"] sp_law_mixed :=
  fn_mk (N := ["deck", "items", "turn", "rest", "found"]) D0 sc__law_mixed ms_law_mixed len_law_mixed (fun f cdv A outer s H E hr => (psd_cons (psd_par (i := 3) (j := 4) rfl sc__law_mixed.nd (by decide) (.o (pl_T b_list (by rfl) T.z_list (by decide +kernel) (od_n 1))) (.o (pl_lst pad_nil)))
  (psd_cons (psd_for PassesOwn.never rfl (pid_range1 (pv_B1 b_len (by rfl) T.z_len PySem.boot_len (od_n 1)) rfl T.z_range) (pg_nm (i := 2) sc__law_mixed.nd) (psd_one (psd_expr (pv_append (i := 4) (pv_popAt (i := 3) (pv_fn G__law_draw (hr.mono (by decide)) (pad_cons (pv_n 0) (pad_cons (pv_B1 b_len (by rfl) T.z_len PySem.boot_len (od_n 3)) pad_nil))))))))
  (psd_one (psd_ret (pv_n 4)))))) law_mixed_ok
theorem ok__law_odd (T : Txt P K mg) (D0 : Df K mg "_law_odd" s__law_odd ["deck"]) (G__law_one : Fn P w K mg base 2 "_law_one" ["deck", "items"] sp_law_one) : Fn P w K mg base 3 "_law_odd" ["deck"] sp_law_odd_s :=
  fn_mk (N := ["deck", "some"]) D0 sc__law_odd ms_law_odd_s len_law_odd_s (fun f cdv A outer s H E hr => (psd_cons (psd_setL (i := 1) sc__law_odd.nd (pl_lst (pad_cons pv_non (pad_cons pv_bl (pad_cons pv_bl (pad_cons pv_int (pad_cons pv_int (pad_cons pv_int (pad_cons (pv_un un_negD (od_v pv_int)) (pad_cons (pv_bin op_powD (od_v pv_int) (od_v pv_int)) (pad_cons pv_str (pad_cons pv_str (pad_cons pv_str (pad_cons (pv_tup pad_nil) (pad_cons (pv_frz (pl_lst pad_nil)) (pad_cons (pv_frz pl_newK) (pad_cons (pv_tup (pad_cons pv_int pad_nil)) (pad_cons (pv_tup (pad_cons pv_int pad_nil)) (pad_cons (pv_tup (pad_cons pv_int (pad_cons pv_int pad_nil))) (pad_cons (pv_tup (pad_cons pv_bl (pad_cons pv_int pad_nil))) (pad_cons (pv_tup (pad_cons pv_int (pad_cons pv_int pad_nil))) pad_nil)))))))))))))))))))))
  (psd_cons (psd_set (i := 1) sc__law_odd.nd (pv_bin op_addD (od_n 1) (od_v (pv_frz (pl_lst (pad_cons (pv_tup (pad_cons (pv_tup (pad_cons pv_int (pad_cons pv_int pad_nil))) pad_nil)) (pad_cons (pv_tup (pad_cons (pv_tup (pad_cons pv_int (pad_cons pv_int pad_nil))) (pad_cons (pv_tup (pad_cons pv_int (pad_cons pv_int pad_nil))) pad_nil))) (pad_cons (pv_tup (pad_cons (pv_tup (pad_cons pv_int (pad_cons pv_bl pad_nil))) pad_nil)) (pad_cons (pv_frz (pl_lst (pad_cons (pv_tup (pad_cons pv_int (pad_cons pv_int pad_nil))) pad_nil))) (pad_cons (pv_tup (pad_cons (pv_tup (pad_cons pv_int (pad_cons pv_int (pad_cons pv_int pad_nil)))) pad_nil)) (pad_cons (pv_tup (pad_cons (pv_bin op_addD (od_v (pv_bin op_powD (od_v pv_int) (od_v pv_int))) (od_v pv_int)) (pad_cons pv_int pad_nil))) (pad_cons (pv_tup (pad_cons pv_str (pad_cons pv_int pad_nil))) pad_nil))))))))))))
  (psd_one (psd_ret (pv_fn G__law_one (hr.mono (by decide)) (pad_cons (pv_n 0) (pad_cons (pv_bin op_addD (od_n 1) (od_v (pv_frz (pl_lst (pad_cons (pv_tup (pad_cons pv_str (pad_cons pv_int (pad_cons (pv_tup (pad_cons (pv_tup (pad_cons pv_str (pad_cons pv_int pad_nil))) (pad_cons (pv_tup (pad_cons pv_str (pad_cons pv_int pad_nil))) pad_nil))) pad_nil)))) (pad_cons (pv_tup (pad_cons pv_int (pad_cons pv_int pad_nil))) (pad_cons (pv_tup (pad_cons pv_int (pad_cons (pv_un un_negD (od_v pv_int)) pad_nil))) (pad_cons (pv_tup (pad_cons pv_str (pad_cons pv_int (pad_cons pv_int pad_nil)))) (pad_cons pv_str pad_nil))))))))) pad_nil)))))))) law_odd_s_ok
theorem ok__law_whole (T : Txt P K mg) (D0 : Df K mg "_law_whole" s__law_whole ["value", "least", "most"])  : Fn P w K mg base 1 "_law_whole" ["value", "least", "most"] sp_law_whole :=
  fn_mk (N := ["value", "least", "most"]) D0 sc__law_whole ms_law_whole len_law_whole (fun f cdv A outer s H E hr => (psd_one (psd_ret (pv_and (pv_isA rfl T.z_isinstance rfl T.z_int (by decide +kernel) (od_n 0) (by decide)) (pv_and (pv_not (pv_isA rfl T.z_isinstance rfl T.z_bool (by decide +kernel) (od_n 0) (by decide))) (pv_and1 (pv_chain L2.op_le L2.op_le (pv_n 1) (pv_n 0) (pv_n 2)))))))) law_whole_ok
theorem ok__law_watch (T : Txt P K mg) (D0 : Df K mg "_law_watch" s__law_watch ["deck", "turns"]) (G__law_one : Fn P w K mg base 2 "_law_one" ["deck", "items"] sp_law_one) (G__law_draw : Fn P w K mg base 1 "_law_draw" ["deck", "many"] sp_draw) : Fn P w K mg base 3 "_law_watch" ["deck", "turns"] sp_law_watch :=
  fn_mk (N := ["deck", "turns", "turn"]) D0 sc__law_watch ms_law_watch len_law_watch (fun f cdv A outer s H E hr => (psd_cons (psd_set (i := 2) sc__law_watch.nd (pv_fn G__law_one (hr.mono (by decide)) (pad_cons (pv_n 0) (pad_cons (pv_n 1) pad_nil))))
  (psd_one (psd_ret (pv_tup (pad_cons (pv_n 2) (pad_cons (pv_fn G__law_draw (hr.mono (by decide)) (pad_cons (pv_n 0) (pad_cons (pv_n 2) pad_nil))) pad_nil))))))) law_watch_ok
theorem ok__law_small_lot (T : Txt P K mg) (D0 : Df K mg "_law_small_lot" s__law_small_lot ["deck", "most"]) (G__law_one : Fn P w K mg base 2 "_law_one" ["deck", "items"] sp_law_one) (G__law_draw : Fn P w K mg base 1 "_law_draw" ["deck", "many"] sp_draw) (G__law_watch : Fn P w K mg base 3 "_law_watch" ["deck", "turns"] sp_law_watch) : Fn P w K mg base 4 "_law_small_lot" ["deck", "most"] sp_law_small_lot :=
  fn_mk (N := ["deck", "most", "some", "turns", "k"]) D0 sc__law_small_lot ms_law_small_lot len_law_small_lot (fun f cdv A outer s H E hr => (psd_cons (psd_setL (i := 2) sc__law_small_lot.nd (pl_lst (pad_cons (pv_frz (pl_lst (pad_cons pv_int (pad_cons pv_int (pad_cons pv_int (pad_cons pv_int (pad_cons pv_int pad_nil))))))) (pad_cons (pv_frz (pl_lst (pad_cons pv_int (pad_cons pv_int (pad_cons pv_int (pad_cons pv_int pad_nil)))))) (pad_cons (pv_frz (pl_lst (pad_cons pv_int (pad_cons pv_int (pad_cons pv_int pad_nil))))) (pad_cons (pv_frz (pl_lst (pad_cons pv_int (pad_cons pv_int (pad_cons pv_int (pad_cons pv_int (pad_cons pv_int (pad_cons pv_int (pad_cons pv_int pad_nil))))))))) (pad_cons (pv_frz (pl_lst (pad_cons pv_int (pad_cons pv_int (pad_cons pv_int pad_nil))))) pad_nil)))))))
  (psd_cons (psd_set (i := 3) sc__law_small_lot.nd (pv_fn G__law_one (hr.mono (by decide)) (pad_cons (pv_n 0) (pad_cons (pv_bin op_addD (od_n 2) (od_v (pv_frz (pl_lst (pad_cons (pv_frz (pl_lst (pad_cons pv_int (pad_cons pv_int (pad_cons pv_int (pad_cons pv_int (pad_cons pv_int pad_nil))))))) pad_nil))))) pad_nil))))
  (psd_one (psd_ret (pv_T1 b_tuple (by rfl) T.z_tuple (by decide +kernel) (od_v (pv_frz (pl_comp (own := [("k", 4)]) rfl sc__law_small_lot.nd (pid_range1 (pv_fn G__law_draw (hr.mono (by decide)) (pad_cons (pv_n 0) (pad_cons (pv_bin op_addD (od_n 1) (od_v pv_int)) pad_nil))) rfl T.z_range) (blkOk_by (own := [("k", 4)]) (N := ["deck", "most", "some", "turns", "k"]) (sc := defScope s__law_small_lot) (by decide +kernel)) (fun _ _ _ _ _ => (pg_nm (i := 4) sc__law_small_lot.nd)) (fun _ _ _ _ _ => ptsd_nil) (fun _ _ _ _ _ => (pv_fn G__law_watch (hr.mono (by decide)) (pad_cons (pv_n 0) (pad_cons (pv_n 3) pad_nil))))))))))))) law_small_lot_ok
theorem ok__law_grown (T : Txt P K mg) (D0 : Df K mg "_law_grown" s__law_grown ["deck", "most"]) (G__law_draw : Fn P w K mg base 1 "_law_draw" ["deck", "many"] sp_draw) (G__law_one : Fn P w K mg base 2 "_law_one" ["deck", "items"] sp_law_one) (G__law_mixed : Fn P w K mg base 2 "_law_mixed" ["deck", "items"] sp_law_mixed) : Fn P w K mg base 3 "_law_grown" ["deck", "most"] sp_law_grown :=
  fn_mk (N := ["deck", "most", "lot", "step", "at", "parts", "turn", "first", "k"]) D0 sc__law_grown ms_law_grown len_law_grown (fun f cdv A outer s H E hr => (psd_cons (psd_setL (i := 2) sc__law_grown.nd (pl_lst (pad_cons (pv_tup (pad_cons pv_int (pad_cons pv_int pad_nil))) pad_nil)))
  (psd_cons (psd_for PassesOwn.never rfl (pid_range1 (pv_fn G__law_draw (hr.mono (by decide)) (pad_cons (pv_n 0) (pad_cons pv_int pad_nil))) rfl T.z_range) (pg_nm (i := 3) sc__law_grown.nd) (psd_cons (psd_setP (pv_tup (pad_cons (pv_fn G__law_draw (hr.mono (by decide)) (pad_cons (pv_n 0) (pad_cons (pv_B1 b_len (by rfl) T.z_len PySem.boot_len (od_n 2)) pad_nil))) (pad_cons (pv_fn G__law_one (hr.mono (by decide)) (pad_cons (pv_n 0) (pad_cons (pv_frz (pl_lst (pad_cons pv_int (pad_cons pv_int (pad_cons pv_int (pad_cons pv_int (pad_cons pv_int pad_nil))))))) pad_nil))) pad_nil))) (pg_tp rfl (pgs_cons' (pg_nm (i := 4) sc__law_grown.nd) (pgs_cons' (pg_nm (i := 5) sc__law_grown.nd) pgs_nil'))))
  (psd_cons (psd_setP (pv_ix ix_D (od_n 2) (od_n 4)) (pg_tp rfl (pgs_cons' (pg_nm (i := 6) sc__law_grown.nd) (pgs_cons' (pg_nm (i := 7) sc__law_grown.nd) pgs_nil'))))
  (psd_one (psd_if (PWd.pt (pwd_and (pt_cmp op_leD (od_v (pv_bin op_subD (od_v (pv_bin op_addD (od_v (pv_B1 b_len (by rfl) T.z_len PySem.boot_len (od_n 2))) (od_n 5))) (od_v pv_int))) (od_n 1) (nomark _)) (pwd_and1 (pt_cmp op_ltD (od_v (pv_bin op_mulD (od_n 6) (od_n 5))) (od_v pv_int) (nomark _))))) (psd_one (psd_set (i := 2) sc__law_grown.nd (pv_bin op_addD (od_v (pv_bin op_addD (od_v (pv_sl (od_n 2) op_none (op_some (pv_n 4)))) (od_v (pv_frz (pl_comp (own := [("k", 8)]) rfl sc__law_grown.nd (pid_range1 (pv_n 5) rfl T.z_range) (blkOk_by (own := [("k", 8)]) (N := ["deck", "most", "lot", "step", "at", "parts", "turn", "first", "k"]) (sc := defScope s__law_grown) (by decide +kernel)) (fun _ _ _ _ _ => (pg_nm (i := 8) sc__law_grown.nd)) (fun _ _ _ _ _ => ptsd_nil) (fun _ _ _ _ _ => (pv_tup (pad_cons (pv_bin op_mulD (od_n 6) (od_n 5)) (pad_cons (pv_bin op_addD (od_n 7) (od_v (pv_bin op_mulD (od_n 8) (od_n 6)))) pad_nil))))))))) (od_v (pv_sl (od_n 2) (op_some (pv_bin op_addD (od_n 4) (od_v pv_int))) op_none))))) psd_nil)))))
  (psd_one (psd_ret (pv_T1 b_tuple (by rfl) T.z_tuple (by decide +kernel) (od_v (pv_fn G__law_mixed (hr.mono (by decide)) (pad_cons (pv_n 0) (pad_cons (pv_n 2) pad_nil)))))))))) law_grown_ok
theorem ok__law_held_lot (T : Txt P K mg) (D0 : Df K mg "_law_held_lot" s__law_held_lot ["deck", "most"]) (G__law_one : Fn P w K mg base 2 "_law_one" ["deck", "items"] sp_law_one) (G__law_grown : Fn P w K mg base 3 "_law_grown" ["deck", "most"] sp_law_grown) (G__law_draw : Fn P w K mg base 1 "_law_draw" ["deck", "many"] sp_draw) (G__law_watch : Fn P w K mg base 3 "_law_watch" ["deck", "turns"] sp_law_watch) (G__law_mixed : Fn P w K mg base 2 "_law_mixed" ["deck", "items"] sp_law_mixed) : Fn P w K mg base 4 "_law_held_lot" ["deck", "most"] sp_law_held_lot :=
  fn_mk (N := ["deck", "most", "lot", "by", "moved", "turn", "first"]) D0 sc__law_held_lot ms_law_held_lot len_law_held_lot (fun f cdv A outer s H E hr => (psd_cons (psd_set (i := 2) sc__law_held_lot.nd (pv_fn G__law_one (hr.mono (by decide)) (pad_cons (pv_n 0) (pad_cons (pv_frz (pl_lst (pad_cons (pv_tup (pad_cons (pv_tup (pad_cons pv_int (pad_cons pv_int pad_nil))) (pad_cons (pv_tup (pad_cons pv_int (pad_cons pv_int pad_nil))) (pad_cons (pv_tup (pad_cons pv_int (pad_cons pv_int pad_nil))) (pad_cons (pv_tup (pad_cons pv_int (pad_cons pv_int pad_nil))) (pad_cons (pv_tup (pad_cons pv_int (pad_cons pv_int pad_nil))) pad_nil)))))) (pad_cons (pv_fn G__law_grown (hr.mono (by decide)) (pad_cons (pv_n 0) (pad_cons (pv_n 1) pad_nil))) (pad_cons (pv_fn G__law_grown (hr.mono (by decide)) (pad_cons (pv_n 0) (pad_cons (pv_n 1) pad_nil))) pad_nil))))) pad_nil))))
  (psd_cons (psd_if (pt_cmp op_gtD (od_v (pv_B1 b_len (by rfl) T.z_len PySem.boot_len (od_n 2))) (od_n 1) (nomark _)) (psd_one (psd_set (i := 2) sc__law_held_lot.nd (pv_fn G__law_grown (hr.mono (by decide)) (pad_cons (pv_n 0) (pad_cons (pv_n 1) pad_nil))))) psd_nil)
  (psd_cons (psd_set (i := 3) sc__law_held_lot.nd (pv_fn G__law_draw (hr.mono (by decide)) (pad_cons (pv_n 0) (pad_cons pv_int pad_nil))))
  (psd_cons (psd_setLc (i := 4) (own := [("turn", 5), ("first", 6)]) rfl sc__law_held_lot.nd (pid_seq (pv_n 2)) (blkOk_by (own := [("turn", 5), ("first", 6)]) (N := ["deck", "most", "lot", "by", "moved", "turn", "first"]) (sc := defScope s__law_held_lot) (by decide +kernel)) (fun _ _ _ _ _ => (pg_tp rfl (pgs_cons' (pg_nm (i := 5) sc__law_held_lot.nd) (pgs_cons' (pg_nm (i := 6) sc__law_held_lot.nd) pgs_nil')))) (fun _ _ _ _ _ => ptsd_nil) (fun _ _ _ _ _ => (pv_tup (pad_cons (pv_n 5) (pad_cons (pv_bin op_modD (od_v (pv_T1 b_int (by rfl) T.z_int boot_int (od_v (pv_bin op_addD (od_n 6) (od_n 3))))) (od_n 5)) pad_nil)))) (sw_true rfl rfl rfl (by decide +kernel)))
  (psd_cons (psd_while PassesOwn.never (PWd.pt (pwd_and (pt_cmp op_ltD (od_v (pv_B1 b_len (by rfl) T.z_len PySem.boot_len (od_n 4))) (od_n 1) (nomark _)) (pwd_and1 (pt_cmp (DL.op_eqD hr.units) (od_v (pv_fn G__law_draw (hr.mono (by decide)) (pad_cons (pv_n 0) (pad_cons pv_int pad_nil)))) (od_v pv_int) (nomark _))))) (psd_one (psd_expr (pv_append (i := 4) (pv_fn G__law_watch (hr.mono (by decide)) (pad_cons (pv_n 0) (pad_cons (pv_frz (pl_lst (pad_cons pv_int (pad_cons pv_int (pad_cons pv_int (pad_cons pv_int (pad_cons pv_int (pad_cons pv_int pad_nil)))))))) pad_nil)))))))
  (psd_one (psd_ret (pv_T1 b_tuple (by rfl) T.z_tuple (by decide +kernel) (od_v (pv_fn G__law_mixed (hr.mono (by decide)) (pad_cons (pv_n 0) (pad_cons (pv_n 4) pad_nil))))))))))))) law_held_lot_ok
theorem ok__law_great_lot (T : Txt P K mg) (D0 : Df K mg "_law_great_lot" s__law_great_lot ["deck", "most"]) (G__law_one : Fn P w K mg base 2 "_law_one" ["deck", "items"] sp_law_one) (G__law_draw : Fn P w K mg base 1 "_law_draw" ["deck", "many"] sp_draw) : Fn P w K mg base 3 "_law_great_lot" ["deck", "most"] sp_law_great_lot :=
  fn_mk (N := ["deck", "most", "k", "base", "found", "turn"]) D0 sc__law_great_lot ms_law_great_lot len_law_great_lot (fun f cdv A outer s H E hr => (psd_cons (psd_par (i := 3) (j := 4) rfl sc__law_great_lot.nd (by decide) (.v (pv_fn G__law_one (hr.mono (by decide)) (pad_cons (pv_n 0) (pad_cons (pv_frz (pl_lst (pad_cons pv_int (pad_cons pv_int (pad_cons pv_int (pad_cons pv_int (pad_cons (pv_bin op_powD (od_v pv_int) (od_v pv_int)) (pad_cons pv_int pad_nil)))))))) pad_nil)))) (.o (pl_lst pad_nil)))
  (psd_cons (psd_for PassesOwn.never rfl (pid_range1 (pv_fn G__law_draw (hr.mono (by decide)) (pad_cons (pv_n 0) (pad_cons (pv_bin op_addD (od_n 1) (od_v pv_int)) pad_nil))) rfl T.z_range) (pg_nm (i := 2) sc__law_great_lot.nd) (psd_cons (psd_set (i := 5) sc__law_great_lot.nd (pv_bin op_mulD (od_n 3) (od_v (pv_bin op_addD (od_v pv_int) (od_v (pv_fn G__law_draw (hr.mono (by decide)) (pad_cons (pv_n 0) (pad_cons pv_int pad_nil))))))))
  (psd_one (psd_expr (pv_append (i := 4) (pv_tup (pad_cons (pv_n 5) (pad_cons (pv_fn G__law_draw (hr.mono (by decide)) (pad_cons (pv_n 0) (pad_cons (pv_n 5) pad_nil))) pad_nil))))))))
  (psd_one (psd_ret (pv_T1 b_tuple (by rfl) T.z_tuple (by decide +kernel) (od_n 4))))))) law_great_lot_ok
theorem ok__law_dense_lot (T : Txt P K mg) (D0 : Df K mg "_law_dense_lot" s__law_dense_lot ["deck", "most"]) (G__law_draw : Fn P w K mg base 1 "_law_draw" ["deck", "many"] sp_draw) (G__law_mixed : Fn P w K mg base 2 "_law_mixed" ["deck", "items"] sp_law_mixed) : Fn P w K mg base 3 "_law_dense_lot" ["deck", "most"] sp_law_dense_lot :=
  fn_mk (N := ["deck", "most", "lot", "many", "by", "k"]) D0 sc__law_dense_lot ms_law_dense_lot len_law_dense_lot (fun f cdv A outer s H E hr => (psd_cons (psd_setP (pv_tup (pad_cons (pv_bin op_addD (od_v pv_int) (od_v (pv_fn G__law_draw (hr.mono (by decide)) (pad_cons (pv_n 0) (pad_cons (pv_n 1) pad_nil))))) (pad_cons (pv_fn G__law_draw (hr.mono (by decide)) (pad_cons (pv_n 0) (pad_cons pv_int pad_nil))) pad_nil))) (pg_tp rfl (pgs_cons' (pg_nm (i := 3) sc__law_dense_lot.nd) (pgs_cons' (pg_nm (i := 4) sc__law_dense_lot.nd) pgs_nil'))))
  (psd_cons (psd_setLc (i := 2) (own := [("k", 5)]) rfl sc__law_dense_lot.nd (pid_range1 (pv_n 3) rfl T.z_range) (blkOk_by (own := [("k", 5)]) (N := ["deck", "most", "lot", "many", "by", "k"]) (sc := defScope s__law_dense_lot) (by decide +kernel)) (fun _ _ _ _ _ => (pg_nm (i := 5) sc__law_dense_lot.nd)) (fun _ _ _ _ _ => ptsd_nil) (fun _ _ _ _ _ => (pv_tup (pad_cons (pv_bin op_mulD (od_v pv_int) (od_v (pv_bin op_shlD (od_v pv_int) (od_n 5)))) (pad_cons (pv_bin op_modD (od_v (pv_T1 b_int (by rfl) T.z_int boot_int (od_v (pv_bin op_addD (od_v (pv_bin op_subD (od_v (pv_bin op_shlD (od_v pv_int) (od_n 5))) (od_v pv_int))) (od_n 4))))) (od_v (pv_bin op_mulD (od_v pv_int) (od_v (pv_bin op_shlD (od_v pv_int) (od_n 5)))))) pad_nil)))) (sw_true rfl rfl rfl (by decide +kernel)))
  (psd_one (psd_ret (pv_T1 b_tuple (by rfl) T.z_tuple (by decide +kernel) (od_v (pv_fn G__law_mixed (hr.mono (by decide)) (pad_cons (pv_n 0) (pad_cons (pv_n 2) pad_nil)))))))))) law_dense_lot_ok
theorem ok__law_any_lot (T : Txt P K mg) (D0 : Df K mg "_law_any_lot" s__law_any_lot ["deck", "most"]) (G__law_draw : Fn P w K mg base 1 "_law_draw" ["deck", "many"] sp_draw) (G__law_small_lot : Fn P w K mg base 4 "_law_small_lot" ["deck", "most"] sp_law_small_lot) (G__law_grown : Fn P w K mg base 3 "_law_grown" ["deck", "most"] sp_law_grown) (G__law_dense_lot : Fn P w K mg base 3 "_law_dense_lot" ["deck", "most"] sp_law_dense_lot) (G__law_held_lot : Fn P w K mg base 4 "_law_held_lot" ["deck", "most"] sp_law_held_lot) (G__law_great_lot : Fn P w K mg base 3 "_law_great_lot" ["deck", "most"] sp_law_great_lot) : Fn P w K mg base 5 "_law_any_lot" ["deck", "most"] sp_law_any_lot :=
  fn_mk (N := ["deck", "most", "way"]) D0 sc__law_any_lot ms_law_any_lot len_law_any_lot (fun f cdv A outer s H E hr => (psd_cons (psd_set (i := 2) sc__law_any_lot.nd (pv_fn G__law_draw (hr.mono (by decide)) (pad_cons (pv_n 0) (pad_cons pv_int pad_nil))))
  (psd_cons (psd_if (pt_cmp (DL.op_eqD hr.units) (od_n 2) (od_v pv_int) (nomark _)) (psd_one (psd_ret (pv_fn G__law_small_lot (hr.mono (by decide)) (pad_cons (pv_n 0) (pad_cons (pv_n 1) pad_nil))))) psd_nil)
  (psd_cons (psd_if (pt_cmp (DL.op_eqD hr.units) (od_n 2) (od_v pv_int) (nomark _)) (psd_one (psd_ret (pv_fn G__law_grown (hr.mono (by decide)) (pad_cons (pv_n 0) (pad_cons (pv_n 1) pad_nil))))) psd_nil)
  (psd_cons (psd_if (pt_cmp (DL.op_eqD hr.units) (od_n 2) (od_v pv_int) (nomark _)) (psd_one (psd_ret (pv_fn G__law_dense_lot (hr.mono (by decide)) (pad_cons (pv_n 0) (pad_cons (pv_n 1) pad_nil))))) psd_nil)
  (psd_one (psd_ret (pv_if (pt_cmp (DL.op_eqD hr.units) (od_n 2) (od_v pv_int) (nomark _)) (pv_fn G__law_held_lot (hr.mono (by decide)) (pad_cons (pv_n 0) (pad_cons (pv_n 1) pad_nil))) (pv_fn G__law_great_lot (hr.mono (by decide)) (pad_cons (pv_n 0) (pad_cons (pv_n 1) pad_nil))))))))))) law_any_lot_ok
theorem ok__law_watch_error (T : Txt P K mg) (D0 : Df K mg "_law_watch_error" s__law_watch_error ["value"]) (G__law_whole : Fn P w K mg base 1 "_law_whole" ["value", "least", "most"] sp_law_whole) : Fn P w K mg base 2 "_law_watch_error" ["value"] sp_law_watch_error_g :=
  fn_mk (N := ["value"]) D0 sc__law_watch_error ms_law_watch_error_g len_law_watch_error_g (fun f cdv A outer s H E hr => (psd_cons (psd_if (PWd.pt (pwd_or (ptd_not (pt_v (pv_isA rfl T.z_isinstance rfl T.z_tuple (by decide +kernel) (od_n 0) (by decide)))) (pwd_or1 (pt_cmp (DL.op_neD hr.units) (od_v (pv_B1 b_len (by rfl) T.z_len PySem.boot_len (od_n 0))) (od_v pv_int) (nomark _))))) (psd_one (psd_ret pv_str)) psd_nil)
  (psd_cons (psd_if (ptd_not (pt_v (pv_fn G__law_whole (hr.mono (by decide)) (pad_cons (pv_ix ix_D (od_n 0) (od_v pv_int)) (pad_cons pv_int (pad_cons (pv_bin op_powD (od_v pv_int) (od_v pv_int)) pad_nil)))))) (psd_one (psd_ret pv_str)) psd_nil)
  (psd_one (psd_ret (pv_if (pt_v (pv_fn G__law_whole (hr.mono (by decide)) (pad_cons (pv_ix ix_D (od_n 0) (od_v pv_int)) (pad_cons pv_int (pad_cons (pv_bin op_subD (od_v (pv_ix ix_D (od_n 0) (od_v pv_int))) (od_v pv_int)) pad_nil))))) pv_non pv_str)))))) law_watch_error_g_ok
theorem ok__law_text (T : Txt P K mg) (D0 : Df K mg "_law_text" s__law_text ["lot"])  : Fn P w K mg base 1 "_law_text" ["lot"] sp_law_text :=
  fn_mk (N := ["lot", "turn", "first"]) D0 sc__law_text ms_law_text len_law_text (fun f cdv A outer s H E hr => (psd_one (psd_ret (pv_if (pt_cmp (DL.op_neD hr.units) (od_n 0) (od_v (pv_tup pad_nil)) (nomark _)) (pv_join pv_str (pv_frz (pl_comp (own := [("turn", 1), ("first", 2)]) rfl sc__law_text.nd (pid_seq (pv_n 0)) (blkOk_by (own := [("turn", 1), ("first", 2)]) (N := ["lot", "turn", "first"]) (sc := defScope s__law_text) (by decide +kernel)) (fun _ _ _ _ _ => (pg_tp rfl (pgs_cons' (pg_nm (i := 1) sc__law_text.nd) (pgs_cons' (pg_nm (i := 2) sc__law_text.nd) pgs_nil')))) (fun _ _ _ _ _ => ptsd_nil) (fun _ _ _ _ _ => (pv_bin op_addD (od_v (pv_bin op_addD (od_v (pv_T1 b_str (by rfl) T.z_str (by decide +kernel) (od_n 1))) (od_v pv_str))) (od_v (pv_T1 b_str (by rfl) T.z_str (by decide +kernel) (od_n 2)))))))) pv_str)))) law_text_ok
theorem ok__law_number (T : Txt P K mg) (D0 : Df K mg "_law_number" s__law_number ["word"])  : Fn P w K mg base 1 "_law_number" ["word"] sp_law_number :=
  fn_mk (N := ["word", "sign"]) D0 sc__law_number ms_law_number len_law_number (fun f cdv A outer s H E hr => (psd_cons (psd_if (PWd.pt (pwd_or (pt_cmp (DL.op_eqD hr.units) (od_n 0) (od_v pv_str) (nomark _)) (pwd_or (pt_cmp (DL.op_neD hr.units) (od_v (pv_frz (pl_comp (own := [("sign", 1)]) rfl sc__law_number.nd (pid_str (pv_n 0)) (blkOk_by (own := [("sign", 1)]) (N := ["word", "sign"]) (sc := defScope s__law_number) (by decide +kernel)) (fun _ _ _ _ _ => (pg_nm (i := 1) sc__law_number.nd)) (fun _ _ _ _ _ => (ptsd_one (pt_cmp (DL.op_notInD hr.units) (od_n 1) (od_v pv_str) (by rfl)))) (fun _ _ _ _ _ => (pv_n 1))))) (od_v (pv_frz (pl_lst pad_nil))) (nomark _)) (pwd_or1 (pt_cmp op_gtD (od_v (pv_B1 b_len (by rfl) T.z_len PySem.boot_len (od_n 0))) (od_v pv_int) (nomark _)))))) (psd_one (psd_ret (pv_un un_negD (od_v pv_int)))) psd_nil)
  (psd_one (psd_ret (pv_if (PWd.pt (pwd_or (pt_cmp (DL.op_eqD hr.units) (od_n 0) (od_v pv_str) (nomark _)) (pwd_or1 (pt_cmp (DL.op_neD hr.units) (od_v (pv_ix ix_D (od_n 0) (od_v pv_int))) (od_v pv_str) (nomark _))))) (pv_T1 b_intS (by rfl) T.z_int boot_int (od_n 0)) (pv_un un_negD (od_v pv_int))))))) law_number_ok
theorem ok__law_read (T : Txt P K mg) (D0 : Df K mg "_law_read" s__law_read ["value"]) (G__law_number : Fn P w K mg base 1 "_law_number" ["word"] sp_law_number) (G__law_watch_error : Fn P w K mg base 2 "_law_watch_error" ["value"] sp_law_watch_error_g) : Fn P w K mg base 3 "_law_read" ["value"] sp_law_read :=
  fn_mk (N := ["value", "place", "words", "found", "parts", "one", "part"]) D0 sc__law_read ms_law_read len_law_read (fun f cdv A outer s H E hr => (psd_cons (psd_if (ptd_not (pt_v (pv_isA rfl T.z_isinstance rfl T.z_str (by decide +kernel) (od_n 0) (by decide)))) (psd_one (psd_ret (pv_frz (pl_lst (pad_cons pv_str (pad_cons pv_non pad_nil)))))) psd_nil)
  (psd_cons (psd_if (pt_cmp (DL.op_eqD hr.units) (od_n 0) (od_v pv_str) (nomark _)) (psd_one (psd_ret (pv_frz (pl_lst (pad_cons pv_str (pad_cons (pv_tup pad_nil) pad_nil)))))) psd_nil)
  (psd_cons (psd_par (i := 2) (j := 3) rfl sc__law_read.nd (by decide) (.o (pl_split (pv_n 0) pv_str)) (.o (pl_lst pad_nil)))
  (psd_cons (psd_for PassesOwn.never rfl (pid_range1 (pv_B1 b_len (by rfl) T.z_len PySem.boot_len (od_n 2)) rfl T.z_range) (pg_nm (i := 1) sc__law_read.nd) (psd_cons (psd_setL (i := 4) sc__law_read.nd (pl_split (pv_ix ix_D (od_n 2) (od_n 1)) pv_str))
  (psd_cons (psd_set (i := 5) sc__law_read.nd (pv_T1 b_tuple (by rfl) T.z_tuple (by decide +kernel) (od_v (pv_frz (pl_comp (own := [("part", 6)]) rfl sc__law_read.nd (pid_seq (pv_n 4)) (blkOk_by (own := [("part", 6)]) (N := ["value", "place", "words", "found", "parts", "one", "part"]) (sc := defScope s__law_read) (by decide +kernel)) (fun _ _ _ _ _ => (pg_nm (i := 6) sc__law_read.nd)) (fun _ _ _ _ _ => ptsd_nil) (fun _ _ _ _ _ => (pv_fn G__law_number (hr.mono (by decide)) (pad_cons (pv_n 6) pad_nil))))))))
  (psd_cons (psd_if (PWd.pt (pwd_or (pt_cmp (DL.op_neD hr.units) (od_v (pv_B1 b_len (by rfl) T.z_len PySem.boot_len (od_n 4))) (od_v pv_int) (nomark _)) (pwd_or (pt_cmp op_notND (od_v (pv_fn G__law_watch_error (hr.mono (by decide)) (pad_cons (pv_n 5) pad_nil))) (od_v pv_non) (nomark _)) (pwd_or1 (pt_cmp op_gtD (od_n 1) (od_v pv_int) (nomark _)))))) (psd_one (psd_ret (pv_frz (pl_lst (pad_cons pv_str (pad_cons (pv_n 1) pad_nil)))))) psd_nil)
  (psd_one (psd_expr (pv_append (i := 3) (pv_n 5))))))))
  (psd_one (psd_ret (pv_frz (pl_lst (pad_cons pv_str (pad_cons (pv_T1 b_tuple (by rfl) T.z_tuple (by decide +kernel) (od_n 3)) pad_nil))))))))))) law_read_ok
theorem ok__law_told_lot (T : Txt P K mg) (D0 : Df K mg "_law_told_lot" s__law_told_lot ["value"]) (G_parse_lot : FnX P w K mg base 4 "parse_lot" ["value"] sp_parse_lot_x) : Fn P w K mg base 5 "_law_told_lot" ["value"] sp_law_told_lot :=
  fn_mk (N := ["value", "error", "found"]) D0 sc__law_told_lot ms_law_told_lot len_law_told_lot (fun f cdv A outer s H E hr => (psd_cons (psd_try1 (i := 1) T.e_BadText rfl rfl sc__law_told_lot.nd rfl rfl rfl (fun W pn xe tk po EX => (stss_one (sts_set (i := 2) sc__law_told_lot.nd (pvs_lst (pas_cons sx_stb (pvs_in pv_str) (pas_cons sx_stb (pvs_fnX G_parse_lot (hr.mono (by decide)) tk (pad_cons (pv_n 0) pad_nil)) pas_nil)))))) (fun a oe cls dd pn hz hf hcls d => (stss_one (sts_set (i := 2) sc__law_told_lot.nd (pvs_lst (pas_cons serr_stb (pvs_in pv_str) (pas_cons serr_stb (pvs_err1 (i := 1) T.e_BadText hz hf hcls rfl rfl (.inl rfl) (by decide) (by decide)) pas_nil)))))))
  (psd_one (psd_ret (pv_n 2))))) law_told_lot_ok
theorem ok__law_spoilt (T : Txt P K mg) (D0 : Df K mg "_law_spoilt" s__law_spoilt ["deck", "text"]) (G__law_draw : Fn P w K mg base 1 "_law_draw" ["deck", "many"] sp_draw) (G__law_one : Fn P w K mg base 2 "_law_one" ["deck", "items"] sp_law_one) : Fn P w K mg base 3 "_law_spoilt" ["deck", "text"] sp_law_spoilt :=
  fn_mk (N := ["deck", "text", "place", "sign", "odd", "way", "words", "at"]) D0 sc__law_spoilt ms_law_spoilt len_law_spoilt (fun f cdv A outer s H E hr => (psd_cons (psd_par (i := 6) (j := 7) rfl sc__law_spoilt.nd (by decide) (.o (pl_split (pv_n 1) pv_str)) (.v (pv_fn G__law_draw (hr.mono (by decide)) (pad_cons (pv_n 0) (pad_cons (pv_bin op_addD (od_v (pv_B1 b_len (by rfl) T.z_len PySem.boot_len (od_n 1))) (od_v pv_int)) pad_nil)))))
  (psd_cons (psd_set (i := 2) sc__law_spoilt.nd (pv_fn G__law_draw (hr.mono (by decide)) (pad_cons (pv_n 0) (pad_cons (pv_B1 b_len (by rfl) T.z_len PySem.boot_len (od_n 6)) pad_nil))))
  (psd_cons (psd_set (i := 3) sc__law_spoilt.nd (pv_fn G__law_one (hr.mono (by decide)) (pad_cons (pv_n 0) (pad_cons (pv_frz (pl_lst (pad_cons pv_str (pad_cons pv_str (pad_cons pv_str (pad_cons pv_str (pad_cons pv_str (pad_cons pv_str (pad_cons pv_str (pad_cons pv_str (pad_cons pv_str (pad_cons pv_str (pad_cons pv_str (pad_cons pv_str pad_nil)))))))))))))) pad_nil))))
  (psd_cons (psd_set (i := 4) sc__law_spoilt.nd (pv_fn G__law_one (hr.mono (by decide)) (pad_cons (pv_n 0) (pad_cons (pv_frz (pl_lst (pad_cons pv_str (pad_cons pv_str (pad_cons pv_str (pad_cons pv_str (pad_cons pv_str (pad_cons pv_str (pad_cons pv_str (pad_cons pv_str (pad_cons pv_str (pad_cons pv_str pad_nil)))))))))))) pad_nil))))
  (psd_cons (psd_set (i := 5) sc__law_spoilt.nd (pv_fn G__law_draw (hr.mono (by decide)) (pad_cons (pv_n 0) (pad_cons pv_int pad_nil))))
  (psd_cons (psd_if (pt_cmp op_ltD (od_n 5) (od_v pv_int) (nomark _)) (psd_one (psd_ret (pv_bin op_addD (od_v (pv_bin op_addD (od_v (pv_sl (od_n 1) op_none (op_some (pv_n 7)))) (od_n 3))) (od_v (pv_sl (od_n 1) (op_some (pv_bin op_addD (od_n 7) (od_n 5))) op_none))))) psd_nil)
  (psd_one (psd_ret (pv_join pv_str (pv_bin op_addD (od_v (pv_bin op_addD (od_v (pv_sl (od_n 6) op_none (op_some (pv_n 2)))) (od_v (pv_frz (pl_lst (pad_cons (pv_n 4) pad_nil)))))) (od_v (pv_sl (od_n 6) (op_some (pv_bin op_subD (od_v (pv_bin op_addD (od_n 2) (od_n 5))) (od_v pv_int))) op_none))))))))))))) law_spoilt_ok
def c_law_k03_1 : DSm :=
  (dSeq (dSet 5 (dCall sp_law_spoilt (dAc (dVar 1) (dAc (dVar 4) dA0))))
  (dSeq (dSetL 6 (dLst (dAc (dVar 4) (dAc (dVar 5) (dAc (dCall sp_law_spoilt (dAc (dVar 1) (dAc (dVar 5) dA0))) (dAc (dCall sp_law_spoilt (dAc (dVar 1) (dAc (dVar 4) dA0))) (dAc (dCall sp_law_spoilt (dAc (dVar 1) (dAc (dVar 4) dA0))) (dAc (dC (.str "")) (dAc (dC (.str " ")) (dAc (dC (.str "none ")) (dAc (dC (.str "None")) dA0)))))))))))
  (dSeq (dSet 6 (dOp opAdd (.n 6) (.v (dFrz (dLst (dAc (dJoin (dC (.str " ")) (dOp opMul (.v (dFrz (dLst (dAc (dC (.str "2:0")) dA0)))) (.v (dC (.int 10))))) (dAc (dJoin (dC (.str " ")) (dOp opMul (.v (dFrz (dLst (dAc (dC (.str "2:1")) dA0)))) (.v (dC (.int 11))))) (dAc (dOp opMulS (.v (dC (.str "2:1 "))) (.v (dC (.int 10)))) (dAc (dC (.str "1:0")) (dAc (dC (.str "0:0")) (dAc (dCall sp_law_odd_s (dAc (dVar 1) dA0)) (dAc (dC .non) (dAc (dFrz (dLst (dAc (dVar 4) dA0))) (dAc (dC (.int 20)) dA0))))))))))))))
  (dFor (dSeqI (dVar 6)) (.nm 7) (dIf (dTst (dOp opNe (.v (dUn opRepr (.v (dCall sp_law_told_lot (dAc (dVar 7) dA0))))) (.v (dUn opRepr (.v (dCall sp_law_read (dAc (dVar 7) dA0))))))) (dRet (dC (.bl false))) dNext)))))
def b_law_k03 : DSm :=
  (dSeq (dFor (dRng1 (dC (.int 10))) (.nm 2) (dSeq (dSet 3 (dCall sp_law_any_lot (dAc (dVar 1) (dAc (dC (.int 10)) dA0))))
  (dSeq (dSet 4 (dCall sp_law_text (dAc (dVar 3) dA0)))
  (dSeq (dIf (dTst (dOp opNe (.v (dUn opRepr (.v (dFrz (dLst (dAc (dCall sp_lot_text (dAc (dVar 3) dA0)) (dAc (dCall (nox sp_parse_lot_x) (dAc (dCall sp_lot_text (dAc (dVar 3) dA0)) dA0)) dA0))))))) (.v (dUn opRepr (.v (dFrz (dLst (dAc (dVar 4) (dAc (dVar 3) dA0))))))))) (dRet (dC (.bl false))) dNext)
  c_law_k03_1))))
  (dRet (dC (.bl true))))
end
theorem num_head : ∀ m : Nat, 0 < m → ∃ c r, TL.numL m = c :: r ∧ c ≠ 48 := fun m => by
  induction m using Nat.strongRecOn with
  | _ m ih =>
    intro hm
    by_cases h : m < 10
    · exact ⟨48 + m, [], TL.numL_lt h, by omega⟩
    · obtain ⟨c, r, e, hc⟩ := ih (m / 10) (by omega) (by omega)
      exact ⟨c, r ++ [48 + m % 10], by rw [TL.numL_step (by omega), e]; rfl, hc⟩
theorem sgn_num (m : Nat) : sgn_s (Str.ofString (toString ((m : Nat) : Int))) = TL.numL m := TL.tl_num m
theorem numN_of {i : Int} (h0 : 0 ≤ i) (h : i ≤ 1000000000000) : numN (Str.ofString (toString i)) = some i := by
  obtain ⟨m, rfl⟩ := Int.eq_ofNat_of_zero_le h0
  have hs := sgn_num m
  have hl : (Str.ofString (toString ((m : Nat) : Int))).length = (TL.numL m).length := by rw [← hs, len_sg]
  have h1 : (TL.numL m).length ≤ 13 := TL.numL_len (by decide) (by omega)
  have h2 : 1 ≤ (TL.numL m).length := by
    have := TL.numL_ne m
    cases e : TL.numL m with
    | nil => exact absurd e this
    | cons a r => rw [List.length_cons]; omega
  have hd : allDig (Str.ofString (toString ((m : Nat) : Int))) = true := allDig_iff.mpr (by rw [hs]; exact TL.numL_digits m)
  have hr : right0 (Str.ofString (toString ((m : Nat) : Int))) = true := by
    unfold right0
    rcases Nat.eq_zero_or_pos m with rfl | hm
    · rw [decide_eq_true (by rfl)]; rfl
    · obtain ⟨c, r, e, hc⟩ := num_head m hm
      rw [hs, e]
      simp [hc]
  unfold numN
  rw [hd, hr, decide_eq_true (by rw [hl]; exact ⟨h2, h1⟩), hs, TL.numL_val]; rfl
theorem num_free {i : Int} (h0 : 0 ≤ i) {c : Nat} (hc : c < 48 ∨ 57 < c) : c ∉ TL.tl (Str.ofString (toString i)) := by
  obtain ⟨m, rfl⟩ := Int.eq_ofNat_of_zero_le h0
  rw [TL.tl_num m]
  exact TL.numL_free hc
theorem num_ok {i : Int} (h0 : 0 ≤ i) : PyData.strOk (Str.ofString (toString i)) = true := by
  obtain ⟨m, rfl⟩ := Int.eq_ofNat_of_zero_le h0
  unfold PyData.strOk
  rw [Array.all_eq_true']
  intro a ha
  have := TL.numL_digits m a (by rw [← sgn_num m]; exact Array.mem_toList_iff.mpr ha)
  exact decide_eq_true (by omega)
theorem rdW_wrd {p : Int × Int} (h : IsW p) : rdW (wrdL p) = some p := by
  have h1 := h.1; have h2 := h.2.1; have h3 := h.2.2.1; have h4 := h.2.2.2
  have e : wrdL p = Txt.join (Str.ofString ":") [Str.ofString (toString p.1), Str.ofString (toString p.2)] := by
    rw [TL.join_eq, col_eq]; rfl
  have hsp : Txt.split (wrdL p) (Str.ofString ":") = [Str.ofString (toString p.1), Str.ofString (toString p.2)] := by
    rw [e]
    refine TL.split_join (s := 58) (S := []) (by decide +kernel) (by decide +kernel) (by simp) fun q hq => ?_
    simp only [List.mem_cons, List.mem_nil_iff, or_false] at hq
    rcases hq with rfl | rfl
    · exact num_free (by omega) (by omega)
    · exact num_free h3 (by omega)
  rw [rdW_two hsp, numN_of (by omega) h2, numN_of h3 (by omega)]
  simp only
  rw [if_pos ⟨h1, h2, h4⟩]
theorem wrd_free {p : Int × Int} (h : IsW p) : 32 ∉ TL.tl (wrdL p) := by
  unfold wrdL
  rw [TL.tl_append, TL.tl_append]
  intro hm
  rcases List.mem_append.mp hm with hm | hm
  · rcases List.mem_append.mp hm with hm | hm
    · exact num_free (by have := h.1; omega) (by omega) hm
    · revert hm; decide
  · exact num_free h.2.2.1 (by omega) hm
theorem wrd_ok {p : Int × Int} (h : IsW p) : PyData.strOk (wrdL p) = true :=
  ok_app (ok_app (num_ok (by have := h.1; omega)) (by decide +kernel)) (num_ok h.2.2.1)
theorem text_split {l : List (Int × Int)} (hl : IsLot l) (h0 : l ≠ []) : Txt.split (textL l) (Str.ofString " ") = l.map wrdL := by
  unfold textL
  rw [if_neg h0]
  refine TL.split_join (s := 32) (S := []) (by decide +kernel) (by decide +kernel) (by simpa using h0) fun q hq => ?_
  obtain ⟨p, hp, rfl⟩ := List.mem_map.mp hq
  exact wrd_free (hl p hp)
theorem text_not {l : List (Int × Int)} (hl : IsLot l) (h0 : l ≠ []) : textL l ≠ Str.ofString "none" := fun e => by
  have hs := text_split hl h0
  cases l with
  | nil => exact h0 rfl
  | cons p r =>
    have hm : wrdL p ∈ Txt.split (textL (p :: r)) ⟨#[32]⟩ := by rw [← spc_eq, hs]; simp
    have h58 : 58 ∈ sgn_s (wrdL p) := by
      show 58 ∈ TL.tl (wrdL p)
      unfold wrdL
      rw [TL.tl_append, TL.tl_append]
      exact List.mem_append_left _ (List.mem_append_right _ (by decide))
    have := split_sgn (by decide) hm 58 h58
    rw [e] at this
    revert this; decide +kernel
theorem text_read {l : List (Int × Int)} (hl : IsLot l) (h0 : l ≠ []) (hn : l.length ≤ 10) : rdWs (Txt.split (textL l) (Str.ofString " ")) 0 [] = .inr l := by
  rw [text_split hl h0]
  have := rdWs_go (l.map wrdL) l 0 [] [] (by rw [List.map_map]; exact List.map_congr_left fun p hp => rdW_wrd (hl p hp)) (by rw [List.length_map]; omega)
  rw [List.append_nil] at this
  rw [this]; rfl
theorem text_ok {l : List (Int × Int)} (hl : IsLot l) (hn : l.length ≤ 10) : txtOk (textL l) 400 := by
  unfold textL
  split
  · exact ⟨by decide +kernel, by decide +kernel⟩
  · refine ⟨Nat.le_trans (join_len2 _ _) ?_, join_ok (by decide +kernel) _ fun q hq => ?_⟩
    · have key : ∀ m : List (Int × Int), IsLot m → ((m.map wrdL).map (·.length)).sum ≤ 29 * m.length := fun m => by
        induction m with
        | nil => intro _; simp
        | cons p r ih =>
          intro h
          have h1 := wrd_len (h p (by simp))
          have h2 := ih fun q hq => h q (by simp [hq])
          rw [List.map_cons, List.map_cons, List.sum_cons, List.length_cons]; omega
      have h1 := key l hl
      have h2 : (Str.ofString " ").length = 1 := by rw [spc_eq]; rfl
      rw [h2, List.length_map]; omega
    · obtain ⟨p, hp, rfl⟩ := List.mem_map.mp hq
      exact wrd_ok (hl p hp)
theorem rdWs_inl : ∀ (ws : List Str) (k : Nat) (acc : List (Int × Int)) (j : Nat), rdWs ws k acc = .inl j → k ≤ 10 → j ≤ 10
  | [], k, acc, j, h, hk => nomatch h
  | w :: r, k, acc, j, h, hk => by
    rw [rdWs_step] at h
    split at h
    · split at h
      · exact rdWs_inl r _ _ j h (by omega)
      · cases h; exact hk
    · cases h; exact hk
theorem rdWs_inr : ∀ (ws : List Str) (k : Nat) (acc l : List (Int × Int)), rdWs ws k acc = .inr l → k ≤ 10 → acc.length = k → IsLot acc → l.length ≤ 10 ∧ IsLot l
  | [], k, acc, l, h, hk, ha, hl => by cases h; exact ⟨by omega, hl⟩
  | w :: r, k, acc, l, h, hk, ha, hl => by
    rw [rdWs_step] at h
    split at h
    · rename_i p hp
      split at h
      · refine rdWs_inr r _ _ l h (by omega) (by rw [List.length_append, ha]; rfl) fun q hq => ?_
        rcases List.mem_append.mp hq with hq | hq
        · exact hl q hq
        · rw [List.mem_singleton.mp hq]; exact rdW_w hp
      · cases h
    · cases h
theorem two_ok {x : Str} {d : D} (h1 : PyData.strOk x = true) (h2 : (D.str x).ws = true) (h3 : x.cps.size ≤ 100) (h4 : d.ok 59 = true) (h5 : d.ws = true) (h6 : d.blk ≤ 1000) : (D.lst [.str x, d]).ok 60 = true ∧ (D.lst [.str x, d]).shw = true := by
  refine ⟨?_, shw_ws ?_ ?_⟩
  · rw [ok_lst]
    simp only [List.all_cons, List.all_nil, Bool.and_true, Bool.and_eq_true]
    exact ⟨h1, h4⟩
  · simp only [D.ws, wss, Bool.and_true, Bool.and_eq_true]
    exact ⟨by simpa [D.ws] using h2, h5⟩
  · rw [blk_lst, blks_cons, blks_cons, blks_nil, blk_str]; omega
theorem bad_ok {d : D} (h4 : d.ok 59 = true) (h5 : d.ws = true) (h6 : d.blk ≤ 1000) : (D.lst [.str (Str.ofString "bad"), d]).ok 60 = true ∧ (D.lst [.str (Str.ofString "bad"), d]).shw = true :=
  two_ok (by decide +kernel) (by decide +kernel) (by decide +kernel) h4 h5 h6
theorem good_ok {d : D} (h4 : d.ok 59 = true) (h5 : d.ws = true) (h6 : d.blk ≤ 1000) : (D.lst [.str (Str.ofString "ok"), d]).ok 60 = true ∧ (D.lst [.str (Str.ofString "ok"), d]).shw = true :=
  two_ok (by decide +kernel) (by decide +kernel) (by decide +kernel) h4 h5 h6
theorem rdV_ok {d : D} : (rdV d).ok 60 = true ∧ (rdV d).shw = true := by
  rcases Classical.em (∃ z, d = .str z) with ⟨z, rfl⟩ | h
  · show (rdD z).ok 60 = true ∧ (rdD z).shw = true
    by_cases c : z = Str.ofString "none"
    · rw [rdD_none c]; exact good_ok rfl rfl (by decide)
    · cases e : rdWs (Txt.split z (Str.ofString " ")) 0 [] with
      | inl k =>
        have := rdWs_inl _ _ _ _ e (by omega)
        rw [rdD_bad c e]
        exact bad_ok rfl (ws_int (natAbs_small (by omega))) (by rw [blk_int]; decide)
      | inr l =>
        obtain ⟨h1, h2⟩ := rdWs_inr _ _ _ _ e (by omega) rfl fun q hq => nomatch hq
        obtain ⟨a, b⟩ := lot_ws h2 h1
        rw [rdD_ok c e]
        exact good_ok (ok_lotT 57 l) a (by omega)
  · rw [rdV_not fun z e => h ⟨z, e⟩]
    exact bad_ok rfl rfl (by decide)
theorem c1_ok {E : DEnds} {z : Str} (hz : txtOk z 400) {s0 s2 s3 s5 s6 s7 : Option Sl}
    (hnx : ∀ s5 s6 s7 : Option Sl, E.nx [s0, some (.val .dk), s2, s3, some (.val (.str z)), s5, s6, s7]) :
    c_law_k03_1 E [s0, some (.val .dk), s2, s3, some (.val (.str z)), s5, s6, s7] := by
  unfold c_law_k03_1
  walk_at "e"
  refine ⟨z, 400, rfl, hz, by decide, fun a ha => ?_⟩
  walk_at "e"
  refine ⟨a, 5 * 400 + 100, rfl, ha, by decide, fun b hb => ?_⟩
  walk_at "e"
  refine ⟨z, 400, rfl, hz, by decide, fun c hc => ?_⟩
  walk_at "e"
  refine ⟨z, 400, rfl, hz, by decide, fun d hd => ?_⟩
  walk_at "e"
  rw [show (List.replicate (Int.toNat 10) [D.str (Str.ofString "2:0")]).flatten = (List.replicate 10 (Str.ofString "2:0")).map D.str from rfl, show (List.replicate (Int.toNat 11) [D.str (Str.ofString "2:1")]).flatten = (List.replicate 11 (Str.ofString "2:1")).map D.str from rfl]
  walk_at "e"
  refine ⟨by decide, by decide, by decide +kernel, by decide, by decide, by decide +kernel, by decide, by decide, by decide +kernel, by decide +kernel, by decide +kernel, ?_⟩
  have t1 : txtOk (Txt.join (Str.ofString " ") (List.replicate 10 (Str.ofString "2:0"))) 1000 := ⟨by decide +kernel, by decide +kernel⟩
  have t2 : txtOk (Txt.join (Str.ofString " ") (List.replicate 11 (Str.ofString "2:1"))) 1000 := ⟨by decide +kernel, by decide +kernel⟩
  have t3 : txtOk (timesS (Str.ofString "2:1 ") 10) 1000 := ⟨by decide +kernel, by decide +kernel⟩
  have cc : ∀ x : Str, x ∈ ([Str.ofString "", Str.ofString " ", Str.ofString "none ", Str.ofString "None", Str.ofString "1:0", Str.ofString "0:0"] : List Str) → txtOk x 1000 := fun x hx => by
    simp only [List.mem_cons, List.mem_nil_iff, or_false] at hx
    rcases hx with rfl | rfl | rfl | rfl | rfl | rfl <;> exact ⟨by decide +kernel, by decide +kernel⟩
  generalize Txt.join (Str.ofString " ") (List.replicate 10 (Str.ofString "2:0")) = u1 at *
  generalize Txt.join (Str.ofString " ") (List.replicate 11 (Str.ofString "2:1")) = u2 at *
  generalize timesS (Str.ofString "2:1 ") 10 = u3 at *
  refine ⟨rfl, fun od hod => ?_⟩
  walk_at "e"
  have up : ∀ {x : Str} {n : Nat}, txtOk x n → n ≤ 20000 → vB 20000 (.str x) = true := fun h hn => vB_le hn (vB_txt h)
  have hV : ∀ x ∈ ([D.str z, D.str a, D.str b, D.str c, D.str d, D.str (Str.ofString ""), D.str (Str.ofString " "), D.str (Str.ofString "none "), D.str (Str.ofString "None")] ++
      [D.str u1, D.str u2, D.str u3, D.str (Str.ofString "1:0"), D.str (Str.ofString "0:0"), od, D.non, D.lst [D.str z], D.int 20]), vB 20000 x = true := fun x hx => by
    simp only [List.cons_append, List.nil_append, List.mem_cons, List.mem_nil_iff, or_false] at hx
    rcases hx with rfl | rfl | rfl | rfl | rfl | rfl | rfl | rfl | rfl | rfl | rfl | rfl | rfl | rfl | rfl | rfl | rfl | rfl
    · exact up hz (by decide)
    · exact up ha (by decide)
    · exact up hb (by decide)
    · exact up hc (by decide)
    · exact up hd (by decide)
    · exact up (cc _ (by simp)) (by decide)
    · exact up (cc _ (by simp)) (by decide)
    · exact up (cc _ (by simp)) (by decide)
    · exact up (cc _ (by simp)) (by decide)
    · exact up t1 (by decide)
    · exact up t2 (by decide)
    · exact up t3 (by decide)
    · exact up (cc _ (by simp)) (by decide)
    · exact up (cc _ (by simp)) (by decide)
    · exact vB_le (by decide) hod
    · rfl
    · rfl
    · rfl
  generalize ([D.str z, D.str a, D.str b, D.str c, D.str d, D.str (Str.ofString ""), D.str (Str.ofString " "), D.str (Str.ofString "none "), D.str (Str.ofString "None")] ++
      [D.str u1, D.str u2, D.str u3, D.str (Str.ofString "1:0"), D.str (Str.ofString "0:0"), od, D.non, D.lst [D.str z], D.int 20]) = V at *
  have key : ∀ s : Option Sl, dForL (Pat.nm 7) (dIf (dTst (dOp opNe (Od.v (dUn opRepr (Od.v (dCall sp_law_told_lot (dAc (dVar 7) dA0))))) (Od.v (dUn opRepr (Od.v (dCall sp_law_read (dAc (dVar 7) dA0))))))) (dRet (dC (D.bl false))) dNext) E (V.map fun d => d) [s0, some (.val .dk), s2, s3, some (.val (.str z)), some (.val (.str a)), s, s7] := fun s => by
    refine for_enc (fun d : D => d) (fun _ _ δ => ∃ s7 : Option Sl, δ = [s0, some (.val .dk), s2, s3, some (.val (.str z)), some (.val (.str a)), s, s7]) ⟨_, rfl⟩ ?_ ?_
    · rintro pre v post _ hpp ⟨s7, rfl⟩ nx2 hnx2
      obtain ⟨v1, v2⟩ := vB_of (hV v (by rw [← hpp]; simp))
      obtain ⟨r1, r2⟩ := rdV_ok (d := v)
      walk_at "e"
      refine ⟨v, rfl, v1, fun z e => by have := (v2 z e).1; omega, ?_⟩
      walk_at "e"
      refine ⟨r1, r2, ?_⟩
      refine ⟨v, rfl, v1, fun z e => ⟨by have := (v2 z e).1; omega, (v2 z e).2⟩, ?_⟩
      walk_at "e"
      exact ⟨r1, r2, hnx2 _ ⟨_, rfl⟩⟩
    · rintro _ ⟨s7, rfl⟩
      exact hnx _ _ _
  have := key (some (.val (.lst V)))
  rw [List.map_id'] at this
  exact this
theorem text_lot {l : List (Int × Int)} (hl : IsLot l) (hn : l.length ≤ 10) : (D.lst [.str (textL l), LotD l]).ok 60 = true ∧ (D.lst [.str (textL l), LotD l]).shw = true := by
  obtain ⟨t1, t2⟩ := text_ok hl hn
  obtain ⟨a, b⟩ := lot_ws hl hn
  have hs : (textL l).cps.size ≤ 400 := t1
  refine ⟨?_, shw_ws ?_ ?_⟩
  · rw [ok_lst]
    simp only [List.all_cons, List.all_nil, Bool.and_true, Bool.and_eq_true]
    exact ⟨t2, ok_lotT 57 l⟩
  · simp only [D.ws, wss, Bool.and_true, Bool.and_eq_true]
    refine ⟨?_, a⟩
    rw [List.all_eq_true]
    intro c hc
    unfold PyData.strOk at t2
    rw [Array.all_eq_true'] at t2
    have := of_decide_eq_true (t2 c (Array.mem_toList_iff.mp hc))
    exact decide_eq_true (Nat.lt_of_lt_of_le this (by decide))
  · rw [blk_lst, blks_cons, blks_cons, blks_nil, blk_str]; omega
theorem law_ok : b_law_k03 endLaw (startLaw 6) := by
  show b_law_k03 endLaw [none, some (.val .dk), none, none, none, none, none, none]
  unfold b_law_k03
  walk_at "e"
  refine ⟨by decide, by decide, ?_⟩
  refine for_rng (fun _ δ => ∃ s2 s3 s4 s5 s6 s7 : Option Sl, δ = [none, some (.val .dk), s2, s3, s4, s5, s6, s7]) ⟨_, _, _, _, _, _, rfl⟩ ?_ ?_
  · rintro t _ ht ⟨s2, s3, s4, s5, s6, s7, rfl⟩ nx hnx
    walk_at "e"
    refine ⟨10, rfl, by decide, by decide, fun l hl hn => ?_⟩
    walk_at "e"
    refine ⟨l, rfl, hl, by omega, ?_⟩
    walk_at "e"
    refine ⟨l, rfl, hl, by omega, ?_⟩
    walk_at "e"
    refine ⟨l, rfl, hl, by omega, ?_⟩
    walk_at "e"
    obtain ⟨r1, r2⟩ := text_lot hl hn
    have ht := text_ok hl hn
    have fin : ∀ (bk ct : DS → Prop), c_law_k03_1 ⟨nx, endLaw.rt, bk, ct⟩ [none, some (.val .dk), some (.val (.int (0 + (t : Nat)))), some (.val (LotD l)), some (.val (.str (textL l))), s5, s6, s7] :=
      fun bk ct => c1_ok ht fun _ _ _ => hnx _ ⟨_, _, _, _, _, _, rfl⟩
    refine ⟨_, rfl, (fun h => nomatch h), fun z e => ?_, fun h => absurd rfl (h _)⟩
    cases e
    refine ⟨by have := ht.1; omega, fun e => ?_, fun e => ⟨fun k hk => ?_, fun m hm => ?_⟩⟩
    · have h0 : l = [] := by
        cases l with
        | nil => rfl
        | cons p r => exact absurd e (text_not hl (by simp))
      subst h0
      exact ⟨r1, r2, r1, r2, ifK_i (fun c => absurd c (by decide +kernel)) fun _ => fin _ _⟩
    · have h0 : l ≠ [] := fun h0 => by subst h0; exact e rfl
      rw [text_read hl h0 hn] at hk; cases hk
    · have h0 : l ≠ [] := fun h0 => by subst h0; exact e rfl
      rw [text_read hl h0 hn] at hm; cases hm
      exact ⟨r1, r2, r1, r2, ifK_i (fun c => by simp at c) fun _ => fin _ _⟩
  · rintro _ ⟨s2, s3, s4, s5, s6, s7, rfl⟩
    walk_at "e"
section
variable {P : Program} {w : World} {K : PySem.W.Frag} {mg : Str → Option Value} {base : Heap}
theorem ok_law {f : Addr} {fd : FuncData} (F : Fun K "law" "law" s_law f fd) (T : Txt P K mg) (GD : FnDeck P w K mg base) (G__law_any_lot : Fn P w K mg base 5 "_law_any_lot" ["deck", "most"] sp_law_any_lot) (G__law_text : Fn P w K mg base 1 "_law_text" ["lot"] sp_law_text) (G_lot_text : Fn P w K mg base 1 "lot_text" ["lot"] sp_lot_text) (G_parse_lot : FnX P w K mg base 4 "parse_lot" ["value"] sp_parse_lot_x) (G__law_spoilt : Fn P w K mg base 3 "_law_spoilt" ["deck", "text"] sp_law_spoilt) (G__law_odd : Fn P w K mg base 3 "_law_odd" ["deck"] sp_law_odd_s) (G__law_told_lot : Fn P w K mg base 5 "_law_told_lot" ["value"] sp_law_told_lot) (G__law_read : Fn P w K mg base 3 "_law_read" ["value"] sp_law_read)  : FnG P w K mg base CX0 7 f fd ["script"] (spLaw K) := by
  refine law_d (k := 5) (body := b_law_k03) F sc_law GD rfl rfl (fun cdv A outer s H E hr => ⟨fun te h => ps_set (i := 1) sc_law.nd rfl (by first | exact .inl rfl | exact .inr rfl) h, fun G => ?_, ?_⟩) law_ok
  · obtain ⟨f', fd', h1, h2, h3, h4⟩ := G.ex
    exact ⟨f', fd', h4, pe_callG h4 (hr.mono (by decide)) rfl h1 h2 h3 pass0 (pa_cons (pv 0) pa_nil)⟩
  · exact (psd_cons (psd_for PassesOwn.never rfl (pid_range1 pv_int rfl T.z_range) (pg_nm (i := 2) sc_law.nd) (psd_cons (psd_set (i := 3) sc_law.nd (pv_fn G__law_any_lot (hr.mono (by decide)) (pad_cons (pv_n 1) (pad_cons pv_int pad_nil))))
  (psd_cons (psd_set (i := 4) sc_law.nd (pv_fn G__law_text (hr.mono (by decide)) (pad_cons (pv_n 3) pad_nil)))
  (psd_cons (psd_if (pt_cmp (DL.op_neD hr.units) (od_v (pv_B1 (b_repr hr) (by rfl) T.z_repr (by decide +kernel) (od_v (pv_frz (pl_lst (pad_cons (pv_fn G_lot_text (hr.mono (by decide)) (pad_cons (pv_n 3) pad_nil)) (pad_cons (pv_fn (FnX.fn G_parse_lot) (hr.mono (by decide)) (pad_cons (pv_fn G_lot_text (hr.mono (by decide)) (pad_cons (pv_n 3) pad_nil)) pad_nil)) pad_nil))))))) (od_v (pv_B1 (b_repr hr) (by rfl) T.z_repr (by decide +kernel) (od_v (pv_frz (pl_lst (pad_cons (pv_n 4) (pad_cons (pv_n 3) pad_nil))))))) (nomark _)) (psd_one (psd_ret pv_bl)) psd_nil)
  (psd_cons (psd_set (i := 5) sc_law.nd (pv_fn G__law_spoilt (hr.mono (by decide)) (pad_cons (pv_n 1) (pad_cons (pv_n 4) pad_nil))))
  (psd_cons (psd_setL (i := 6) sc_law.nd (pl_lst (pad_cons (pv_n 4) (pad_cons (pv_n 5) (pad_cons (pv_fn G__law_spoilt (hr.mono (by decide)) (pad_cons (pv_n 1) (pad_cons (pv_n 5) pad_nil))) (pad_cons (pv_fn G__law_spoilt (hr.mono (by decide)) (pad_cons (pv_n 1) (pad_cons (pv_n 4) pad_nil))) (pad_cons (pv_fn G__law_spoilt (hr.mono (by decide)) (pad_cons (pv_n 1) (pad_cons (pv_n 4) pad_nil))) (pad_cons pv_str (pad_cons pv_str (pad_cons pv_str (pad_cons pv_str pad_nil)))))))))))
  (psd_cons (psd_set (i := 6) sc_law.nd (pv_bin op_addD (od_n 6) (od_v (pv_frz (pl_lst (pad_cons (pv_join pv_str (pv_bin op_mulD (od_v (pv_frz (pl_lst (pad_cons pv_str pad_nil)))) (od_v pv_int))) (pad_cons (pv_join pv_str (pv_bin op_mulD (od_v (pv_frz (pl_lst (pad_cons pv_str pad_nil)))) (od_v pv_int))) (pad_cons (pv_bin op_mulS (od_v pv_str) (od_v pv_int)) (pad_cons pv_str (pad_cons pv_str (pad_cons (pv_fn G__law_odd (hr.mono (by decide)) (pad_cons (pv_n 1) pad_nil)) (pad_cons pv_non (pad_cons (pv_frz (pl_lst (pad_cons (pv_n 4) pad_nil))) (pad_cons pv_int pad_nil))))))))))))))
  (psd_one (psd_for PassesOwn.never rfl (pid_seq (pv_n 6)) (pg_nm (i := 7) sc_law.nd) (psd_one (psd_if (pt_cmp (DL.op_neD hr.units) (od_v (pv_B1 (b_repr hr) (by rfl) T.z_repr (by decide +kernel) (od_v (pv_fn G__law_told_lot (hr.mono (by decide)) (pad_cons (pv_n 7) pad_nil))))) (od_v (pv_B1 (b_repr hr) (by rfl) T.z_repr (by decide +kernel) (od_v (pv_fn G__law_read (hr.mono (by decide)) (pad_cons (pv_n 7) pad_nil))))) (nomark _)) (psd_one (psd_ret pv_bl)) psd_nil)))))))))))
  (psd_one (psd_ret pv_bl)))
end
end LawK03
end
open PySem PySem.W PyProof.Rows
set_option maxHeartbeats 0 in
theorem PySem.Challenge.cw_daywatches_k03_texts_holds : PySem.Challenge.rw_daywatches_k03_texts.Holds := by
  w_on; o_law; k_head; (case hw => w_witness2)
  k_fill
  refine DL.walk_ofT (l := PySem.Challenge.rw_daywatches_k03_texts) (n := 63) (k := 7) (x := "script") rfl (by decide) rfl ⟨⟨rfl, by decide, by decide⟩, rfl⟩ (fun w h Y => by first | exact PySem.W.kIn_of Y | exact PySem.W.km_in_of Y) ?F
  case F =>
    intro w mg fa h KX G hmg hTab
    letI TI : DL.TabT := ⟨[]⟩
    have T : DL.OfK KX (fun K => LawK03.Txt PySem.Challenge.pw_daywatches_k03_texts K mg) := by
      show LawK03.Txt PySem.Challenge.pw_daywatches_k03_texts _ mg
      refine' ⟨PySem.W.mg_none_of KX G ?z0, PySem.W.mg_none_of KX G ?z1, PySem.W.mg_none_of KX G ?z2, PySem.W.mg_none_of KX G ?z3, PySem.W.mg_none_of KX G ?z4, PySem.W.mg_none_of KX G ?z5, PySem.W.mg_none_of KX G ?z6, PySem.W.mg_none_of KX G ?z7, PySem.W.mg_none_of KX G ?z8, PySem.W.mg_none_of KX G ?z9, PySem.W.mg_none_of KX G ?z10, PySem.W.mg_none_of KX G ?z11, DL.cst_mk KX G ?kq0, DL.cst_mk KX G ?kq1, ?e0⟩
      (case e0 => (refine' DL.errC_mk (fl := "place") (st := DL.clsInit (LawK03.topS 4)) KX G (by decide) ?aC ?aS ?xL ?bm ?sa ?ga ?gg ?nb ?a1 ?t1 ?l1 ?c1 ?l2 ?l3 ?v2 ?fi ?kC ?eC ?vC ?tC ?hC ?iC ?sC ?su ?an ?mC ?shp (by decide) (by decide) (by decide) (by decide) (by decide) (by first | rfl | decide +kernel) (fun _ _ _ _ _ _ _ _ _ _ _ _ _ => rfl); (case aC => first | k_is | rfl); (case aS => first | k_is | rfl); (case xL => first | k_is | rfl); (case sa => first | k_is | rfl); (case ga => first | k_is | rfl); (case gg => first | k_is | rfl); (case nb => first | k_is | rfl); (case a1 => first | k_is | rfl); (case t1 => first | k_is | rfl); (case l1 => first | k_is | rfl); (case c1 => first | k_is | rfl); (case l2 => first | k_is | rfl); (case l3 => first | k_is | rfl); (case kC => first | k_is | rfl); (case eC => first | k_is | rfl); (case vC => first | k_is | rfl); (case tC => first | k_is | rfl); (case hC => first | k_is | rfl); (case iC => first | k_is | rfl); (case sC => first | k_is | rfl); (case an => first | k_is | rfl); (case mC => first | k_is | rfl); (case bm => first | rfl | decide +kernel); (case v2 => first | rfl | k_is); (case fi => first | rfl | decide +kernel); (case su => first | ks_is | kernel_rfl); (case shp => exact ⟨_, _, _, _, _, _, _, _, _, _, _, _, rfl, rfl, rfl, rfl⟩)))
      (case z0 => k_is)
      (case z1 => k_is)
      (case z2 => k_is)
      (case z3 => k_is)
      (case z4 => k_is)
      (case z5 => k_is)
      (case z6 => k_is)
      (case z7 => k_is)
      (case z8 => k_is)
      (case z9 => k_is)
      (case z10 => k_is)
      (case z11 => k_is)
      (case kq0 => k_is)
      (case kq1 => k_is)
    have D_is_integer : DL.DfX KX mg "is_integer" LawK03.s_is_integer ["value", "low", "high"] := by
      refine' DL.df_mk KX G ?a ?l ?c ?k (fun _ _ _ _ _ _ us hl => match us, hl with | [_, _, _], _ => rfl)
      (case a => k_is); (case l => k_is); (case c => k_is); (case k => k_is)
    have D_watch_error : DL.DfX KX mg "watch_error" LawK03.s_watch_error ["value"] := by
      refine' DL.df_mk KX G ?a ?l ?c ?k (fun _ _ _ _ _ _ us hl => match us, hl with | [_], _ => rfl)
      (case a => k_is); (case l => k_is); (case c => k_is); (case k => k_is)
    have D_lot_text : DL.DfX KX mg "lot_text" LawK03.s_lot_text ["lot"] := by
      refine' DL.df_mk KX G ?a ?l ?c ?k (fun _ _ _ _ _ _ us hl => match us, hl with | [_], _ => rfl)
      (case a => k_is); (case l => k_is); (case c => k_is); (case k => k_is)
    have D_number_of : DL.DfX KX mg "number_of" LawK03.s_number_of ["word"] := by
      refine' DL.df_mk KX G ?a ?l ?c ?k (fun _ _ _ _ _ _ us hl => match us, hl with | [_], _ => rfl)
      (case a => k_is); (case l => k_is); (case c => k_is); (case k => k_is)
    have D_watch_of : DL.DfX KX mg "watch_of" LawK03.s_watch_of ["word"] := by
      refine' DL.df_mk KX G ?a ?l ?c ?k (fun _ _ _ _ _ _ us hl => match us, hl with | [_], _ => rfl)
      (case a => k_is); (case l => k_is); (case c => k_is); (case k => k_is)
    have D_parse_lot : DL.DfX KX mg "parse_lot" LawK03.s_parse_lot ["value"] := by
      refine' DL.df_mk KX G ?a ?l ?c ?k (fun _ _ _ _ _ _ us hl => match us, hl with | [_], _ => rfl)
      (case a => k_is); (case l => k_is); (case c => k_is); (case k => k_is)
    have D__law_deck : DL.DfX KX mg "_law_deck" LawK03.s__law_deck ["script"] := by
      refine' DL.df_mk KX G ?a ?l ?c ?k (fun _ _ _ _ _ _ us hl => match us, hl with | [_], _ => rfl)
      (case a => k_is); (case l => k_is); (case c => k_is); (case k => k_is)
    have D__law_draw : DL.DfX KX mg "_law_draw" LawK03.s__law_draw ["deck", "many"] := by
      refine' DL.df_mk KX G ?a ?l ?c ?k (fun _ _ _ _ _ _ us hl => match us, hl with | [_, _], _ => rfl)
      (case a => k_is); (case l => k_is); (case c => k_is); (case k => k_is)
    have D__law_one : DL.DfX KX mg "_law_one" LawK03.s__law_one ["deck", "items"] := by
      refine' DL.df_mk KX G ?a ?l ?c ?k (fun _ _ _ _ _ _ us hl => match us, hl with | [_, _], _ => rfl)
      (case a => k_is); (case l => k_is); (case c => k_is); (case k => k_is)
    have D__law_mixed : DL.DfX KX mg "_law_mixed" LawK03.s__law_mixed ["deck", "items"] := by
      refine' DL.df_mk KX G ?a ?l ?c ?k (fun _ _ _ _ _ _ us hl => match us, hl with | [_, _], _ => rfl)
      (case a => k_is); (case l => k_is); (case c => k_is); (case k => k_is)
    have D__law_odd : DL.DfX KX mg "_law_odd" LawK03.s__law_odd ["deck"] := by
      refine' DL.df_mk KX G ?a ?l ?c ?k (fun _ _ _ _ _ _ us hl => match us, hl with | [_], _ => rfl)
      (case a => k_is); (case l => k_is); (case c => k_is); (case k => k_is)
    have D__law_whole : DL.DfX KX mg "_law_whole" LawK03.s__law_whole ["value", "least", "most"] := by
      refine' DL.df_mk KX G ?a ?l ?c ?k (fun _ _ _ _ _ _ us hl => match us, hl with | [_, _, _], _ => rfl)
      (case a => k_is); (case l => k_is); (case c => k_is); (case k => k_is)
    have D__law_watch : DL.DfX KX mg "_law_watch" LawK03.s__law_watch ["deck", "turns"] := by
      refine' DL.df_mk KX G ?a ?l ?c ?k (fun _ _ _ _ _ _ us hl => match us, hl with | [_, _], _ => rfl)
      (case a => k_is); (case l => k_is); (case c => k_is); (case k => k_is)
    have D__law_small_lot : DL.DfX KX mg "_law_small_lot" LawK03.s__law_small_lot ["deck", "most"] := by
      refine' DL.df_mk KX G ?a ?l ?c ?k (fun _ _ _ _ _ _ us hl => match us, hl with | [_, _], _ => rfl)
      (case a => k_is); (case l => k_is); (case c => k_is); (case k => k_is)
    have D__law_grown : DL.DfX KX mg "_law_grown" LawK03.s__law_grown ["deck", "most"] := by
      refine' DL.df_mk KX G ?a ?l ?c ?k (fun _ _ _ _ _ _ us hl => match us, hl with | [_, _], _ => rfl)
      (case a => k_is); (case l => k_is); (case c => k_is); (case k => k_is)
    have D__law_held_lot : DL.DfX KX mg "_law_held_lot" LawK03.s__law_held_lot ["deck", "most"] := by
      refine' DL.df_mk KX G ?a ?l ?c ?k (fun _ _ _ _ _ _ us hl => match us, hl with | [_, _], _ => rfl)
      (case a => k_is); (case l => k_is); (case c => k_is); (case k => k_is)
    have D__law_great_lot : DL.DfX KX mg "_law_great_lot" LawK03.s__law_great_lot ["deck", "most"] := by
      refine' DL.df_mk KX G ?a ?l ?c ?k (fun _ _ _ _ _ _ us hl => match us, hl with | [_, _], _ => rfl)
      (case a => k_is); (case l => k_is); (case c => k_is); (case k => k_is)
    have D__law_dense_lot : DL.DfX KX mg "_law_dense_lot" LawK03.s__law_dense_lot ["deck", "most"] := by
      refine' DL.df_mk KX G ?a ?l ?c ?k (fun _ _ _ _ _ _ us hl => match us, hl with | [_, _], _ => rfl)
      (case a => k_is); (case l => k_is); (case c => k_is); (case k => k_is)
    have D__law_any_lot : DL.DfX KX mg "_law_any_lot" LawK03.s__law_any_lot ["deck", "most"] := by
      refine' DL.df_mk KX G ?a ?l ?c ?k (fun _ _ _ _ _ _ us hl => match us, hl with | [_, _], _ => rfl)
      (case a => k_is); (case l => k_is); (case c => k_is); (case k => k_is)
    have D__law_watch_error : DL.DfX KX mg "_law_watch_error" LawK03.s__law_watch_error ["value"] := by
      refine' DL.df_mk KX G ?a ?l ?c ?k (fun _ _ _ _ _ _ us hl => match us, hl with | [_], _ => rfl)
      (case a => k_is); (case l => k_is); (case c => k_is); (case k => k_is)
    have D__law_text : DL.DfX KX mg "_law_text" LawK03.s__law_text ["lot"] := by
      refine' DL.df_mk KX G ?a ?l ?c ?k (fun _ _ _ _ _ _ us hl => match us, hl with | [_], _ => rfl)
      (case a => k_is); (case l => k_is); (case c => k_is); (case k => k_is)
    have D__law_number : DL.DfX KX mg "_law_number" LawK03.s__law_number ["word"] := by
      refine' DL.df_mk KX G ?a ?l ?c ?k (fun _ _ _ _ _ _ us hl => match us, hl with | [_], _ => rfl)
      (case a => k_is); (case l => k_is); (case c => k_is); (case k => k_is)
    have D__law_read : DL.DfX KX mg "_law_read" LawK03.s__law_read ["value"] := by
      refine' DL.df_mk KX G ?a ?l ?c ?k (fun _ _ _ _ _ _ us hl => match us, hl with | [_], _ => rfl)
      (case a => k_is); (case l => k_is); (case c => k_is); (case k => k_is)
    have D__law_told_lot : DL.DfX KX mg "_law_told_lot" LawK03.s__law_told_lot ["value"] := by
      refine' DL.df_mk KX G ?a ?l ?c ?k (fun _ _ _ _ _ _ us hl => match us, hl with | [_], _ => rfl)
      (case a => k_is); (case l => k_is); (case c => k_is); (case k => k_is)
    have D__law_spoilt : DL.DfX KX mg "_law_spoilt" LawK03.s__law_spoilt ["deck", "text"] := by
      refine' DL.df_mk KX G ?a ?l ?c ?k (fun _ _ _ _ _ _ us hl => match us, hl with | [_, _], _ => rfl)
      (case a => k_is); (case l => k_is); (case c => k_is); (case k => k_is)
    refine' DL.law_mkT (st := LawK03.s_law) KX G [] (fun _ h => nomatch h) (fun _ h => nomatch h) (fun _ h => nomatch h) (fun p h => nomatch (show p ∈ ([] : List (Addr × Str)) from h)) hmg ?a ?l ?c ?k (fun s v => .of_eq rfl) (fun base fd _ F _ => ?_)
    (case a => k_is); (case l => k_is); (case c => k_is); (case k => k_is)
    have G_is_integer := LawK03.ok_is_integer (P := PySem.Challenge.pw_daywatches_k03_texts) (w := w) (base := base) T D_is_integer
    have G_watch_error := LawK03.ok_watch_error (P := PySem.Challenge.pw_daywatches_k03_texts) (w := w) (base := base) T D_watch_error G_is_integer
    have G_lot_text := LawK03.ok_lot_text (P := PySem.Challenge.pw_daywatches_k03_texts) (w := w) (base := base) T D_lot_text
    have G_number_of := LawK03.ok_number_of (P := PySem.Challenge.pw_daywatches_k03_texts) (w := w) (base := base) T D_number_of
    have G_watch_of := LawK03.ok_watch_of (P := PySem.Challenge.pw_daywatches_k03_texts) (w := w) (base := base) T D_watch_of G_number_of G_watch_error
    have G_parse_lot := LawK03.ok_parse_lot (P := PySem.Challenge.pw_daywatches_k03_texts) (w := w) (base := base) T D_parse_lot G_watch_of
    have G__law_deck := LawK03.ok__law_deck (P := PySem.Challenge.pw_daywatches_k03_texts) (w := w) (base := base) T D__law_deck
    have G__law_draw := LawK03.ok__law_draw (P := PySem.Challenge.pw_daywatches_k03_texts) (w := w) (base := base) T D__law_draw
    have G__law_one := LawK03.ok__law_one (P := PySem.Challenge.pw_daywatches_k03_texts) (w := w) (base := base) T D__law_one G__law_draw
    have G__law_mixed := LawK03.ok__law_mixed (P := PySem.Challenge.pw_daywatches_k03_texts) (w := w) (base := base) T D__law_mixed G__law_draw
    have G__law_odd := LawK03.ok__law_odd (P := PySem.Challenge.pw_daywatches_k03_texts) (w := w) (base := base) T D__law_odd G__law_one
    have G__law_whole := LawK03.ok__law_whole (P := PySem.Challenge.pw_daywatches_k03_texts) (w := w) (base := base) T D__law_whole
    have G__law_watch := LawK03.ok__law_watch (P := PySem.Challenge.pw_daywatches_k03_texts) (w := w) (base := base) T D__law_watch G__law_one G__law_draw
    have G__law_small_lot := LawK03.ok__law_small_lot (P := PySem.Challenge.pw_daywatches_k03_texts) (w := w) (base := base) T D__law_small_lot G__law_one G__law_draw G__law_watch
    have G__law_grown := LawK03.ok__law_grown (P := PySem.Challenge.pw_daywatches_k03_texts) (w := w) (base := base) T D__law_grown G__law_draw G__law_one G__law_mixed
    have G__law_held_lot := LawK03.ok__law_held_lot (P := PySem.Challenge.pw_daywatches_k03_texts) (w := w) (base := base) T D__law_held_lot G__law_one G__law_grown G__law_draw G__law_watch G__law_mixed
    have G__law_great_lot := LawK03.ok__law_great_lot (P := PySem.Challenge.pw_daywatches_k03_texts) (w := w) (base := base) T D__law_great_lot G__law_one G__law_draw
    have G__law_dense_lot := LawK03.ok__law_dense_lot (P := PySem.Challenge.pw_daywatches_k03_texts) (w := w) (base := base) T D__law_dense_lot G__law_draw G__law_mixed
    have G__law_any_lot := LawK03.ok__law_any_lot (P := PySem.Challenge.pw_daywatches_k03_texts) (w := w) (base := base) T D__law_any_lot G__law_draw G__law_small_lot G__law_grown G__law_dense_lot G__law_held_lot G__law_great_lot
    have G__law_watch_error := LawK03.ok__law_watch_error (P := PySem.Challenge.pw_daywatches_k03_texts) (w := w) (base := base) T D__law_watch_error G__law_whole
    have G__law_text := LawK03.ok__law_text (P := PySem.Challenge.pw_daywatches_k03_texts) (w := w) (base := base) T D__law_text
    have G__law_number := LawK03.ok__law_number (P := PySem.Challenge.pw_daywatches_k03_texts) (w := w) (base := base) T D__law_number
    have G__law_read := LawK03.ok__law_read (P := PySem.Challenge.pw_daywatches_k03_texts) (w := w) (base := base) T D__law_read G__law_number G__law_watch_error
    have G__law_told_lot := LawK03.ok__law_told_lot (P := PySem.Challenge.pw_daywatches_k03_texts) (w := w) (base := base) T D__law_told_lot G_parse_lot
    have G__law_spoilt := LawK03.ok__law_spoilt (P := PySem.Challenge.pw_daywatches_k03_texts) (w := w) (base := base) T D__law_spoilt G__law_draw G__law_one
    exact LawK03.ok_law F T G__law_deck G__law_any_lot G__law_text G_lot_text G_parse_lot G__law_spoilt G__law_odd G__law_told_lot G__law_read
