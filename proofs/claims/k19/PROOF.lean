import PyProof.Rows.All
import Wide.All
import OpenK.AllK
import Wide.FinOn
import HandS.ForMost
import HandS.Exc
import HandS.Lambda
import HandS.ExcCtx
import HandS.Hot
import HandS.HotCalls
import HandS.ExcIs
import HandS.EndTab
import KE.KNestM
import KE.GoesEnum
import KE.GoesComp
import HandS.ExcOwn
import HandS.TryOnly
import HandS.TryMany
import HandS.CallSlots
import HandS.WordsExc
import HandS.Walk
import HandS.Zip
import HandS.IsInst
import HandS.Wide
import HandS.TupAny
import HandS.TupLe
import HandS.Style
import HandS.Conv
import HandS.ListItems
import HandS.Sort
import HandS.SortRule
import HandS.SortInts
import KE.SortData
import HandS.SetFor
import HandS.Strs
import HandS.DictComp
import KE.KDictPairs
import KE.KDictSum
import HandS.WideMore
import PyProof.SumWalkG
import PyProof.Rows.SeqMore
import HandS.RevTup
import PyProof.Rows.IntBool
import KE.KItemsList
import PySem.Challenge.RW_likejoin_k19_whole_two_plains_by_turns
set_option Elab.async false
set_option linter.all false
set_option maxRecDepth 100000
set_option maxHeartbeats 2000000
/-! A machine of plain values over the hand layer: what a program's texts do, told as Lean functions. -/
namespace Wm
open PySem PySem.Spec PyProof.Rows L2

/-- a value: tuples stand for themselves (tuw: one that is taken apart at once); a list, a dict, an instance is a place of the store; cl: a list that nobody writes -/
inductive W where
  | non | bl (b : Bool) | int (i : Int) | str (s : Str) | tup (l : List W) | ref (n : Nat) | cl (l : List W) | fn (a : Addr) | tuw (l : List W)
/-- what stands at a place -/
inductive Ob where
  | lst (l : List W)
  | dic (kvs : List (W × W))
  | ins (C : Addr) (fs : List (Str × W))
  | xd (fs : List (Str × W))
  /-- a code object's table -/
  | tab (P : Addr) (q : Str)
abbrev Sto := List Ob
abbrev Fr := List (Option W)
/-- what is raised: the class at C; its own dict's place -/
structure Exn where
  C : Addr
  d : Option Nat
/-- how a piece ends -/
inductive Out (α : Type) where
  | ok (a : α) (S : Sto)
  | ex (x : Exn) (S : Sto)
  | bad
inductive SO where
  | nx (φ : Fr) (S : Sto)
  | rt (w : W) (S : Sto)
  | bk (φ : Fr) (S : Sto)
  | ct (φ : Fr) (S : Sto)
  | ex (x : Exn) (φ : Fr) (S : Sto)
  | bad

/-- a list that stays: locked, or of the written part -/
def Fz (K : PySem.W.Frag) (H : Hp) (a : Addr) (xs : List V) : Prop :=
  (∃ o, H a = some (.frz o (.lst xs))) ∨
    ∃ (o : Obj) (its : Array Value) (n : Nat), K.lookup a = some o ∧ o.cls = .type "list" ∧ o.dict = none ∧ o.data = .seq its n ∧ its.size ≤ sizeLine ∧ Vals xs its.toList
theorem Fz.sq {K : PySem.W.Frag} {H : Hp} {a : Addr} {xs : List V} (h : Fz K H a xs) : SqL K H a xs := by
  rcases h with h | h
  · exact .inl (.inr h)
  · exact .inr h
mutual
inductive RW (K : PySem.W.Frag) (ρ : List Addr) (H : Hp) : V → W → Prop
  | non : RW K ρ H .non .non
  | bl (b : Bool) : RW K ρ H (.bl b) (.bl b)
  | int (i : Int) : RW K ρ H (.int i) (.int i)
  | str (s : Str) : RW K ρ H (.str s) (.str s)
  | tup {a : Addr} {o : Obj} {xs : List V} {ws : List W} : H a = some (.frz o (.tup xs)) → o.dict = none → RWs K ρ H xs ws → RW K ρ H (.ref a) (.tup ws)
  | tuw {a : Addr} {xs : List V} {ws : List W} : H a = some (.tup xs) → RWs K ρ H xs ws → RW K ρ H (.ref a) (.tuw ws)
  | ref {a : Addr} {n : Nat} : ρ[n]? = some a → RW K ρ H (.ref a) (.ref n)
  | cl {a : Addr} {xs : List V} {ws : List W} : Fz K H a xs → RWs K ρ H xs ws → RW K ρ H (.ref a) (.cl ws)
  | fn (a : Addr) : RW K ρ H (.ref a) (.fn a)
inductive RWs (K : PySem.W.Frag) (ρ : List Addr) (H : Hp) : List V → List W → Prop
  | nil : RWs K ρ H [] []
  | cons {v : V} {w : W} {vs : List V} {ws : List W} : RW K ρ H v w → RWs K ρ H vs ws → RWs K ρ H (v :: vs) (w :: ws)
end
/-- what only grows -/
structure Ext (ρ : List Addr) (H : Hp) (ρ' : List Addr) (H' : Hp) : Prop where
  pre : ∀ (n : Nat) (a : Addr), ρ[n]? = some a → ρ'[n]? = some a
  tup : ∀ a xs, H a = some (.tup xs) → H' a = some (.tup xs)
  frz : ∀ a o u, H a = some (.frz o u) → H' a = some (.frz o u)
  cod : ∀ a φ, H a = some (.ext φ) → H' a = some (.ext φ)
theorem Ext.refl (ρ : List Addr) (H : Hp) : Ext ρ H ρ H := ⟨fun _ _ h => h, fun _ _ h => h, fun _ _ _ h => h, fun _ _ h => h⟩
theorem Ext.trans {ρ ρ1 ρ2 : List Addr} {H H1 H2 : Hp} (a : Ext ρ H ρ1 H1) (b : Ext ρ1 H1 ρ2 H2) : Ext ρ H ρ2 H2 :=
  ⟨fun n c h => b.pre n c (a.pre n c h), fun c xs h => b.tup c xs (a.tup c xs h), fun c o xs h => b.frz c o xs (a.frz c o xs h), fun c φ h => b.cod c φ (a.cod c φ h)⟩
section
variable {K : PySem.W.Frag} {ρ ρ' : List Addr} {H H' : Hp}
theorem Fz.mono (e : Ext ρ H ρ' H') {a : Addr} {xs : List V} (h : Fz K H a xs) : Fz K H' a xs := by
  rcases h with ⟨o, h⟩ | h
  · exact .inl ⟨o, e.frz a o _ h⟩
  · exact .inr h
mutual
theorem RW.mono (e : Ext ρ H ρ' H') : ∀ {v : V} {w : W}, RW K ρ H v w → RW K ρ' H' v w
  | _, _, .non => .non
  | _, _, .bl b => .bl b
  | _, _, .int i => .int i
  | _, _, .str s => .str s
  | _, _, .tup h d r => .tup (e.frz _ _ _ h) d (RWs.mono e r)
  | _, _, .tuw h r => .tuw (e.tup _ _ h) (RWs.mono e r)
  | _, _, .ref h => .ref (e.pre _ _ h)
  | _, _, .cl h r => .cl (h.mono e) (RWs.mono e r)
  | _, _, .fn a => .fn a
theorem RWs.mono (e : Ext ρ H ρ' H') : ∀ {vs : List V} {ws : List W}, RWs K ρ H vs ws → RWs K ρ' H' vs ws
  | _, _, .nil => .nil
  | _, _, .cons h r => .cons (RW.mono e h) (RWs.mono e r)
end
theorem RWs.length : ∀ {vs : List V} {ws : List W}, RWs K ρ H vs ws → vs.length = ws.length
  | _, _, .nil => rfl
  | _, _, .cons _ r => by rw [List.length_cons, List.length_cons, RWs.length r]
theorem RWs.get : ∀ {vs : List V} {ws : List W} {i : Nat} {v : V}, RWs K ρ H vs ws → vs[i]? = some v → ∃ w, ws[i]? = some w ∧ RW K ρ H v w
  | _, _, _, _, .nil, e => by simp at e
  | _, _, 0, _, .cons r _, e => by simp at e; subst e; exact ⟨_, rfl, r⟩
  | _, _, i + 1, v, .cons _ t, e => by
    obtain ⟨w, h1, h2⟩ := RWs.get (i := i) (v := v) t (by simpa using e)
    exact ⟨w, by simpa using h1, h2⟩
theorem RWs.get' : ∀ {vs : List V} {ws : List W} {i : Nat} {w : W}, RWs K ρ H vs ws → ws[i]? = some w → ∃ v, vs[i]? = some v ∧ RW K ρ H v w
  | _, _, _, _, .nil, e => by simp at e
  | _, _, 0, _, .cons r _, e => by simp at e; subst e; exact ⟨_, rfl, r⟩
  | _, _, i + 1, v, .cons _ t, e => by
    obtain ⟨w, h1, h2⟩ := RWs.get' (i := i) (w := v) t (by simpa using e)
    exact ⟨w, by simpa using h1, h2⟩
theorem RWs.append : ∀ {vs us : List V} {ws xs : List W}, RWs K ρ H vs ws → RWs K ρ H us xs → RWs K ρ H (vs ++ us) (ws ++ xs)
  | _, _, _, _, .nil, s => s
  | _, _, _, _, .cons r t, s => .cons r (RWs.append t s)
theorem RWs.one {v : V} {w : W} (r : RW K ρ H v w) : RWs K ρ H [v] [w] := .cons r .nil
theorem RWs.take : ∀ {vs : List V} {ws : List W} (n : Nat), RWs K ρ H vs ws → RWs K ρ H (vs.take n) (ws.take n)
  | _, _, 0, _ => .nil
  | _, _, _ + 1, .nil => .nil
  | _, _, n + 1, .cons r t => .cons r (RWs.take n t)
theorem RWs.drop : ∀ {vs : List V} {ws : List W} (n : Nat), RWs K ρ H vs ws → RWs K ρ H (vs.drop n) (ws.drop n)
  | _, _, 0, r => r
  | _, _, _ + 1, .nil => .nil
  | _, _, n + 1, .cons _ t => RWs.drop n t
theorem RWs.reverse : ∀ {vs : List V} {ws : List W}, RWs K ρ H vs ws → RWs K ρ H vs.reverse ws.reverse
  | _, _, .nil => .nil
  | _, _, .cons r t => by rw [List.reverse_cons, List.reverse_cons]; exact (RWs.reverse t).append (.one r)
theorem RWs.set {v : V} {w : W} (r : RW K ρ H v w) : ∀ {vs : List V} {ws : List W} (i : Nat), RWs K ρ H vs ws → RWs K ρ H (vs.set i v) (ws.set i w)
  | _, _, _, .nil => .nil
  | _, _, 0, .cons _ t => .cons r t
  | _, _, i + 1, .cons q t => .cons q (RWs.set r i t)
theorem RWs.eraseIdx : ∀ {vs : List V} {ws : List W} (i : Nat), RWs K ρ H vs ws → RWs K ρ H (vs.eraseIdx i) (ws.eraseIdx i)
  | _, _, _, .nil => .nil
  | _, _, 0, .cons _ t => t
  | _, _, i + 1, .cons r t => .cons r (RWs.eraseIdx i t)
theorem RWs.dropLast {vs : List V} {ws : List W} (r : RWs K ρ H vs ws) : RWs K ρ H vs.dropLast ws.dropLast := by
  rw [List.dropLast_eq_take, List.dropLast_eq_take, r.length]
  exact r.take _
theorem RWs.rep {v : V} {w : W} (r : RW K ρ H v w) : ∀ n : Nat, RWs K ρ H (List.replicate n v) (List.replicate n w)
  | 0 => .nil
  | n + 1 => .cons r (RWs.rep r n)
theorem RWs.flat {vs : List V} {ws : List W} (r : RWs K ρ H vs ws) : ∀ n : Nat, RWs K ρ H (List.replicate n vs).flatten (List.replicate n ws).flatten
  | 0 => .nil
  | n + 1 => by
    rw [List.replicate_succ, List.replicate_succ, List.flatten_cons, List.flatten_cons]
    exact r.append (RWs.flat r n)

/-- what stands at an address -/
def KWs (K : PySem.W.Frag) (ρ : List Addr) (H : Hp) : List (Key × V) → List (W × W) → Prop := Paired fun p q => RW K ρ H (kV p.1) q.1 ∧ RW K ρ H p.2 q.2
def FWs (K : PySem.W.Frag) (ρ : List Addr) (H : Hp) : List (Str × V) → List (Str × W) → Prop := Paired fun p q => p.1 = q.1 ∧ RW K ρ H p.2 q.2
def OW (K : PySem.W.Frag) (ρ : List Addr) (H : Hp) (a : Addr) : Ob → Prop
  | .lst ws => ∃ vs, H a = some (.lst vs) ∧ RWs K ρ H vs ws
  | .dic kvs => ∃ ks, H a = some (.dK ks) ∧ KWs K ρ H ks kvs
  | .ins C fs => ∃ dx gs, H a = some (.ins C dx gs) ∧ FWs K ρ H gs fs
  | .xd fs => ∃ gs, H a = some (.xd gs) ∧ FWs K ρ H gs fs
  | .tab P q => a = P ∧ LamX.TabS H a q
theorem KWs.mono (e : Ext ρ H ρ' H') {ks : List (Key × V)} {kvs : List (W × W)} (h : KWs K ρ H ks kvs) : KWs K ρ' H' ks kvs := Paired.mapP h fun _ _ x => ⟨x.1.mono e, x.2.mono e⟩
theorem FWs.mono (e : Ext ρ H ρ' H') {ks : List (Str × V)} {kvs : List (Str × W)} (h : FWs K ρ H ks kvs) : FWs K ρ' H' ks kvs := Paired.mapP h fun _ _ x => ⟨x.1, x.2.mono e⟩
theorem OW.some {a : Addr} {o : Ob} (h : OW K ρ H a o) : ∃ u, H a = some u ∧ (∀ xs, u ≠ .tup xs) ∧ (∀ o u', u ≠ .frz o u') ∧ ∀ φ, u ≠ .ext φ := by
  cases o with
  | lst ws => obtain ⟨vs, e, _⟩ := h; exact ⟨_, e, (fun _ z => nomatch z), (fun _ _ z => nomatch z), fun _ z => nomatch z⟩
  | dic ws => obtain ⟨vs, e, _⟩ := h; exact ⟨_, e, (fun _ z => nomatch z), (fun _ _ z => nomatch z), fun _ z => nomatch z⟩
  | ins C ws => obtain ⟨_, vs, e, _⟩ := h; exact ⟨_, e, (fun _ z => nomatch z), (fun _ _ z => nomatch z), fun _ z => nomatch z⟩
  | xd ws => obtain ⟨vs, e, _⟩ := h; exact ⟨_, e, (fun _ z => nomatch z), (fun _ _ z => nomatch z), fun _ z => nomatch z⟩
  | tab P q => obtain ⟨_, vs, e, _⟩ := h; exact ⟨_, e, (fun _ z => nomatch z), (fun _ _ z => nomatch z), fun _ z => nomatch z⟩
theorem OW.mono (e : Ext ρ H ρ' H') {a : Addr} {o : Ob} (h : OW K ρ H a o) (k : H' a = H a) : OW K ρ' H' a o := by
  cases o with
  | lst ws => obtain ⟨vs, q, r⟩ := h; exact ⟨vs, k.trans q, r.mono e⟩
  | dic ws => obtain ⟨vs, q, r⟩ := h; exact ⟨vs, k.trans q, r.mono e⟩
  | ins C ws => obtain ⟨dx, vs, q, r⟩ := h; exact ⟨dx, vs, k.trans q, r.mono e⟩
  | xd ws => obtain ⟨vs, q, r⟩ := h; exact ⟨vs, k.trans q, r.mono e⟩
  | tab P q =>
    obtain ⟨ep, ps, q1, q2, q3⟩ := h
    refine ⟨ep, ps, k.trans q1, q2, fun pos cv hc => ?_⟩
    obtain ⟨c, e1, e2⟩ := q3 pos cv hc
    exact ⟨c, e1, e.cod _ _ e2⟩
/-- the store as it stands: ρ tells each place's address -/
structure SW (K : PySem.W.Frag) (ρ : List Addr) (H : Hp) (S : Sto) : Prop where
  len : ρ.length = S.length
  nd : ρ.Nodup
  ob : ∀ (n : Nat) (a : Addr) (o : Ob), ρ[n]? = some a → S[n]? = some o → OW K ρ H a o
theorem SW.at {S : Sto} (s : SW K ρ H S) {n : Nat} {o : Ob} (h : S[n]? = some o) : ∃ a, ρ[n]? = some a ∧ OW K ρ H a o := by
  obtain ⟨hl, _⟩ := List.getElem?_eq_some_iff.mp h
  have hl' : n < ρ.length := by rw [s.len]; exact hl
  exact ⟨ρ[n], List.getElem?_eq_getElem hl', s.ob n _ o (List.getElem?_eq_getElem hl') h⟩
theorem SW.there {S : Sto} (s : SW K ρ H S) {a : Addr} (h : a ∈ ρ) : ∃ u, H a = some u := by
  obtain ⟨n, hn, e⟩ := List.mem_iff_getElem.mp h
  have hs : n < S.length := by rw [← s.len]; exact hn
  obtain ⟨u, q, _⟩ := (s.ob n a S[n] (by rw [List.getElem?_eq_getElem hn, e]) (List.getElem?_eq_getElem hs)).some
  exact ⟨u, q⟩
/-- an address that nothing stands at -/
theorem Ext.new {p : Addr} {o : HO} (hp : H p = none) : Ext ρ H ρ (upd H p o) :=
  ⟨fun _ _ h => h, fun a xs h => by rw [upd_ne (ne_of_none h hp)]; exact h, fun a o xs h => by rw [upd_ne (ne_of_none h hp)]; exact h, fun a φ h => by rw [upd_ne (ne_of_none h hp)]; exact h⟩
theorem SW.tup {S : Sto} (s : SW K ρ H S) {p : Addr} {o : HO} (hp : H p = none) : SW K ρ (upd H p o) S :=
  ⟨s.len, s.nd, fun n a ob h1 h2 => by
    have q := s.ob n a ob h1 h2
    obtain ⟨u, e, _⟩ := q.some
    exact q.mono (Ext.new hp) (upd_ne (ne_of_none e hp))⟩
theorem get_snoc {α : Type} {l : List α} {x y : α} {n : Nat} (h : l[n]? = some y) : (l ++ [x])[n]? = some y := by
  obtain ⟨hl, _⟩ := List.getElem?_eq_some_iff.mp h
  rw [List.getElem?_append_left hl]; exact h
theorem Ext.push {p : Addr} {o : HO} (hp : H p = none) : Ext ρ H (ρ ++ [p]) (upd H p o) :=
  ⟨fun _ _ h => get_snoc h, fun a xs h => by rw [upd_ne (ne_of_none h hp)]; exact h, fun a o xs h => by rw [upd_ne (ne_of_none h hp)]; exact h, fun a φ h => by rw [upd_ne (ne_of_none h hp)]; exact h⟩
theorem SW.push {S : Sto} (s : SW K ρ H S) {p : Addr} {u : HO} {o : Ob} (hp : H p = none) (h : OW K (ρ ++ [p]) (upd H p u) p o) : SW K (ρ ++ [p]) (upd H p u) (S ++ [o]) := by
  have np : p ∉ ρ := fun z => by
    obtain ⟨v, e⟩ := s.there z
    rw [hp] at e; cases e
  refine ⟨by simp [s.len], ?_, fun n a ob h1 h2 => ?_⟩
  · rw [List.nodup_append]
    refine ⟨s.nd, by simp, fun x hx y hy e => ?_⟩
    have ey : y = p := by simpa using hy
    subst ey e
    exact np hx
  · by_cases hn : n < S.length
    · rw [List.getElem?_append_left hn] at h2
      rw [List.getElem?_append_left (by rw [s.len]; exact hn)] at h1
      have q := s.ob n a ob h1 h2
      obtain ⟨v, e, _⟩ := q.some
      exact q.mono (Ext.push hp) (upd_ne (ne_of_none e hp))
    · have hl : n < (S ++ [o]).length := (List.getElem?_eq_some_iff.mp h2).1
      have e : n = S.length := by simp at hl; omega
      subst e
      have e1 : (ρ ++ [p])[S.length]? = some p := by rw [← s.len]; simp
      have e2 : (S ++ [o])[S.length]? = some o := by simp
      rw [e1] at h1; rw [e2] at h2
      cases h1; cases h2
      exact h
theorem push_at {S : Sto} (s : SW K ρ H S) (p : Addr) : (ρ ++ [p])[S.length]? = some p := by rw [← s.len]; simp
/-- an object of the store is written -/
theorem Ext.upd {S : Sto} (s : SW K ρ H S) {n : Nat} {a : Addr} {u : HO} {o : Ob} (ha : ρ[n]? = some a) (ho : S[n]? = some o) : Ext ρ H ρ (L2.upd H a u) := by
  obtain ⟨v, e, n1, n2, n3⟩ := (s.ob n a o ha ho).some
  refine ⟨fun _ _ h => h, fun b xs h => ?_, fun b w xs h => ?_, fun b w h => ?_⟩
  · rw [upd_ne (ne_of h e fun z => n1 xs z.symm)]; exact h
  · rw [upd_ne (ne_of h e fun z => n2 w xs z.symm)]; exact h
  · rw [upd_ne (ne_of h e fun z => n3 w z.symm)]; exact h
theorem SW.set {S : Sto} (s : SW K ρ H S) {n : Nat} {a : Addr} {u : HO} {o o' : Ob} (ha : ρ[n]? = some a) (ho : S[n]? = some o) (h : OW K ρ (L2.upd H a u) a o') : SW K ρ (L2.upd H a u) (S.set n o') := by
  refine ⟨by rw [List.length_set]; exact s.len, s.nd, fun m b ob h1 h2 => ?_⟩
  by_cases hm : m = n
  · subst hm
    have hl : m < S.length := (List.getElem?_eq_some_iff.mp ho).1
    rw [List.getElem?_set_self hl] at h2
    rw [ha] at h1
    cases h1; cases h2
    exact h
  · rw [List.getElem?_set_ne (Ne.symm hm)] at h2
    have hb : b ≠ a := fun z => hm (by subst z; exact nodup_ix' s.nd h1 ha)
    exact (s.ob m b ob h1 h2).mono (Ext.upd s ha ho) (upd_ne hb)
where nodup_ix' {ρ : List Addr} (hN : ρ.Nodup) {i j : Nat} {x : Addr} (a : ρ[i]? = some x) (b : ρ[j]? = some x) : i = j := by
        obtain ⟨h1, e1⟩ := List.getElem?_eq_some_iff.mp a
        obtain ⟨h2, e2⟩ := List.getElem?_eq_some_iff.mp b
        exact (List.getElem_inj hN).mp (e1.trans e2.symm)

/-- the frame -/
structure FW (K : PySem.W.Frag) (ρ : List Addr) (H : Hp) (σ : L2.St) (φ : Fr) : Prop where
  len : σ.length = φ.length
  get : ∀ (i : Nat) (w : W), φ[i]? = some (some w) → ∃ v, σ[i]? = some (some v) ∧ RW K ρ H v w
theorem FW.mono (e : Ext ρ H ρ' H') {σ : L2.St} {φ : Fr} (h : FW K ρ H σ φ) : FW K ρ' H' σ φ := ⟨h.len, fun i w q => by
  obtain ⟨v, a, b⟩ := h.get i w q
  exact ⟨v, a, b.mono e⟩⟩
theorem FW.set {σ : L2.St} {φ : Fr} (h : FW K ρ H σ φ) (i : Nat) {v : V} {w : W} (r : RW K ρ H v w) : FW K ρ H (σ.set i (some v)) (φ.set i (some w)) := by
  refine ⟨by rw [List.length_set, List.length_set]; exact h.len, fun j x q => ?_⟩
  by_cases hj : i = j
  · subst hj
    have hl : i < φ.length := by
      have := (List.getElem?_eq_some_iff.mp q).1
      simpa using this
    rw [List.getElem?_set_self hl] at q
    cases q
    exact ⟨v, List.getElem?_set_self (by rw [h.len]; exact hl), r⟩
  · rw [List.getElem?_set_ne hj] at q ⊢
    exact h.get j x q
theorem FW.wipe {σ : L2.St} {φ : Fr} (h : FW K ρ H σ φ) (i : Nat) : FW K ρ H (σ.set i none) (φ.set i none) := by
  refine ⟨by rw [List.length_set, List.length_set]; exact h.len, fun j x q => ?_⟩
  by_cases hj : i = j
  · subst hj
    have hl : i < φ.length := by
      have := (List.getElem?_eq_some_iff.mp q).1
      simpa using this
    rw [List.getElem?_set_self hl] at q
    cases q
  · rw [List.getElem?_set_ne hj] at q ⊢
    exact h.get j x q
end
end Wm

set_option Elab.async false
set_option linter.all false
set_option maxRecDepth 100000
set_option maxHeartbeats 2000000
namespace Wm
open PySem PySem.Spec PyProof.Rows L2

def Out.bind {α β : Type} (o : Out α) (k : α → Sto → Out β) : Out β := match o with
  | .ok a S => k a S
  | .ex x S => .ex x S
  | .bad => .bad
theorem Out.bind_ok {α β : Type} (a : α) (S : Sto) (k : α → Sto → Out β) : (Out.ok a S).bind k = k a S := rfl
theorem Out.bind_ex {α β : Type} (x : Exn) (S : Sto) (k : α → Sto → Out β) : (Out.ex x S : Out α).bind k = .ex x S := rfl
theorem Out.bind_bad {α β : Type} (k : α → Sto → Out β) : (Out.bad : Out α).bind k = .bad := rfl
/-- a step that raises nothing -/
def ofO {α : Type} : Option (α × Sto) → Out α
  | some (a, S) => .ok a S
  | none => .bad
theorem ofO_some {α : Type} (a : α) (S : Sto) : ofO (some (a, S)) = .ok a S := rfl
theorem ofO_none {α : Type} : ofO (none : Option (α × Sto)) = .bad := rfl

/-- an error as it is known -/
def XR (ρ : List Addr) (x : Exn) (cls : Value) (d : Option Addr) : Prop := cls = .ref x.C ∧ match x.d with
  | none => d = none
  | some n => ∃ a, ρ[n]? = some a ∧ d = some a
/-- the end of a piece is as wanted -/
def OutR {α ν : Type} (K : PySem.W.Frag) (rel : List Addr → Hp → ν → α → Prop) (ρ : List Addr) (H : Hp) (Q : ν → Hp → Prop) (E : Value → Option Addr → Hp → Prop) : Out α → Prop
  | .ok a S' => ∀ v ρ' H', Ext ρ H ρ' H' → rel ρ' H' v a → SW K ρ' H' S' → Q v H'
  | .ex x S' => ∀ cls d ρ' H', Ext ρ H ρ' H' → XR ρ' x cls d → SW K ρ' H' S' → E cls d H'
  | .bad => False
section
variable {α β ν μ : Type} {K : PySem.W.Frag} {rel : List Addr → Hp → ν → α → Prop} {rel' : List Addr → Hp → μ → β → Prop} {ρ ρ1 : List Addr} {H H1 : Hp} {Q : ν → Hp → Prop} {R : μ → Hp → Prop} {E : Value → Option Addr → Hp → Prop} {o : Out α}
theorem OutR.step (h : OutR K rel ρ H Q E o) (e : Ext ρ H ρ1 H1) : OutR K rel ρ1 H1 Q E o := by
  cases o with
  | ok a S => exact fun v ρ' H' e' r s => h v ρ' H' (e.trans e') r s
  | ex x S => exact fun cls d ρ' H' e' r s => h cls d ρ' H' (e.trans e') r s
  | bad => exact h
end
abbrev FE (α : Type) := Fr → Sto → Out α
/-- the reading that a function of frames and stores tells -/
def tI {α ν : Type} (K : PySem.W.Frag) (rel : List Addr → Hp → ν → α → Prop) (Wx : WX) (f : FE α) : L2.St → Hp → (ν → Hp → Prop) → Prop := fun σ H Q =>
  ∃ ρ φ S, FW K ρ H σ φ ∧ SW K ρ H S ∧ OutR K rel ρ H Q (fun cls d H' => Wx cls d σ H') (f φ S)
abbrev rB : List Addr → Hp → Bool → Bool → Prop := fun _ _ b c => b = c
abbrev SE (X : Cx) (Wx : WX) (e : Expr) (f : FE W) : Prop := PE X e (tI X.K (RW X.K) Wx f)
abbrev ST (X : Cx) (Wx : WX) (e : Expr) (f : FE Bool) : Prop := PT X e (tI X.K rB Wx f)
abbrev STw (X : Cx) (Wx : WX) (e : Expr) (f : FE Bool) : Prop := PW X e (tI X.K rB Wx f)
abbrev SA (X : Cx) (Wx : WX) (es : List Expr) (f : FE (List W)) : Prop := PA X es (tI X.K (RWs X.K) Wx f)

section
variable {X : Cx} {Wx : WX} {e a b c : Expr} {es rest : List Expr} {pos : Pos}
theorem weakE {t t' : TE} (h : PE X e t) (w : ∀ σ H Q, t' σ H Q → t σ H Q) : PE X e t' := ⟨fun pins s σ H Q I q => h.run pins s σ H Q I (w σ H Q q)⟩
theorem weakT {t t' : TT} (h : PT X e t) (w : ∀ σ H Q, t' σ H Q → t σ H Q) : PT X e t' := ⟨fun pins s σ H Q I q => h.run pins s σ H Q I (w σ H Q q)⟩
theorem weakW {t t' : TT} (h : PW X e t) (w : ∀ σ H Q, t' σ H Q → t σ H Q) : PW X e t' := ⟨fun wh pins s σ H Q I q => h.run wh pins s σ H Q I (w σ H Q q)⟩
theorem weakA {t t' : TA} (h : PA X es t) (w : ∀ σ H Q, t' σ H Q → t σ H Q) : PA X es t' := ⟨fun pos pins s σ H Q I q => h.run pos pins s σ H Q I (w σ H Q q)⟩
/-- into the first part of two -/
theorem into {α β ν μ : Type} {K : PySem.W.Frag} {rel : List Addr → Hp → ν → α → Prop} {rel' : List Addr → Hp → μ → β → Prop} {ρ : List Addr} {H : Hp} {σ : L2.St} {φ : Fr} {S : Sto} {f : FE α} {k : α → Sto → Out β} {R : ν → Hp → Prop} {Q : μ → Hp → Prop}
    (F : FW K ρ H σ φ) (s : SW K ρ H S) (h : OutR K rel' ρ H Q (fun cls d H' => Wx cls d σ H') ((f φ S).bind k))
    (go : ∀ w S1 v ρ1 H1, Ext ρ H ρ1 H1 → rel ρ1 H1 v w → SW K ρ1 H1 S1 → FW K ρ1 H1 σ φ → OutR K rel' ρ1 H1 Q (fun cls d H' => Wx cls d σ H') (k w S1) → R v H1) : tI K rel Wx f σ H R := by
  refine ⟨ρ, φ, S, F, s, ?_⟩
  cases q : f φ S with
  | ok w S1 =>
    rw [q] at h
    exact fun v ρ1 H1 e r s1 => go w S1 v ρ1 H1 e r s1 (F.mono e) (OutR.step h e)
  | ex x S1 => rw [q] at h; exact h
  | bad => rw [q] at h; exact h

/-! ### constants, names -/
def mC (w : W) : FE W := fun _ S => .ok w S
def mVar (i : Nat) : FE W := fun φ S => match φ[i]? with
  | some (some w) => .ok w S
  | _ => .bad
theorem se_c {v : V} {w : W} (h : PE X e (tC v)) (r : ∀ ρ H, RW X.K ρ H v w) : SE X Wx e (mC w) := weakE h fun σ H Q ⟨ρ, φ, S, F, s, q⟩ => q v ρ H (Ext.refl ρ H) (r ρ H) s
theorem se_int {i j} : SE X Wx (.Constant (.int i) j pos) (mC (.int i)) := se_c pe_int fun _ _ => .int i
theorem se_bl {b j} : SE X Wx (.Constant (.bool b) j pos) (mC (.bl b)) := se_c pe_bl fun _ _ => .bl b
theorem se_non {j} : SE X Wx (.Constant .none j pos) (mC .non) := se_c pe_non fun _ _ => .non
theorem se_str {x j} : SE X Wx (.Constant (.str x) j pos) (mC (.str x)) := se_c pe_str fun _ _ => .str x
theorem se_var {x : Str} (i : Nat) (hN : X.N[i]? = some x := by rfl) (hv : Vis X.env.scope x := by first | exact Or.inl rfl | exact Or.inr (Or.inl rfl) | exact Or.inr (Or.inr rfl)) (hd : (x == ("__debug__" : Str)) = false := by decide)
    (hcd : (x == ("__classdict__" : Str)) = false := by decide) : SE X Wx (.Name x pos) (mVar i) := weakE (pe_var hN hv hd hcd) fun σ H Q ⟨ρ, φ, S, F, s, q⟩ => by
  unfold mVar at q
  cases g : φ[i]? with
  | none => rw [g] at q; exact q.elim
  | some o =>
    cases o with
    | none => rw [g] at q; exact q.elim
    | some w =>
      rw [g] at q
      obtain ⟨v, h1, h2⟩ := F.get i w g
      exact ⟨v, h1, q v ρ H (Ext.refl ρ H) h2 s⟩
theorem se_gint {x : Str} {i : Int} {t : Tok} (hm : X.mg x = some (.int i t)) (hg : Gl X x := by rfl) (hd : (x == ("__debug__" : Str)) = false := by decide) : SE X Wx (.Name x pos) (mC (.int i)) :=
  se_c (v := .int i) (pe_glob hg hm (show RelV (.int i) (.int i t) from ⟨t, rfl⟩) hd) fun _ _ => .int i
/-- a def as a value -/
theorem se_gfn {x : Str} {f : Addr} (hm : X.mg x = some (.ref f)) (hg : Gl X x := by rfl) (hd : (x == ("__debug__" : Str)) = false := by decide) : SE X Wx (.Name x pos) (mC (.fn f)) :=
  se_c (v := .ref f) (pe_glob hg hm rfl hd) fun _ _ => .fn f

/-! ### operators -/
abbrev BOp := W → W → Sto → Option (W × Sto)
def PosR (K : PySem.W.Frag) (ρ : List Addr) (H : Hp) (Q : VK) : Option (W × Sto) → Prop
  | some (w, S') => ∀ v ρ' H', Ext ρ H ρ' H' → RW K ρ' H' v w → SW K ρ' H' S' → Q v H'
  | none => False
theorem PosR.of {K : PySem.W.Frag} {ρ : List Addr} {H : Hp} {Q : VK} {E : Value → Option Addr → Hp → Prop} {o : Option (W × Sto)} (h : OutR K (RW K) ρ H Q E (ofO o)) : PosR K ρ H Q o := by
  cases o with
  | none => exact h
  | some p => exact h
def rOf (K : PySem.W.Frag) (op : BOp) : R2 := fun x y H Q => ∃ ρ S w1 w2, SW K ρ H S ∧ RW K ρ H x w1 ∧ RW K ρ H y w2 ∧ PosR K ρ H Q (op w1 w2 S)
abbrev OpW (X : Cx) (f : Value → Value → Sem Value) (op : BOp) : Prop := OpR X f (rOf X.K op)
theorem weakOp {f : Value → Value → Sem Value} {r r' : R2} (h : OpR X f r) (w : ∀ x y H Q, r' x y H Q → r x y H Q) : OpR X f r' := fun pins s σ H x y v u Q I rx ry q => h pins s σ H x y v u Q I rx ry (w x y H Q q)
/-- the rule r serves op -/
theorem opw {f : Value → Value → Sem Value} {r : R2} {op : BOp} (h : OpR X f r) (w : ∀ ρ H S x y w1 w2 Q, SW X.K ρ H S → RW X.K ρ H x w1 → RW X.K ρ H y w2 → PosR X.K ρ H Q (op w1 w2 S) → r x y H Q) : OpW X f op :=
  weakOp h fun x y H Q ⟨ρ, S, w1, w2, s, r1, r2, q⟩ => w ρ H S x y w1 w2 Q s r1 r2 q
/-- one, or another where the first has nothing -/
def orOp (o1 o2 : BOp) : BOp := fun x y S => match o1 x y S with
  | some p => some p
  | none => o2 x y S
theorem opw_or {f : Value → Value → Sem Value} {o1 o2 : BOp} (h1 : OpW X f o1) (h2 : OpW X f o2) : OpW X f (orOp o1 o2) := weakOp (h1.or h2) fun x y H Q ⟨ρ, S, w1, w2, s, r1, r2, q⟩ => by
  unfold orOp at q
  cases g : o1 w1 w2 S with
  | some p => rw [g] at q; exact .inl ⟨ρ, S, w1, w2, s, r1, r2, by rw [g]; exact q⟩
  | none => rw [g] at q; exact .inr ⟨ρ, S, w1, w2, s, r1, r2, q⟩
def mBin (o : BOp) (fa fb : FE W) : FE W := fun φ S => (fa φ S).bind fun w1 S1 => (fb φ S1).bind fun w2 S2 => ofO (o w1 w2 S2)
theorem bin_of {o : BOp} {fa fb : FE W} : ∀ σ H Q, tI X.K (RW X.K) Wx (mBin o fa fb) σ H Q → tOp (rOf X.K o) (tI X.K (RW X.K) Wx fa) (tI X.K (RW X.K) Wx fb) σ H Q := fun σ H Q ⟨ρ, φ, S, F, s, q⟩ =>
  into F s q fun w1 S1 v1 ρ1 H1 e1 r1 s1 F1 q1 => into F1 s1 q1 fun w2 S2 v2 ρ2 H2 e2 r2 s2 F2 q2 => ⟨ρ2, S2, w1, w2, s2, r1.mono e2, r2, PosR.of q2⟩
theorem se_bin {op : Operator} {o : BOp} {fa fb : FE W} (ho : OpW X (binaryOp op) o) (ha : SE X Wx a fa) (hb : SE X Wx b fb) : SE X Wx (.BinOp a op b pos) (mBin o fa fb) := weakE (pe_op ho ha hb) bin_of
theorem se_cmp {op : CmpOp} {o : BOp} {fa fb : FE W} (ho : OpW X (compareOp op) o) (ha : SE X Wx a fa) (hb : SE X Wx b fb) (hm : behindInMarks op b = false) : SE X Wx (.Compare a [op] [b] pos) (mBin o fa fb) := weakE (pe_cmpR ho ha hb hm) bin_of
/-- a truth -/
def bOf : W → Sto → Out Bool
  | .bl b, S => .ok b S
  | _, _ => .bad
def mTest (f : FE W) : FE Bool := fun φ S => (f φ S).bind bOf
theorem test_of {f : FE W} {t : TE} (h : ∀ σ H Q, tI X.K (RW X.K) Wx f σ H Q → t σ H Q) : ∀ σ H Q, tI X.K rB Wx (mTest f) σ H Q → (t σ H fun x H' => ∃ k, x = .bl k ∧ Q k H') := fun σ H Q ⟨ρ, φ, S, F, s, q⟩ =>
  h σ H _ (into F s q fun w S1 v ρ1 H1 e1 r1 s1 F1 q1 => by
    cases r1 with
    | bl b => exact ⟨b, rfl, q1 b ρ1 H1 (Ext.refl _ _) rfl s1⟩
    | _ => exact q1.elim)
theorem st_cmp {op : CmpOp} {o : BOp} {fa fb : FE W} (ho : OpW X (compareOp op) o) (ha : SE X Wx a fa) (hb : SE X Wx b fb) (hm : behindInMarks op b = false) : ST X Wx (.Compare a [op] [b] pos) (mTest (mBin o fa fb)) :=
  weakT (pt_cmpR ho ha hb hm) (test_of bin_of)
def mChain (o o' : BOp) (fa fb fc : FE W) : FE W := fun φ S => (fa φ S).bind fun w1 S1 => (fb φ S1).bind fun w2 S2 => (ofO (o w1 w2 S2)).bind fun z S3 => (bOf z S3).bind fun k S4 => if k = true then (fc φ S4).bind fun w3 S5 => ofO (o' w2 w3 S5) else .ok (.bl false) S4
theorem chain_of {o o' : BOp} {fa fb fc : FE W} : ∀ σ H Q, tI X.K (RW X.K) Wx (mChain o o' fa fb fc) σ H Q → tChain (rOf X.K o) (rOf X.K o') (tI X.K (RW X.K) Wx fa) (tI X.K (RW X.K) Wx fb) (tI X.K (RW X.K) Wx fc) σ H Q := fun σ H Q ⟨ρ, φ, S, F, s, q⟩ =>
  into F s q fun w1 S1 v1 ρ1 H1 e1 r1 s1 F1 q1 => into F1 s1 q1 fun w2 S2 v2 ρ2 H2 e2 r2 s2 F2 q2 => by
    refine ⟨ρ2, S2, w1, w2, s2, r1.mono e2, r2, ?_⟩
    cases g : o w1 w2 S2 with
    | none => rw [g] at q2; exact q2
    | some p =>
      obtain ⟨z, S3⟩ := p
      rw [g] at q2
      intro v3 ρ3 H3 e3 r3 s3
      have q3 := OutR.step q2 e3
      rw [ofO_some, Out.bind_ok] at q3
      cases r3 with
      | bl k =>
        refine ⟨k, rfl, ?_⟩
        rw [show bOf (.bl k) S3 = .ok k S3 from rfl, Out.bind_ok] at q3
        cases k with
        | true =>
          rw [if_pos rfl] at q3 ⊢
          exact into (F2.mono e3) s3 q3 fun w3 S5 v5 ρ5 H5 e5 r5 s5 F5 q5 => ⟨ρ5, S5, w2, w3, s5, r2.mono (e3.trans e5), r5, PosR.of q5⟩
        | false =>
          rw [if_neg (by decide)] at q3 ⊢
          exact q3 _ ρ3 H3 (Ext.refl _ _) (.bl false) s3
      | _ => exact q3.elim
theorem se_chain {op op' : CmpOp} {o o' : BOp} {fa fb fc : FE W} (ho : OpW X (compareOp op) o) (ho' : OpW X (compareOp op') o') (ha : SE X Wx a fa) (hb : SE X Wx b fb) (hc : SE X Wx c fc) (hm : lastMarks [op, op'] [b, c] = false := by rfl) :
    SE X Wx (.Compare a [op, op'] [b, c] pos) (mChain o o' fa fb fc) := weakE (pe_chain ho ho' ha hb hc (hm := hm)) chain_of
theorem st_chain {op op' : CmpOp} {o o' : BOp} {fa fb fc : FE W} (ho : OpW X (compareOp op) o) (ho' : OpW X (compareOp op') o') (ha : SE X Wx a fa) (hb : SE X Wx b fb) (hc : SE X Wx c fc) (hm : lastMarks [op, op'] [b, c] = false := by rfl) :
    ST X Wx (.Compare a [op, op'] [b, c] pos) (mTest (mChain o o' fa fb fc)) := weakT (pt_chain ho ho' ha hb hc (hm := hm)) (test_of chain_of)

/-! ### and, or, not, if -/
def mAndT (f g : FE Bool) : FE Bool := fun φ S => (f φ S).bind fun k S1 => if k = true then g φ S1 else .ok false S1
def mOrT (f g : FE Bool) : FE Bool := fun φ S => (f φ S).bind fun k S1 => if k = true then .ok true S1 else g φ S1
def mNotT (f : FE Bool) : FE Bool := fun φ S => (f φ S).bind fun k S1 => .ok (!k) S1
variable {f g : FE Bool} {fa fb : FE W}
theorem st_w (h : STw X Wx e f) : ST X Wx e f := PW.pt h
theorem st_and1 (h : ST X Wx a f) : STw X Wx (.BoolOp .And [a] pos) f := pw_and1 h
theorem st_or1 (h : ST X Wx a f) : STw X Wx (.BoolOp .Or [a] pos) f := pw_or1 h
theorem st_and (h : ST X Wx a f) (h2 : STw X Wx (.BoolOp .And (b :: rest) pos) g) : STw X Wx (.BoolOp .And (a :: b :: rest) pos) (mAndT f g) := weakW (pw_and h h2) fun σ H Q ⟨ρ, φ, S, F, s, q⟩ =>
  into F s q fun k S1 v ρ1 H1 e1 r1 s1 F1 q1 => by
    obtain rfl : v = k := r1
    cases v with
    | true => rw [if_pos rfl] at q1 ⊢; exact ⟨ρ1, φ, S1, F1, s1, q1⟩
    | false => rw [if_neg (by decide)] at q1 ⊢; exact q1 _ ρ1 H1 (Ext.refl _ _) rfl s1
theorem st_or (h : ST X Wx a f) (h2 : STw X Wx (.BoolOp .Or (b :: rest) pos) g) : STw X Wx (.BoolOp .Or (a :: b :: rest) pos) (mOrT f g) := weakW (pw_or h h2) fun σ H Q ⟨ρ, φ, S, F, s, q⟩ =>
  into F s q fun k S1 v ρ1 H1 e1 r1 s1 F1 q1 => by
    obtain rfl : v = k := r1
    cases v with
    | false => rw [if_neg (by decide)] at q1 ⊢; exact ⟨ρ1, φ, S1, F1, s1, q1⟩
    | true => rw [if_pos rfl] at q1 ⊢; exact q1 _ ρ1 H1 (Ext.refl _ _) rfl s1
theorem st_not (h : ST X Wx a f) : ST X Wx (.UnaryOp .Not a pos) (mNotT f) := weakT (pt_not h) fun σ H Q ⟨ρ, φ, S, F, s, q⟩ =>
  into F s q fun k S1 v ρ1 H1 e1 r1 s1 F1 q1 => by
    obtain rfl : v = k := r1
    exact q1 _ ρ1 H1 (Ext.refl _ _) rfl s1
/-- an expression that is True or False, as a test -/
theorem st_val (h : SE X Wx e fa) (he : ∀ whole, isTrue e X.env whole = (do let v ← whole; standAt e.pos; holding [v] (truthy v)) := by intro _; rfl) : ST X Wx e (mTest fa) :=
  weakT (pt_val h he) (test_of fun _ _ _ q => q)
/-- .. as values: True, False -/
def mAnd (fa fb : FE W) : FE W := fun φ S => (mTest fa φ S).bind fun k S1 => if k = true then fb φ S1 else .ok (.bl false) S1
def mOr (fa fb : FE W) : FE W := fun φ S => (mTest fa φ S).bind fun k S1 => if k = true then .ok (.bl true) S1 else fb φ S1
def mNot (fa : FE W) : FE W := fun φ S => (mTest fa φ S).bind fun k S1 => .ok (.bl !k) S1
theorem bind_assoc {α β γ : Type} (o : Out α) (k : α → Sto → Out β) (l : β → Sto → Out γ) : (o.bind k).bind l = o.bind fun a S => (k a S).bind l := by cases o <;> rfl
theorem se_one {op} (h : SE X Wx a fa) : SE X Wx (.BoolOp op [a] pos) fa := pe_one h
theorem se_and (ha : SE X Wx a fa) (hb : SE X Wx (.BoolOp .And (b :: rest) pos) fb) : SE X Wx (.BoolOp .And (a :: b :: rest) pos) (mAnd fa fb) := weakE (pe_and ha hb) fun σ H Q ⟨ρ, φ, S, F, s, q⟩ => by
  unfold mAnd mTest at q
  rw [bind_assoc] at q
  refine into F s q fun k S1 v ρ1 H1 e1 r1 s1 F1 q1 => ?_
  cases r1 with
  | bl k =>
    refine ⟨k, rfl, ?_⟩
    rw [show bOf (.bl k) S1 = .ok k S1 from rfl, Out.bind_ok] at q1
    cases k with
    | true => rw [if_pos rfl] at q1 ⊢; exact ⟨ρ1, φ, S1, F1, s1, q1⟩
    | false => rw [if_neg (by decide)] at q1 ⊢; exact q1 _ ρ1 H1 (Ext.refl _ _) (.bl false) s1
  | _ => exact q1.elim
theorem se_or (ha : SE X Wx a fa) (hb : SE X Wx (.BoolOp .Or (b :: rest) pos) fb) : SE X Wx (.BoolOp .Or (a :: b :: rest) pos) (mOr fa fb) := weakE (pe_or ha hb) fun σ H Q ⟨ρ, φ, S, F, s, q⟩ => by
  unfold mOr mTest at q
  rw [bind_assoc] at q
  refine into F s q fun k S1 v ρ1 H1 e1 r1 s1 F1 q1 => ?_
  cases r1 with
  | bl k =>
    refine ⟨k, rfl, ?_⟩
    rw [show bOf (.bl k) S1 = .ok k S1 from rfl, Out.bind_ok] at q1
    cases k with
    | false => rw [if_neg (by decide)] at q1 ⊢; exact ⟨ρ1, φ, S1, F1, s1, q1⟩
    | true => rw [if_pos rfl] at q1 ⊢; exact q1 _ ρ1 H1 (Ext.refl _ _) (.bl true) s1
  | _ => exact q1.elim
theorem se_not (ha : SE X Wx a fa) : SE X Wx (.UnaryOp .Not a pos) (mNot fa) := weakE (pe_not ha) fun σ H Q ⟨ρ, φ, S, F, s, q⟩ => by
  unfold mNot mTest at q
  rw [bind_assoc] at q
  refine into F s q fun k S1 v ρ1 H1 e1 r1 s1 F1 q1 => ?_
  cases r1 with
  | bl k => exact ⟨k, rfl, q1 _ ρ1 H1 (Ext.refl _ _) (.bl (!k)) s1⟩
  | _ => exact q1.elim
def mIf (f : FE Bool) (fa fb : FE W) : FE W := fun φ S => (f φ S).bind fun k S1 => if k = true then fa φ S1 else fb φ S1
theorem se_if (hc : ST X Wx c f) (ha : SE X Wx a fa) (hb : SE X Wx b fb) : SE X Wx (.IfExp c a b pos) (mIf f fa fb) := weakE (pe_ifExp hc ha hb) fun σ H Q ⟨ρ, φ, S, F, s, q⟩ =>
  into F s q fun k S1 v ρ1 H1 e1 r1 s1 F1 q1 => by
    obtain rfl : v = k := r1
    cases v with
    | true => rw [if_pos rfl] at q1 ⊢; exact ⟨ρ1, φ, S1, F1, s1, q1⟩
    | false => rw [if_neg (by decide)] at q1 ⊢; exact ⟨ρ1, φ, S1, F1, s1, q1⟩

/-! ### argument lists, displays -/
def mNil : FE (List W) := fun _ S => .ok [] S
def mCons (fa : FE W) (fr : FE (List W)) : FE (List W) := fun φ S => (fa φ S).bind fun w S1 => (fr φ S1).bind fun ws S2 => .ok (w :: ws) S2
variable {fr : FE (List W)}
theorem sa_nil : SA X Wx [] mNil := weakA pa_nil fun σ H Q ⟨ρ, φ, S, F, s, q⟩ => q [] ρ H (Ext.refl _ _) .nil s
theorem sa_cons (ha : SE X Wx e fa) (hr : SA X Wx es fr) (hs : starEach (e :: es) X.env = (false, eval e X.env) :: starEach es X.env := by rfl) : SA X Wx (e :: es) (mCons fa fr) := weakA (pa_cons ha hr hs) fun σ H Q ⟨ρ, φ, S, F, s, q⟩ =>
  into F s q fun w S1 v ρ1 H1 e1 r1 s1 F1 q1 => into F1 s1 q1 fun ws S2 vs ρ2 H2 e2 r2 s2 F2 q2 => q2 _ ρ2 H2 (Ext.refl _ _) (.cons (r1.mono e2) r2) s2
def bigL : Nat := 1000000
theorem bigL_line {n : Nat} (h : n ≤ bigL) : n ≤ sizeLine := Nat.le_trans h (by decide)
theorem bigL_lt {n : Nat} (h : n < bigL) : n < sizeLine := Nat.lt_of_lt_of_le h (by decide)
def tupO (ws : List W) (S : Sto) : Option (W × Sto) := if ws.length ≤ bigL then some (.tup ws, S) else none
def lstO (ws : List W) (S : Sto) : Option (W × Sto) := if ws.length ≤ bigL then some (.ref S.length, S ++ [.lst ws]) else none
/-- a new tuple, a new list -/
theorem tup_new {K : PySem.W.Frag} {ρ : List Addr} {H : Hp} {S : Sto} {vs : List V} {ws : List W} {Q : VK} (s : SW K ρ H S) (r : RWs K ρ H vs ws) (q : PosR K ρ H Q (tupO ws S)) : vs.length ≤ sizeLine ∧ ∀ p o, H p = none → o.dict = none → Q (.ref p) (upd H p (.frz o (.tup vs))) := by
  unfold tupO at q
  split at q
  · rename_i hl
    refine ⟨bigL_line (by rw [r.length]; exact hl), fun p o hp hd => ?_⟩
    exact q _ ρ _ (Ext.new hp) (.tup upd_same hd (r.mono (Ext.new hp))) (s.tup hp)
  · exact q.elim
theorem lst_new {K : PySem.W.Frag} {ρ : List Addr} {H : Hp} {S : Sto} {vs : List V} {ws : List W} {Q : VK} (s : SW K ρ H S) (r : RWs K ρ H vs ws) (q : PosR K ρ H Q (lstO ws S)) : vs.length ≤ sizeLine ∧ ∀ p, H p = none → Q (.ref p) (upd H p (.lst vs)) := by
  unfold lstO at q
  split at q
  · rename_i hl
    refine ⟨bigL_line (by rw [r.length]; exact hl), fun p hp => ?_⟩
    exact q _ (ρ ++ [p]) _ (Ext.push hp) (.ref (push_at s p)) (s.push hp ⟨vs, upd_same, r.mono (Ext.push hp)⟩)
  · exact q.elim
/-- a tuple as it was made -/
def tTupF (t : TA) : TE := fun σ H Q => t σ H fun xs H1 => xs.length ≤ sizeLine ∧ ∀ p o, H1 p = none → o.dict = none → Q (.ref p) (upd H1 p (.frz o (.tup xs)))
theorem pe_tupF {t : TA} {x1} (h : PA X es t) : PE X (.Tuple es x1 pos) (tTupF t) := by
  refine ⟨fun pins s σ H Q I hq => ?_⟩
  refine wpAny_Tuple_spliced (thn (h.run pos pins s σ H _ I hq) fun us s1 ⟨xs, H1, I1, r, z, q⟩ => ⟨by rw [← r.length]; exact z, ?_⟩)
  have fr : H1 s1.heap.objs.size = none := I1.hok.fresh (Nat.le_refl _)
  exact ⟨.ref s1.heap.objs.size, upd H1 s1.heap.objs.size (.frz { cls := .type "tuple", data := .seq us.toArray } (.tup xs)),
    I1.laid (t' := s1.toks) (fun b u e => Heap.get?_push_of_some _ e) (Nat.le_refl _) ⟨Heap.get?_push_size _ rfl, z, us, r, IsTup.new _ _⟩, rfl, q _ _ fr rfl⟩
def mTup (fr : FE (List W)) : FE W := fun φ S => (fr φ S).bind fun ws S1 => ofO (tupO ws S1)
def mLst (fr : FE (List W)) : FE W := fun φ S => (fr φ S).bind fun ws S1 => ofO (lstO ws S1)
theorem se_tup {x1} (h : SA X Wx es fr) : SE X Wx (.Tuple es x1 pos) (mTup fr) := weakE (pe_tupF h) fun σ H Q ⟨ρ, φ, S, F, s, q⟩ =>
  into F s q fun ws S1 vs ρ1 H1 e1 r1 s1 F1 q1 => tup_new s1 r1 (PosR.of q1)
theorem se_lst (h : SA X Wx es fr) : SE X Wx (.List es pos) (mLst fr) := weakE (pe_lst h) fun σ H Q ⟨ρ, φ, S, F, s, q⟩ =>
  into F s q fun ws S1 vs ρ1 H1 e1 r1 s1 F1 q1 => lst_new s1 r1 (PosR.of q1)
end
end Wm

set_option Elab.async false
set_option linter.all false
set_option maxRecDepth 100000
set_option maxHeartbeats 2000000
set_option exponentiation.threshold 5000
namespace Wm
open PySem PySem.Spec PyProof.Rows L2

/-! ### numbers -/
def bigN : Nat := 2 ^ 4000
def opI (C : Int → Int → Bool) (g : Int → Int → W) : BOp
  | .int i, .int j, S => if C i j = true then some (g i j, S) else none
  | _, _, _ => none
section
variable {X : Cx}
theorem ow_int {f : Value → Value → Sem Value} {C : Int → Int → Bool} {g : Int → Int → W} {C' : Int → Int → Prop} {g' : Int → Int → V} (h : OpR X f (rI C' g')) (hc : ∀ i j, C i j = true → C' i j) (hg : ∀ ρ H i j, RW X.K ρ H (g' i j) (g i j)) : OpW X f (opI C g) :=
  opw h fun ρ H S x y w1 w2 Q s r1 r2 q => by
    unfold opI at q
    split at q
    · split at q
      · rename_i hC
        cases r1; cases r2
        exact ⟨_, _, rfl, rfl, hc _ _ hC, q _ ρ H (Ext.refl _ _) (hg ρ H _ _) s⟩
      · exact q.elim
    · exact q.elim
theorem ow_int0 {f : Value → Value → Sem Value} {g : Int → Int → W} {g' : Int → Int → V} (h : OpR X f (rI0 g')) (hg : ∀ ρ H i j, RW X.K ρ H (g' i j) (g i j)) : OpW X f (opI (fun _ _ => true) g) :=
  opw h fun ρ H S x y w1 w2 Q s r1 r2 q => by
    unfold opI at q
    split at q
    · rw [if_pos rfl] at q
      cases r1; cases r2
      exact ⟨_, _, rfl, rfl, q _ ρ H (Ext.refl _ _) (hg ρ H _ _) s⟩
    · exact q.elim
def smallN (i : Int) : Bool := decide (i.natAbs < bigN)
def cMul (i j : Int) : Bool := smallN i && smallN j
def cDiv (_ j : Int) : Bool := decide (0 < j) && smallN j
def cMod (_ j : Int) : Bool := decide (0 < j)
def cPow (i j : Int) : Bool := decide (0 ≤ j) && decide (j ≤ 1000) && decide (i.natAbs < 2 ^ 64)
theorem smallN_of {i : Int} (h : smallN i = true) : i.natAbs < 2 ^ 4000 := of_decide_eq_true h
def oAddI : BOp := opI (fun _ _ => true) fun i j => .int (i + j)
def oSubI : BOp := opI (fun _ _ => true) fun i j => .int (i - j)
def oMulI : BOp := opI cMul fun i j => .int (i * j)
def oDivI : BOp := opI cDiv fun i j => .int (i / j)
def oModI : BOp := opI cMod fun i j => .int (i % j)
def oPowI : BOp := opI cPow fun i j => .int (i ^ j.toNat)
def oShlI : BOp := opI cPow fun i j => .int (i * 2 ^ j.toNat)
def oShrI : BOp := opI (fun _ j => decide (0 ≤ j)) fun i j => .int (i / 2 ^ j.toNat)
def oAndI : BOp := opI (fun _ _ => true) fun i j => .int (Builtin.bitAnd i j)
theorem ow_addI : OpW X (binaryOp .Add) oAddI := ow_int0 op_add fun _ _ _ _ => .int _
theorem ow_subI : OpW X (binaryOp .Sub) oSubI := ow_int0 op_sub fun _ _ _ _ => .int _
theorem ow_mulI : OpW X (binaryOp .Mult) oMulI := ow_int op_mulW (fun i j h => by
  unfold cMul at h
  rw [Bool.and_eq_true] at h
  exact wide_mul (smallN_of h.1) (smallN_of h.2) (by decide) (by decide) (by decide)) fun _ _ _ _ => .int _
theorem ow_divI : OpW X (binaryOp .FloorDiv) oDivI := ow_int op_fdivW (fun i j h => by
  unfold cDiv at h
  rw [Bool.and_eq_true] at h
  exact wide_div (of_decide_eq_true h.1) (smallN_of h.2) (by decide) (by decide)) fun _ _ _ _ => .int _
theorem ow_modI : OpW X (binaryOp .Mod) oModI := ow_int op_mod (fun i j h => of_decide_eq_true h) fun _ _ _ _ => .int _
theorem cPow_of {i j : Int} (h : cPow i j = true) : CPow i j := by
  unfold cPow at h
  rw [Bool.and_eq_true, Bool.and_eq_true] at h
  have h1 := of_decide_eq_true h.1.1
  have h2 := of_decide_eq_true h.1.2
  exact ⟨h1, by omega, of_decide_eq_true h.2⟩
theorem ow_powI : OpW X (binaryOp .Pow) oPowI := ow_int op_pow (fun i j h => cPow_of h) fun _ _ _ _ => .int _
theorem ow_shlI : OpW X (binaryOp .LShift) oShlI := ow_int op_shl (fun i j h => cPow_of h) fun _ _ _ _ => .int _
theorem ow_shrI : OpW X (binaryOp .RShift) oShrI := ow_int op_shr (fun i j h => of_decide_eq_true h) fun _ _ _ _ => .int _
theorem ow_andI : OpW X (binaryOp .BitAnd) oAndI := ow_int0 op_and fun _ _ _ _ => .int _

/-! ### lists, tuples, texts -/
def asL (S : Sto) : W → Option (List W)
  | .ref n => match S[n]? with
    | some (.lst l) => some l
    | _ => none
  | .cl l => some l
  | _ => none
/-- whether it is a tuple, and its items -/
def asQ (S : Sto) : W → Option (Bool × List W)
  | .tup l => some (true, l)
  | w => (asL S w).map fun l => (false, l)
variable {K : PySem.W.Frag} {ρ : List Addr} {H : Hp} {S : Sto} {x y : V} {w w1 w2 : W} {l l2 : List W}
theorem asL_of (s : SW K ρ H S) (r : RW K ρ H x w) (h : asL S w = some l) : ∃ a vs, x = .ref a ∧ SqL K H a vs ∧ RWs K ρ H vs l := by
  cases r with
  | ref e =>
    rename_i a n
    simp only [asL] at h
    split at h
    · rename_i l' g
      cases h
      obtain ⟨vs, e1, r1⟩ := s.ob n a _ e g
      exact ⟨a, vs, rfl, SqL.of e1, r1⟩
    · cases h
  | cl e r =>
    cases h
    exact ⟨_, _, rfl, e.sq, r⟩
  | _ => cases h
theorem asT_of (r : RW K ρ H x (.tup l)) : ∃ a vs, x = .ref a ∧ SqT K H a vs ∧ RWs K ρ H vs l := by
  cases r with
  | tup e _ r => exact ⟨_, _, rfl, .inl (.inr ⟨_, e⟩), r⟩
theorem asQ_of {b : Bool} (s : SW K ρ H S) (r : RW K ρ H x w) (h : asQ S w = some (b, l)) : ∃ a vs, x = .ref a ∧ (if b = true then SqT K H a vs else SqL K H a vs) ∧ RWs K ρ H vs l := by
  have go : ∀ {w : W}, RW K ρ H x w → ((asL S w).map fun l => (false, l)) = some (b, l) → ∃ a vs, x = .ref a ∧ (if b = true then SqT K H a vs else SqL K H a vs) ∧ RWs K ρ H vs l := fun {w} r h => by
    obtain ⟨l', h1, h2⟩ := Option.map_eq_some_iff.mp h
    cases h2
    obtain ⟨a, vs, e, q, r1⟩ := asL_of s r h1
    exact ⟨a, vs, e, by rw [if_neg (by decide)]; exact q, r1⟩
  cases w with
  | tup l' =>
    cases h
    obtain ⟨a, vs, e, q, r1⟩ := asT_of r
    exact ⟨a, vs, e, by rw [if_pos rfl]; exact q, r1⟩
  | non => exact go r h
  | bl _ => exact go r h
  | int _ => exact go r h
  | str _ => exact go r h
  | ref _ => exact go r h
  | cl _ => exact go r h
  | fn _ => exact go r h
  | tuw _ => exact go r h
/-- list + list -/
def rCatL (K : PySem.W.Frag) : R2 := fun x y H Q => ∃ l b xs zs, x = .ref l ∧ y = .ref b ∧ SqL K H l xs ∧ SqL K H b zs ∧ xs.length + zs.length ≤ sizeLine ∧ ∀ p, H p = none → Q (.ref p) (upd H p (.lst (xs ++ zs)))
theorem op_catL : OpR X (binaryOp .Add) (rCatL X.K) := by
  intro pins s σ H x y v u Q I rx ry h
  obtain ⟨l, b, xs, zs, rfl, rfl, hH, hB, hz, q⟩ := h
  cases rx
  cases ry
  obtain ⟨its, r, pl, _⟩ := I.list hH
  obtain ⟨its2, r2, pl2, _⟩ := I.list hB
  obtain ⟨⟨cls, dd, data, sl⟩, ho, hc, n, hd⟩ := pl.isList
  obtain ⟨⟨cls2, dd2, data2, sl2⟩, ho2, hc2, n2, hd2⟩ := pl2.isList
  simp only at hc hd hc2 hd2
  subst hc hd hc2 hd2
  have e : its.toArray ++ its2.toArray = (its ++ its2).toArray := by simp
  have e1 := r.length
  have e2 := r2.length
  refine concat_meets ⟨_, ho, rfl⟩ ⟨_, ho2, rfl⟩ noFill_list_add seq_list_add PySem.F.slot_list_add PySem.F.entry_list_add (PySem.F.args_list_add_2 _ _) (list_addW l b its.toArray its2.toArray n n2 dd dd2 sl sl2 (by simp only [List.size_toArray]; omega)) ⟨ho, ho2, ?_⟩
  rw [e]
  exact ⟨.ref _, _, I.lnew (t' := s.toks) (r.append r2) (by rw [List.length_append]; omega), rfl, q _ I.fresh⟩
def oAddL : BOp := fun x y S => match asL S x, asL S y with
  | some l, some m => lstO (l ++ m) S
  | _, _ => none
theorem lstO_len {Q : VK} {l : List W} (q : PosR K ρ H Q (lstO l S)) : l.length ≤ bigL := by
  unfold lstO at q
  split at q
  · assumption
  · exact q.elim
theorem tupO_len {Q : VK} {l : List W} (q : PosR K ρ H Q (tupO l S)) : l.length ≤ bigL := by
  unfold tupO at q
  split at q
  · assumption
  · exact q.elim
theorem ow_addL : OpW X (binaryOp .Add) oAddL := opw op_catL fun ρ H S x y w1 w2 Q s r1 r2 q => by
  unfold oAddL at q
  split at q
  · rename_i l m h1 h2
    obtain ⟨a, vs, rfl, q1, k1⟩ := asL_of s r1 h1
    obtain ⟨b, us, rfl, q2, k2⟩ := asL_of s r2 h2
    obtain ⟨z, k⟩ := lst_new s (k1.append k2) q
    exact ⟨a, b, vs, us, rfl, rfl, q1, q2, by rw [← List.length_append]; exact z, k⟩
  · exact q.elim
/-- t + u, as it is made -/
def rCatF (K : PySem.W.Frag) : R2 := fun x y H Q => ∃ a b xs ys, x = .ref a ∧ y = .ref b ∧ SqT K H a xs ∧ SqT K H b ys ∧ xs.length + ys.length ≤ sizeLine ∧
  (xs = [] → Q (.ref b) H) ∧ (xs ≠ [] → ys = [] → Q (.ref a) H) ∧ (xs ≠ [] → ys ≠ [] → ∀ p o, H p = none → o.dict = none → Q (.ref p) (upd H p (.frz o (.tup (xs ++ ys)))))
theorem op_catF : OpR X (binaryOp .Add) (rCatF X.K) := by
  intro pins s σ H x y v u Q I rx ry h
  obtain ⟨a, b, xs, ys, rfl, rfl, ha, hb, hz, q0, q1, q2⟩ := h
  cases rx
  cases ry
  obtain ⟨its, r1, p1, _⟩ := I.tuple ha
  obtain ⟨its2, r2, p2, _⟩ := I.tuple hb
  by_cases hx : xs = []
  · subst hx
    cases r1
    exact cat_tup0 p1 p2 ⟨.ref b, H, I, rfl, q0 rfl⟩
  · refine HT.cat_tup p1 p2 (fun z => hx (r1.nil_iff.mp z)) (fun z => ⟨.ref a, H, I, rfl, q1 hx (r2.nil_iff.mp z)⟩) (fun z => ?_) (by rw [← r1.length, ← r2.length]; exact hz)
    exact ⟨.ref s.heap.objs.size, _, I.laid (t' := s.toks) (o := .frz { cls := .type "tuple", data := .seq (its ++ its2).toArray } (.tup (xs ++ ys))) (fun b ob q => Heap.get?_push_of_some _ q) (Nat.le_refl _)
      ⟨Heap.get?_push_size _ rfl, by rw [List.length_append]; exact hz, _, r1.append r2, IsTup.new _ _⟩, rfl, q2 hx (fun w => z (r2.nil_iff.mpr w)) _ _ (I.hok.fresh (Nat.le_refl _)) rfl⟩
def oAddT : BOp
  | .tup l, .tup m, S => tupO (l ++ m) S
  | _, _, _ => none
theorem ow_addT : OpW X (binaryOp .Add) oAddT := opw op_catF fun ρ H S x y w1 w2 Q s r1 r2 q => by
  unfold oAddT at q
  split at q
  · rename_i l m
    obtain ⟨a, vs, rfl, q1, k1⟩ := asT_of r1
    obtain ⟨b, us, rfl, q2, k2⟩ := asT_of r2
    obtain ⟨z, k⟩ := tup_new s (k1.append k2) q
    have hl := tupO_len q
    have q' := q
    unfold tupO at q'
    rw [if_pos hl] at q'
    refine ⟨a, b, vs, us, rfl, rfl, q1, q2, by rw [← List.length_append]; exact z, fun e => ?_, fun _ e => ?_, fun _ _ => k⟩
    · subst e
      cases k1
      exact q' _ ρ H (Ext.refl _ _) r2 s
    · subst e
      cases k2
      rw [List.append_nil] at q'
      exact q' _ ρ H (Ext.refl _ _) r1 s
  · exact q.elim
def oAddS : BOp
  | .str a, .str b, S => if a.length + b.length ≤ 100000 then some (.str (a ++ b), S) else none
  | _, _, _ => none
theorem ow_addS : OpW X (binaryOp .Add) oAddS := opw op_add_str fun ρ H S x y w1 w2 Q s r1 r2 q => by
  unfold oAddS at q
  split at q
  · split at q
    · rename_i h
      cases r1; cases r2
      exact ⟨_, _, rfl, rfl, Nat.le_trans h (by decide), q _ ρ H (Ext.refl _ _) (.str _) s⟩
    · exact q.elim
  · exact q.elim
def oAdd : BOp := orOp oAddI (orOp oAddT (orOp oAddL oAddS))
theorem ow_add : OpW X (binaryOp .Add) oAdd := opw_or ow_addI (opw_or ow_addT (opw_or ow_addL ow_addS))
/-- list * int -/
def oMulL : BOp
  | .ref n, .int k, S => match S[n]? with
    | some (.lst l) => if -(2 ^ 62) ≤ k ∧ k < 2 ^ 62 then lstO (List.replicate k.toNat l).flatten S else none
    | _ => none
  | _, _, _ => none
theorem len_rep_flat {α : Type} (l : List α) : ∀ n : Nat, (List.replicate n l).flatten.length = l.length * n
  | 0 => rfl
  | n + 1 => by rw [List.replicate_succ, List.flatten_cons, List.length_append, len_rep_flat l n, Nat.mul_succ]; omega
theorem ow_mulL : OpW X (binaryOp .Mult) oMulL := opw op_rep fun ρ H S x y w1 w2 Q s r1 r2 q => by
  unfold oMulL at q
  split at q
  · rename_i n k
    split at q
    · rename_i l g
      split at q
      · rename_i hk
        cases r2
        cases r1 with
        | ref e =>
          rename_i a
          obtain ⟨vs, e1, k1⟩ := s.ob n a _ e g
          obtain ⟨z, kk⟩ := lst_new s (k1.flat k.toNat) q
          rw [len_rep_flat] at z
          exact ⟨a, k, vs, rfl, rfl, e1, by omega, by omega, z, kk⟩
      · exact q.elim
    · exact q.elim
  · exact q.elim
def oMul : BOp := orOp oMulI oMulL
theorem ow_mul : OpW X (binaryOp .Mult) oMul := opw_or ow_mulI ow_mulL

/-! ### the data that a value tells -/
def mapO {α β : Type} (f : α → Option β) : List α → Option (List β)
  | [] => some []
  | a :: r => match f a, mapO f r with
    | some b, some bs => some (b :: bs)
    | _, _ => none
def toD (S : Sto) : Nat → W → Option PyData
  | 0, _ => none
  | _ + 1, .non => some .none
  | _ + 1, .bl b => some (.bool b)
  | _ + 1, .int i => some (.int i)
  | _ + 1, .str x => some (.str x)
  | n + 1, .tup l => (mapO (toD S n) l).map .tuple
  | n + 1, .cl l => (mapO (toD S n) l).map .list
  | n + 1, .ref r => match S[r]? with
    | some (.lst l) => (mapO (toD S n) l).map .list
    | _ => none
  | _ + 1, .fn _ => none
  | _ + 1, .tuw _ => none
theorem mapD {f : W → Option PyData} (ih : ∀ (w : W) (d : PyData) (v : V), f w = some d → RW K ρ H v w → Dp K H v d) : ∀ {l : List W} {ds : List PyData} {vs : List V}, mapO f l = some ds → RWs K ρ H vs l → DpAll K H vs ds
  | [], ds, vs, h, r => by cases h; cases r; exact .nil
  | w :: l, ds, vs, h, r => by
    cases r with
    | cons r1 r2 =>
      unfold mapO at h
      split at h
      · rename_i b bs h1 h2
        cases h
        exact .cons (ih _ _ _ h1 r1) (mapD ih h2 r2)
      · cases h
theorem dp_of (s : SW K ρ H S) : ∀ (n : Nat) (w : W) (d : PyData) (v : V), toD S n w = some d → RW K ρ H v w → Dp K H v d
  | 0, w, d, v, h, _ => by unfold toD at h; cases h
  | n + 1, w, d, v, h, r => by
    cases r with
    | non => unfold toD at h; cases h; exact .non
    | bl b => unfold toD at h; cases h; exact .bl b
    | int b => unfold toD at h; cases h; exact .int b
    | str b => unfold toD at h; cases h; exact .str b
    | tuw e r => unfold toD at h; cases h
    | tup e _ r =>
      unfold toD at h
      obtain ⟨ds, h1, rfl⟩ := Option.map_eq_some_iff.mp h
      exact .tup (.inl (.inr ⟨_, e⟩)) (mapD (fun w d v => dp_of s n w d v) h1 r)
    | cl e r =>
      unfold toD at h
      obtain ⟨ds, h1, rfl⟩ := Option.map_eq_some_iff.mp h
      exact .lst e.sq (mapD (fun w d v => dp_of s n w d v) h1 r)
    | ref e =>
      rename_i a m
      unfold toD at h
      split at h
      · rename_i l g
        obtain ⟨ds, h1, rfl⟩ := Option.map_eq_some_iff.mp h
        obtain ⟨vs, e1, r1⟩ := s.ob m a _ e g
        exact .lst (SqL.of e1) (mapD (fun w d v => dp_of s n w d v) h1 r1)
      · cases h
    | fn a => unfold toD at h; cases h
/-- to a depth of 40 -/
def dat (S : Sto) (w : W) : Option PyData := match toD S 40 w with
  | some d => if SeqAt.shaped d = true then some d else none
  | none => none
theorem dat_of (s : SW K ρ H S) {d : PyData} (h : dat S w = some d) (r : RW K ρ H x w) : Dp K H x d ∧ SeqAt.shaped d = true := by
  unfold dat at h
  split at h
  · rename_i d' h1
    split at h
    · cases h
      exact ⟨dp_of s 40 w d x h1 r, by assumption⟩
    · cases h
  · cases h
def oEq : BOp := fun x y S => match dat S x, dat S y with
  | some d, some e => some (.bl (PyData.eqv d e), S)
  | _, _ => none
def oNe : BOp := fun x y S => match dat S x, dat S y with
  | some d, some e => some (.bl (!PyData.eqv d e), S)
  | _, _ => none
theorem ow_eq (hu : X.A.units + 64 < cLine) : OpW X (compareOp .Eq) oEq := opw (op_eqD hu) fun ρ H S x y w1 w2 Q s r1 r2 q => by
  unfold oEq at q
  split at q
  · rename_i d e h1 h2
    obtain ⟨a1, a2⟩ := dat_of s h1 r1
    obtain ⟨b1, b2⟩ := dat_of s h2 r2
    exact ⟨d, e, a1, b1, a2, b2, q _ ρ H (Ext.refl _ _) (.bl _) s⟩
  · exact q.elim
theorem ow_ne (hu : X.A.units + 64 < cLine) : OpW X (compareOp .NotEq) oNe := opw (op_neD hu) fun ρ H S x y w1 w2 Q s r1 r2 q => by
  unfold oNe at q
  split at q
  · rename_i d e h1 h2
    obtain ⟨a1, a2⟩ := dat_of s h1 r1
    obtain ⟨b1, b2⟩ := dat_of s h2 r2
    exact ⟨d, e, a1, b1, a2, b2, q _ ρ H (Ext.refl _ _) (.bl _) s⟩
  · exact q.elim
def oLtI : BOp := opI (fun _ _ => true) fun i j => .bl (decide (i < j))
def oLeI : BOp := opI (fun _ _ => true) fun i j => .bl (decide (i ≤ j))
def oGtI : BOp := opI (fun _ _ => true) fun i j => .bl (decide (j < i))
def oGeI : BOp := opI (fun _ _ => true) fun i j => .bl (decide (j ≤ i))
theorem ow_ltI : OpW X (compareOp .Lt) oLtI := ow_int0 op_lt fun _ _ _ _ => .bl _
theorem ow_leI : OpW X (compareOp .LtE) oLeI := ow_int0 op_le fun _ _ _ _ => .bl _
theorem ow_gtI : OpW X (compareOp .Gt) oGtI := ow_int0 op_gt fun _ _ _ _ => .bl _
theorem ow_geI : OpW X (compareOp .GtE) oGeI := ow_int0 op_ge fun _ _ _ _ => .bl _
def isNon : W → Bool
  | .non => true
  | _ => false
def oIsN : BOp
  | x, .non, S => some (.bl (isNon x), S)
  | _, _, _ => none
def oNotN : BOp
  | x, .non, S => some (.bl (!isNon x), S)
  | _, _, _ => none
theorem isNon_of (r : RW K ρ H x w) : decide (x = V.non) = isNon w := by cases r <;> rfl
theorem ow_isN : OpW X (compareOp .Is) oIsN := opw op_isN fun ρ H S x y w1 w2 Q s r1 r2 q => by
  unfold oIsN at q
  split at q
  · cases r2
    refine ⟨rfl, ?_⟩
    rw [isNon_of r1]
    exact q _ ρ H (Ext.refl _ _) (.bl _) s
  · exact q.elim
theorem ow_notN : OpW X (compareOp .IsNot) oNotN := opw op_notN fun ρ H S x y w1 w2 Q s r1 r2 q => by
  unfold oNotN at q
  split at q
  · cases r2
    refine ⟨rfl, ?_⟩
    rw [isNon_of r1]
    exact q _ ρ H (Ext.refl _ _) (.bl _) s
  · exact q.elim

/-! ### subscripts -/
abbrev IxW (X : Cx) (op : BOp) : Prop := IxR X (rOf X.K op)
theorem ixw {r : R2} {op : BOp} (h : IxR X r) (w : ∀ ρ H S x y w1 w2 Q, SW X.K ρ H S → RW X.K ρ H x w1 → RW X.K ρ H y w2 → PosR X.K ρ H Q (op w1 w2 S) → r x y H Q) : IxW X op :=
  fun value slice pins s σ H x y v u Q I rx ry ⟨ρ, S, w1, w2, ss, r1, r2, q⟩ hs => h value slice pins s σ H x y v u Q I rx ry (w ρ H S x y w1 w2 Q ss r1 r2 q) hs
theorem ixw_or {o1 o2 : BOp} (h1 : IxW X o1) (h2 : IxW X o2) : IxW X (orOp o1 o2) := fun value slice pins s σ H x y v u Q I rx ry ⟨ρ, S, w1, w2, ss, r1, r2, q⟩ hs => by
  unfold orOp at q
  cases g : o1 w1 w2 S with
  | some p => rw [g] at q; exact h1 value slice pins s σ H x y v u Q I rx ry ⟨ρ, S, w1, w2, ss, r1, r2, by rw [g]; exact q⟩ hs
  | none => rw [g] at q; exact h2 value slice pins s σ H x y v u Q I rx ry ⟨ρ, S, w1, w2, ss, r1, r2, q⟩ hs
theorem RWs.atI {vs : List V} {ws : List W} {i : Int} {w : W} (r : RWs K ρ H vs ws) (h : L2.atI ws i = some w) : ∃ v, L2.atI vs i = some v ∧ RW K ρ H v w := by
  unfold L2.atI at h ⊢
  rw [r.length]
  cases e : ixN ws.length i with
  | none => rw [e] at h; cases h
  | some j =>
    rw [e] at h
    exact r.get' h
def oIxQ : BOp
  | x, .int i, S => match asQ S x with
    | some (_, l) => (atI l i).map fun w => (w, S)
    | none => none
  | _, _, _ => none
theorem ix_q : IxW X oIxQ := ixw ix_seq fun ρ H S x y w1 w2 Q s r1 r2 q => by
  unfold oIxQ at q
  split at q
  · rename_i i
    split at q
    · rename_i b l h
      cases g : atI l i with
      | none => rw [g] at q; exact q.elim
      | some z =>
        rw [g] at q
        obtain ⟨a, vs, rfl, hq, k⟩ := asQ_of s r1 h
        obtain ⟨v, hv, rv⟩ := k.atI g
        cases r2
        have fin := q v ρ H (Ext.refl _ _) rv s
        cases b with
        | true => rw [if_pos rfl] at hq; exact .inr (.inl ⟨a, vs, i, v, rfl, rfl, hq, hv, fin⟩)
        | false => rw [if_neg (by decide)] at hq; exact .inl ⟨a, vs, i, v, rfl, rfl, hq, hv, fin⟩
    · exact q.elim
  · exact q.elim
end
end Wm

set_option Elab.async false
set_option linter.all false
set_option maxRecDepth 100000
set_option maxHeartbeats 2000000
namespace Wm
open PySem PySem.Spec PyProof.Rows L2

/-! ### targets -/
inductive Tgt where
  | one (i : Nat)
  | many (is : List Nat)
def setAll (φ : Fr) : List Nat → List W → Fr
  | i :: is, w :: ws => setAll (φ.set i (some w)) is ws
  | _, _ => φ
def tgM : Tgt → W → Fr → Option Fr
  | .one i, w, φ => some (φ.set i (some w))
  | .many is, .tup ws, φ => if ws.length = is.length then some (setAll φ is ws) else none
  | .many is, .tuw ws, φ => if ws.length = is.length then some (setAll φ is ws) else none
  | .many _, _, _ => none
def gAll : List Nat → TGs
  | [] => gNil
  | i :: is => gCons (gName i) (gAll is)
def gOf (K : PySem.W.Frag) : Tgt → TG
  | .one i => gName i
  | .many is => gTup K is.length (gAll is)
def Tgt.slots : Tgt → List Nat
  | .one i => [i]
  | .many is => is
abbrev SG (X : Cx) (tg : Expr) (T : Tgt) : Prop := PG X tg (gOf X.K T)
abbrev SGs (X : Cx) (ts : List Expr) (is : List Nat) : Prop := PGs X ts (gAll is)
section
variable {X : Cx} {pos : Pos}
theorem sg_name {x : Str} (i : Nat) (hN : X.N.Nodup) (hi : X.N[i]? = some x := by rfl) (hx : Loc X.env.scope x := by first | exact .inl rfl | exact .inr rfl) (hf : X.fn x = true ∨ X.env.scope.names.lookup x = some .local := by first | exact .inl rfl | exact .inr rfl) : SG X (.Name x pos) (.one i) := pg_name hN hi hx hf
theorem sgs_nil : SGs X [] [] := pgs_nil
theorem sgs_cons {e : Expr} {es : List Expr} {i : Nat} {is : List Nat} (h1 : SG X e (.one i)) (h2 : SGs X es is) (hs : (assignEach (e :: es) X.env).map (·.2) = assign e X.env :: (assignEach es X.env).map (·.2) := by rfl) : SGs X (e :: es) (i :: is) := pgs_cons h1 h2 hs
theorem sg_tup {es : List Expr} {k : Nat} {is : List Nat} (hc : X.calm = true) (h : SGs X es is) (hn : (assignEach es X.env).length = is.length := by rfl) (hst : (assignEach es X.env).findIdx? (·.1) = none := by rfl) : SG X (.Tuple es k pos) (.many is) := pg_tup hc h hn hst
end
def SetIn (is : List Nat) (σ σ1 : L2.St) : Prop := ∀ vs : List Nat, (∀ i ∈ is, i ∈ vs) → wipe σ1 vs = wipe σ vs
theorem wipe_set {σ : L2.St} {i : Nat} {o : Option V} : ∀ {vs : List Nat}, i ∈ vs → wipe (σ.set i o) vs = wipe σ vs
  | v :: vs, h => by
    show (wipe (σ.set i o) vs).set v none = (wipe σ vs).set v none
    by_cases hv : i ∈ vs
    · rw [wipe_set hv]
    · have e : i = v := by
        rcases List.mem_cons.mp h with h | h
        · exact h
        · exact absurd h hv
      subst e
      refine List.ext_getElem? fun j => ?_
      by_cases hj : i = j
      · subst hj
        have l1 : (wipe (σ.set i o) vs).length = (wipe σ vs).length := by rw [wipe_length, wipe_length, List.length_set]
        by_cases hl : i < (wipe σ vs).length
        · rw [List.getElem?_set_self hl, List.getElem?_set_self (by rw [l1]; exact hl)]
        · rw [List.getElem?_eq_none (by rw [List.length_set, l1]; omega), List.getElem?_eq_none (by rw [List.length_set]; omega)]
      · rw [List.getElem?_set_ne hj, List.getElem?_set_ne hj]
        by_cases hm : j ∈ vs
        · have a : ∀ (τ : L2.St), j < (wipe τ vs).length → (wipe τ vs)[j]? = some none := fun τ hl => by
            cases q : (wipe τ vs)[j]? with
            | none => rw [List.getElem?_eq_none_iff] at q; omega
            | some u =>
              cases u with
              | none => rfl
              | some x => exact absurd hm (wipe_some q).2
          have l1 : (wipe (σ.set i o) vs).length = (wipe σ vs).length := by rw [wipe_length, wipe_length, List.length_set]
          by_cases hl : j < (wipe σ vs).length
          · rw [a σ hl, a _ (by rw [l1]; exact hl)]
          · rw [List.getElem?_eq_none (by omega), List.getElem?_eq_none (by omega)]
        · rw [wipe_out hm, wipe_out hm, List.getElem?_set_ne hj]
section
variable {K : PySem.W.Frag} {ρ : List Addr} {H : Hp}
theorem gAll_of {Q : L2.St → Hp → Prop} : ∀ {is : List Nat} {vs : List V} {ws : List W} {σ : L2.St} {φ : Fr}, FW K ρ H σ φ → RWs K ρ H vs ws → ws.length = is.length → (∀ σ1, FW K ρ H σ1 (setAll φ is ws) → SetIn is σ σ1 → Q σ1 H) → gAll is vs σ H Q
  | [], vs, ws, σ, φ, F, r, hl, k => by
    cases r with
    | nil => exact ⟨rfl, k σ F fun _ _ => rfl⟩
    | cons _ _ => cases hl
  | i :: is, vs, ws, σ, φ, F, r, hl, k => by
    cases r with
    | nil => cases hl
    | cons r1 r2 =>
      refine ⟨_, _, rfl, gAll_of (is := is) (F.set i r1) r2 (by simpa using hl) fun σ1 F1 h1 => k σ1 F1 fun vs hv => ?_⟩
      rw [h1 vs fun j hj => hv j (List.mem_cons_of_mem _ hj), wipe_set (hv i List.mem_cons_self)]
theorem tg_of {T : Tgt} {v : V} {w : W} {σ : L2.St} {φ φ1 : Fr} {Q : L2.St → Hp → Prop} (F : FW K ρ H σ φ) (r : RW K ρ H v w) (h : tgM T w φ = some φ1) (k : ∀ σ1, FW K ρ H σ1 φ1 → SetIn T.slots σ σ1 → Q σ1 H) : gOf K T v σ H Q := by
  cases T with
  | one i =>
    cases h
    exact k _ (F.set i r) fun vs hv => wipe_set (hv i (by simp [Tgt.slots]))
  | many is =>
    cases w with
    | tup ws =>
      simp only [tgM] at h
      split at h
      · rename_i hl
        cases h
        obtain ⟨a, vs, rfl, hq, rs⟩ := asT_of r
        exact ⟨a, vs, rfl, hq, by rw [rs.length]; exact hl, gAll_of F rs hl k⟩
      · cases h
    | tuw ws =>
      simp only [tgM] at h
      split at h
      · rename_i hl
        cases h
        cases r with
        | tuw e rs => exact ⟨_, _, rfl, SqT.of e, by rw [rs.length]; exact hl, gAll_of F rs hl k⟩
      · cases h
    | _ => cases h
end

/-! ### statements -/
abbrev SM := Fr → Sto → SO
def bindS {α : Type} (o : Out α) (φ : Fr) (k : α → Sto → SO) : SO := match o with
  | .ok a S => k a S
  | .ex x S => .ex x φ S
  | .bad => .bad
theorem bindS_ok {α : Type} (a : α) (S : Sto) (φ : Fr) (k : α → Sto → SO) : bindS (.ok a S) φ k = k a S := rfl
theorem bindS_ex {α : Type} (x : Exn) (S : Sto) (φ : Fr) (k : α → Sto → SO) : bindS (.ex x S : Out α) φ k = .ex x φ S := rfl
theorem bindS_bad {α : Type} (φ : Fr) (k : α → Sto → SO) : bindS (.bad : Out α) φ k = .bad := rfl
def SOk (K : PySem.W.Frag) (ρ : List Addr) (H : Hp) (D : Ends) (Wx : WX) : SO → Prop
  | .nx φ S => ∀ ρ' σ' H', Ext ρ H ρ' H' → FW K ρ' H' σ' φ → SW K ρ' H' S → D.nx σ' H'
  | .rt w S => ∀ v ρ' H', Ext ρ H ρ' H' → RW K ρ' H' v w → SW K ρ' H' S → D.rt v H'
  | .bk φ S => ∀ ρ' σ' H', Ext ρ H ρ' H' → FW K ρ' H' σ' φ → SW K ρ' H' S → D.bk σ' H'
  | .ct φ S => ∀ ρ' σ' H', Ext ρ H ρ' H' → FW K ρ' H' σ' φ → SW K ρ' H' S → D.ct σ' H'
  | .ex x φ S => ∀ cls d ρ' σ' H', Ext ρ H ρ' H' → FW K ρ' H' σ' φ → XR ρ' x cls d → SW K ρ' H' S → Wx cls d σ' H'
  | .bad => False
theorem SOk.step {K : PySem.W.Frag} {ρ ρ1 : List Addr} {H H1 : Hp} {D : Ends} {Wx : WX} {o : SO} (h : SOk K ρ H D Wx o) (e : Ext ρ H ρ1 H1) : SOk K ρ1 H1 D Wx o := by
  cases o with
  | nx φ S => exact fun ρ' σ' H' e' => h ρ' σ' H' (e.trans e')
  | rt w S => exact fun v ρ' H' e' => h v ρ' H' (e.trans e')
  | bk φ S => exact fun ρ' σ' H' e' => h ρ' σ' H' (e.trans e')
  | ct φ S => exact fun ρ' σ' H' e' => h ρ' σ' H' (e.trans e')
  | ex x φ S => exact fun cls d ρ' σ' H' e' => h cls d ρ' σ' H' (e.trans e')
  | bad => exact h
def tS (K : PySem.W.Frag) (Wx : WX) (g : SM) : TS := fun D σ H => ∃ ρ φ S, FW K ρ H σ φ ∧ SW K ρ H S ∧ SOk K ρ H D Wx (g φ S)
abbrev SS (X : Cx) (Wx : WX) (st : Stmt) (g : SM) : Prop := PS X st (tS X.K Wx g)
abbrev SSs (X : Cx) (Wx : WX) (st : List Stmt) (g : SM) : Prop := PSs X st (tS X.K Wx g)
section
variable {X : Cx} {Wx : WX} {st : Stmt} {rest : List Stmt} {e : Expr} {pos : Pos} {f : FE W} {g h : SM}
theorem weakS {t t' : TS} (h : PS X st t) (w : ∀ D σ H, t' D σ H → t D σ H) : PS X st t' := ⟨fun pins s σ H D I q => h.run pins s σ H D I (w D σ H q)⟩
theorem weakSs {t t' : TS} (h : PSs X rest t) (w : ∀ D σ H, t' D σ H → t D σ H) : PSs X rest t' := ⟨fun pins s σ H D I q => h.run pins s σ H D I (w D σ H q)⟩
theorem intoS {α ν : Type} {K : PySem.W.Frag} {rel : List Addr → Hp → ν → α → Prop} {ρ : List Addr} {H : Hp} {σ : L2.St} {φ : Fr} {S : Sto} {f : FE α} {k : α → Sto → SO} {R : ν → Hp → Prop} {D : Ends}
    (F : FW K ρ H σ φ) (s : SW K ρ H S) (h : SOk K ρ H D Wx (bindS (f φ S) φ k))
    (go : ∀ w S1 v ρ1 H1, Ext ρ H ρ1 H1 → rel ρ1 H1 v w → SW K ρ1 H1 S1 → FW K ρ1 H1 σ φ → SOk K ρ1 H1 D Wx (k w S1) → R v H1) : tI K rel Wx f σ H R := by
  refine ⟨ρ, φ, S, F, s, ?_⟩
  cases q : f φ S with
  | ok w S1 =>
    rw [q] at h
    exact fun v ρ1 H1 e r s1 => go w S1 v ρ1 H1 e r s1 (F.mono e) (SOk.step h e)
  | ex x S1 =>
    rw [q] at h
    exact fun cls d ρ' H' e r s1 => h cls d ρ' σ H' e (F.mono e) r s1
  | bad => rw [q] at h; exact h
def mNext : SM := fun φ S => .nx φ S
def mSeq (g h : SM) : SM := fun φ S => match g φ S with
  | .nx φ' S' => h φ' S'
  | o => o
theorem ss_nil : SSs X Wx [] mNext := weakSs pss_nil fun D σ H ⟨ρ, φ, S, F, s, q⟩ => q ρ σ H (Ext.refl _ _) F s
theorem ss_one (h1 : SS X Wx st g) : SSs X Wx [st] g := pss_one h1
theorem ss_cons (h1 : SS X Wx st g) (h2 : SSs X Wx rest h) : SSs X Wx (st :: rest) (mSeq g h) := weakSs (pss_cons h1 h2) fun D σ H ⟨ρ, φ, S, F, s, q⟩ => by
  refine ⟨ρ, φ, S, F, s, ?_⟩
  unfold mSeq at q
  cases o : g φ S with
  | nx φ' S' =>
    rw [o] at q
    exact fun ρ' σ' H' e' F' s' => ⟨ρ', φ', S', F', s', SOk.step q e'⟩
  | rt w S' => rw [o] at q; exact q
  | bk φ' S' => rw [o] at q; exact q
  | ct φ' S' => rw [o] at q; exact q
  | ex x φ' S' => rw [o] at q; exact q
  | bad => rw [o] at q; exact q
def mBk : SM := fun φ S => .bk φ S
def mCt : SM := fun φ S => .ct φ S
theorem ss_pass : SS X Wx (.Pass pos) mNext := weakS ps_pass fun D σ H ⟨ρ, φ, S, F, s, q⟩ => q ρ σ H (Ext.refl _ _) F s
theorem ss_break : SS X Wx (.Break pos) mBk := weakS ps_break fun D σ H ⟨ρ, φ, S, F, s, q⟩ => q ρ σ H (Ext.refl _ _) F s
theorem ss_continue : SS X Wx (.Continue pos) mCt := weakS ps_continue fun D σ H ⟨ρ, φ, S, F, s, q⟩ => q ρ σ H (Ext.refl _ _) F s
def mDrop (f : FE W) : SM := fun φ S => bindS (f φ S) φ fun _ S1 => .nx φ S1
theorem ss_expr (he : SE X Wx e f) (hs : swapsWith e none pos.line X.env = pure false := by rfl) : SS X Wx (.Expr e pos) (mDrop f) := weakS (ps_expr he hs) fun D σ H ⟨ρ, φ, S, F, s, q⟩ =>
  intoS F s q fun w S1 v ρ1 H1 e1 r1 s1 F1 q1 => q1 ρ1 σ H1 (Ext.refl _ _) F1 s1
def mRet (f : FE W) : SM := fun φ S => bindS (f φ S) φ fun w S1 => .rt w S1
theorem ss_ret (he : SE X Wx e f) : SS X Wx (.Return (some e) pos) (mRet f) := weakS (ps_ret he) fun D σ H ⟨ρ, φ, S, F, s, q⟩ =>
  intoS F s q fun w S1 v ρ1 H1 e1 r1 s1 F1 q1 => q1 v ρ1 H1 (Ext.refl _ _) r1 s1
def mRetN : SM := fun _ S => .rt .non S
theorem ss_retN : SS X Wx (.Return none pos) mRetN := weakS ps_retN fun D σ H ⟨ρ, φ, S, F, s, q⟩ => q _ ρ H (Ext.refl _ _) .non s
def mIfS (t : FE Bool) (g h : SM) : SM := fun φ S => bindS (t φ S) φ fun k S1 => if k = true then g φ S1 else h φ S1
theorem ss_if {c : Expr} {a b : List Stmt} {t : FE Bool} (hc : ST X Wx c t) (ha : SSs X Wx a g) (hb : SSs X Wx b h) : SS X Wx (.If c a b pos) (mIfS t g h) := weakS (ps_if hc ha hb) fun D σ H ⟨ρ, φ, S, F, s, q⟩ =>
  intoS F s q fun k S1 v ρ1 H1 e1 r1 s1 F1 q1 => by
    obtain rfl : v = k := r1
    cases v with
    | true => rw [if_pos rfl] at q1 ⊢; exact ⟨ρ1, φ, S1, F1, s1, q1⟩
    | false => rw [if_neg (by decide)] at q1 ⊢; exact ⟨ρ1, φ, S1, F1, s1, q1⟩
/-! ### assignments -/
def mSet (i : Nat) (f : FE W) : SM := fun φ S => bindS (f φ S) φ fun w S1 => .nx (φ.set i (some w)) S1
theorem set_of {i : Nat} {te : TE} (h : ∀ σ H Q, tI X.K (RW X.K) Wx f σ H Q → te σ H Q) : ∀ D σ H, tS X.K Wx (mSet i f) D σ H → tAsg te (gName i) D σ H := fun D σ H ⟨ρ, φ, S, F, s, q⟩ =>
  h σ H _ (intoS F s q fun w S1 v ρ1 H1 e1 r1 s1 F1 q1 => q1 ρ1 _ H1 (Ext.refl _ _) (F1.set i r1) s1)
theorem ss_set {x : Str} {pos' : Pos} (i : Nat) (hN : X.N.Nodup) (he : SE X Wx e f) (hi : X.N[i]? = some x := by rfl) (hx : Loc X.env.scope x := by first | exact .inl rfl | exact .inr rfl) (hs : swapsWith e (some (.Name x pos')) pos.line X.env = pure false := by rfl)
    (hf : X.fn x = true ∨ X.env.scope.names.lookup x = some .local := by first | exact .inl rfl | exact .inr rfl) : SS X Wx (.Assign [.Name x pos'] e pos) (mSet i f) := weakS (ps_set hN hi hx he hs hf) (set_of fun _ _ _ q => q)
def mTg (T : Tgt) (f : FE W) : SM := fun φ S => bindS (f φ S) φ fun w S1 => match tgM T w φ with
  | some φ1 => .nx φ1 S1
  | none => .bad
theorem ss_tg {tg : Expr} {T : Tgt} (hg : SG X tg T) (he : SE X Wx e f) (hs : swapsWithSole [tg] e pos.line X.env = pure false := by rfl) (hw : swappedStores [tg] e X.env = pure none := by rfl) (h1 : (assignEach [tg] X.env).map (·.2) = [assign tg X.env] := by rfl) :
    SS X Wx (.Assign [tg] e pos) (mTg T f) := weakS (ps_asg he hg hs hw h1) fun D σ H ⟨ρ, φ, S, F, s, q⟩ =>
  intoS F s q fun w S1 v ρ1 H1 e1 r1 s1 F1 q1 => by
    cases o : tgM T w φ with
    | none => rw [o] at q1; exact q1.elim
    | some φ1 =>
      rw [o] at q1
      exact tg_of F1 r1 o fun σ1 F2 _ => q1 ρ1 σ1 H1 (Ext.refl _ _) F2 s1
def mPar (i j : Nat) (fr : FE (List W)) : SM := fun φ S => bindS (fr φ S) φ fun ws S1 => match ws with
  | [v, w] => .nx ((φ.set i (some v)).set j (some w)) S1
  | _ => .bad
theorem ss_par {x y : Str} {a b : Expr} {fr : FE (List W)} {px py pt : Pos} {kt k2 pt2} (i j : Nat) (hc : X.calm = true) (hN : X.N.Nodup) (ha : SA X Wx [a, b] fr) (hi : X.N[i]? = some x := by rfl) (hj : X.N[j]? = some y := by rfl) (hij : i ≠ j := by decide)
    (hx : X.env.scope.names.lookup x = some .local := by rfl) (hy : X.env.scope.names.lookup y = some .local := by rfl)
    (hw : swappedStores [.Tuple [.Name x px, .Name y py] kt pt] (.Tuple [a, b] k2 pt2) X.env = pure (some [x, y]) := by rfl)
    (hs : swapsWithSole [.Tuple [.Name x px, .Name y py] kt pt] (.Tuple [a, b] k2 pt2) pos.line X.env = pure false := by rfl) :
    SS X Wx (.Assign [.Tuple [.Name x px, .Name y py] kt pt] (.Tuple [a, b] k2 pt2) pos) (mPar i j fr) := weakS (ps_par hc hN hi hj hij hx hy ha hw hs) fun D σ H ⟨ρ, φ, S, F, s, q⟩ =>
  intoS F s q fun ws S1 vs ρ1 H1 e1 r1 s1 F1 q1 => by
    cases r1 with
    | nil => exact q1.elim
    | cons a1 t1 =>
      cases t1 with
      | nil => exact q1.elim
      | cons a2 t2 =>
        cases t2 with
        | nil => exact ⟨_, _, rfl, q1 ρ1 _ H1 (Ext.refl _ _) ((F1.set i a1).set j a2) s1⟩
        | cons _ _ => exact q1.elim
/-- name op= e -/
def mAug (i : Nat) (o : BOp) (f : FE W) : SM := fun φ S => match φ[i]? with
  | some (some w1) => bindS (f φ S) φ fun w2 S2 => match o w1 w2 S2 with
    | some (w, S3) => .nx (φ.set i (some w)) S3
    | none => .bad
  | _ => .bad
theorem ss_aug {x : Str} {op : Operator} {o : BOp} {pos' : Pos} (i : Nat) (hN : X.N.Nodup) (ho : OpW X (inplaceOp op) o) (he : SE X Wx e f) (hi : X.N[i]? = some x := by rfl) (hx : Loc X.env.scope x := by first | exact .inl rfl | exact .inr rfl)
    (hf : X.fn x = true ∨ X.env.scope.names.lookup x = some .local := by first | exact .inl rfl | exact .inr rfl) : SS X Wx (.AugAssign (.Name x pos') op e pos) (mAug i o f) := weakS (ps_aug (ti := rOf X.K o) hN hi hx he ho hf) fun D σ H ⟨ρ, φ, S, F, s, q⟩ => by
  unfold mAug at q
  split at q
  · rename_i w1 g
    obtain ⟨v1, h1, r1⟩ := F.get i w1 g
    refine ⟨v1, h1, intoS F s q fun w2 S2 v2 ρ2 H2 e2 r2 s2 F2 q2 => ⟨ρ2, S2, w1, w2, s2, r1.mono e2, r2, ?_⟩⟩
    cases z : o w1 w2 S2 with
    | none => rw [z] at q2; exact q2.elim
    | some p =>
      rw [z] at q2
      exact fun v ρ3 H3 e3 r3 s3 => q2 ρ3 _ H3 e3 ((F2.mono e3).set i r3) s3
  · exact q.elim

/-! ### while -/
def whileM (t : FE Bool) (b : SM) : Nat → SM
  | 0 => fun _ _ => .bad
  | n + 1 => fun φ S => bindS (t φ S) φ fun k S1 => if k = true then (match b φ S1 with
    | .nx φ' S' => whileM t b n φ' S'
    | .ct φ' S' => whileM t b n φ' S'
    | .bk φ' S' => .nx φ' S'
    | o => o) else .nx φ S1
def bigT : Nat := 1000000
def mWhile (t : FE Bool) (b : SM) : SM := whileM t b bigT
theorem ss_while {c : Expr} {body : List Stmt} {t : FE Bool} (hp : PassesOwn (model X.prog X.w) X.A X.env X.xe) (hc : ST X Wx c t) (hb : SSs X Wx body g) : SS X Wx (.While c body [] pos) (mWhile t g) := weakS (ps_while hp hc hb) fun D σ H ⟨ρ, φ, S, F, s, q⟩ => by
  refine ⟨fun m σ H => ∃ ρ φ S, FW X.K ρ H σ φ ∧ SW X.K ρ H S ∧ SOk X.K ρ H D Wx (whileM t g m φ S), ⟨bigT, ρ, φ, S, F, s, q⟩, ?_⟩
  rintro m σ H ⟨ρ, φ, S, F, s, q⟩
  cases m with
  | zero => exact q.elim
  | succ m =>
    refine intoS F s q fun k S1 v ρ1 H1 e1 r1 s1 F1 q1 => ?_
    obtain rfl : v = k := r1
    cases v with
    | false =>
      rw [if_neg (by decide)] at q1 ⊢
      exact q1 ρ1 σ H1 (Ext.refl _ _) F1 s1
    | true =>
      rw [if_pos rfl] at q1 ⊢
      refine ⟨fun σ H => ∃ ρ φ S, FW X.K ρ H σ φ ∧ SW X.K ρ H S ∧ SOk X.K ρ H D Wx (whileM t g m φ S), fun σ' H' z => ⟨m, Nat.lt_succ_self m, z⟩, ρ1, φ, S1, F1, s1, ?_⟩
      cases o : g φ S1 with
      | nx φ' S' => rw [o] at q1; exact fun ρ' σ' H' e' F' s' => ⟨ρ', φ', S', F', s', SOk.step q1 e'⟩
      | ct φ' S' => rw [o] at q1; exact fun ρ' σ' H' e' F' s' => ⟨ρ', φ', S', F', s', SOk.step q1 e'⟩
      | bk φ' S' => rw [o] at q1; exact q1
      | rt w S' => rw [o] at q1; exact q1
      | ex x φ' S' => rw [o] at q1; exact q1
      | bad => rw [o] at q1; exact q1
end

/-! ### what is walked: at turn i, the store as it stands: nothing known, the end, an item -/
abbrev ItM := Nat → Sto → Option (Option W)
/-- J walks as m tells, from ρ0, H0 on -/
def JOk (K : PySem.W.Frag) (ρ0 : List Addr) (H0 : Hp) (J : It) (m : ItM) : Prop := ∀ i ρ H S, Ext ρ0 H0 ρ H → SW K ρ H S → match m i S with
  | none => True
  | some none => J.stop i H
  | some (some w) => J.go i H ∧ ∀ x H', J.yld i H x H' → Ext ρ H ρ H' ∧ RW K ρ H' x w ∧ SW K ρ H' S
def tII (K : PySem.W.Frag) (Wx : WX) (f : FE ItM) : TI := fun σ H R => tI K (fun ρ H (J : It) m => JOk K ρ H J m) Wx f σ H R
abbrev SI (X : Cx) (Wx : WX) (tg iter : Expr) (f : FE ItM) : Prop := PI X tg iter (tII X.K Wx f)
theorem weakI {X : Cx} {tg iter : Expr} {t t' : TI} (h : PI X tg iter t) (w : ∀ σ H R, t' σ H R → t σ H R) : PI X tg iter t' := ⟨fun pins s σ H R I q => h.run pins s σ H R I (w σ H R q)⟩
def forM (m : ItM) (T : Tgt) (b : SM) : Nat → Nat → SM
  | 0, _ => fun _ _ => .bad
  | n + 1, i => fun φ S => match m i S with
    | none => .bad
    | some none => .nx φ S
    | some (some w) => match tgM T w φ with
      | none => .bad
      | some φ1 => match b φ1 S with
        | .nx φ' S' => forM m T b n (i + 1) φ' S'
        | .ct φ' S' => forM m T b n (i + 1) φ' S'
        | .bk φ' S' => .nx φ' S'
        | o => o
def mFor (f : FE ItM) (T : Tgt) (b : SM) : SM := fun φ S => bindS (f φ S) φ fun m S1 => forM m T b bigT 0 φ S1
section
variable {X : Cx} {Wx : WX} {tg iter : Expr} {pos : Pos} {f : FE ItM} {T : Tgt} {g : SM}
theorem ss_for {body : List Stmt} (hp : PassesOwn (model X.prog X.w) X.A X.env X.xe) (hc : X.calm = true) (hi : SI X Wx tg iter f) (hg : SG X tg T) (hb : SSs X Wx body g) (hs : ∀ x, foldedSetIterable iter X.env x = pure x := by intro _; rfl) :
    SS X Wx (.For tg iter body [] pos) (mFor f T g) := weakS (ps_for hp hc hi hg hb hs) fun D σ H ⟨ρ, φ, S, F, s, q⟩ => by
  refine intoS F s q fun m S1 J ρ1 H1 e1 r1 s1 F1 q1 => ?_
  refine ⟨fun i n σ H => ∃ ρ φ S, Ext ρ1 H1 ρ H ∧ FW X.K ρ H σ φ ∧ SW X.K ρ H S ∧ SOk X.K ρ H D Wx (forM m T g n i φ S), ⟨bigT, ρ1, φ, S1, Ext.refl _ _, F1, s1, q1⟩, ?_⟩
  rintro i n σ H ⟨ρ, φ, S, e, F, s, q⟩
  cases n with
  | zero => exact q.elim
  | succ n =>
    simp only [forM] at q
    have j := r1 i ρ H S e s
    cases hm : m i S with
    | none => simp only [hm] at q; exact q.elim
    | some o =>
      cases o with
      | none => simp only [hm] at q j; exact .inl ⟨j, q ρ σ H (Ext.refl _ _) F s⟩
      | some w =>
        simp only [hm] at q j
        refine .inr ⟨j.1, fun σ' H' => ∃ ρ φ S, Ext ρ1 H1 ρ H' ∧ FW X.K ρ H' σ' φ ∧ SW X.K ρ H' S ∧ SOk X.K ρ H' D Wx (forM m T g n (i + 1) φ S), fun σ' H' z => ⟨n, Nat.lt_succ_self n, z⟩, fun x H' y => ?_⟩
        obtain ⟨e2, r2, s2⟩ := j.2 x H' y
        cases ht : tgM T w φ with
        | none => simp only [ht] at q; exact q.elim
        | some φ1 =>
          simp only [ht] at q
          refine tg_of (F.mono e2) r2 ht fun σ1 F3 _ => ⟨ρ, φ1, S, F3, s2, ?_⟩
          have q' := SOk.step q e2
          cases o : g φ1 S with
          | nx φ' S' => simp only [o] at q'; exact fun ρ' σ' H' e' F' s' => ⟨ρ', φ', S', (e.trans e2).trans e', F', s', SOk.step q' e'⟩
          | ct φ' S' => simp only [o] at q'; exact fun ρ' σ' H' e' F' s' => ⟨ρ', φ', S', (e.trans e2).trans e', F', s', SOk.step q' e'⟩
          | bk φ' S' => simp only [o] at q'; exact q'
          | rt w S' => simp only [o] at q'; exact q'
          | ex x φ' S' => simp only [o] at q'; exact q'
          | bad => simp only [o] at q'; exact q'.elim
/-! list, tuple, range -/
def itL (w : W) : ItM := fun i S => match asQ S w with
  | some (_, l) => some l[i]?
  | none => none
def mIt (f : FE W) : FE ItM := fun φ S => (f φ S).bind fun w S1 => .ok (itL w) S1
def mItR1 (f : FE (List W)) : FE ItM := fun φ S => (f φ S).bind fun ws S1 => match ws with
  | [.int j] => if j.natAbs < 2 ^ 60 then .ok (fun i _ => some (if (i : Int) < j then some (.int (i : Int)) else none)) S1 else .bad
  | _ => .bad
def mItR2 (f : FE (List W)) : FE ItM := fun φ S => (f φ S).bind fun ws S1 => match ws with
  | [.int a, .int j] => if a.natAbs < 2 ^ 60 ∧ j.natAbs < 2 ^ 60 then .ok (fun i _ => some (if a + (i : Int) < j then some (.int (a + (i : Int))) else none)) S1 else .bad
  | _ => .bad
theorem jok_list {K : PySem.W.Frag} {ρ : List Addr} {H : Hp} {a : Addr} {w : W} (r : RW K ρ H (.ref a) w) (h : ∀ l, w ≠ .tup l) : JOk K ρ H (Itl K a) (itL w) := fun i ρ' H' S' e s' => by
  unfold itL
  cases g : asQ S' w with
  | none => trivial
  | some p =>
    obtain ⟨b, l⟩ := p
    obtain ⟨a', vs, e1, hq, rs⟩ := asQ_of s' (r.mono e) g
    cases e1
    have hb : b = false := by
      cases w with
      | tup l' => exact absurd rfl (h l')
      | non => simp [asQ, asL] at g
      | bl _ => simp [asQ, asL] at g
      | int _ => simp [asQ, asL] at g
      | str _ => simp [asQ, asL] at g
      | ref n =>
        unfold asQ at g
        obtain ⟨_, _, z⟩ := Option.map_eq_some_iff.mp g
        cases z; rfl
      | cl l' =>
        unfold asQ at g
        obtain ⟨_, _, z⟩ := Option.map_eq_some_iff.mp g
        cases z; rfl
      | fn _ => simp [asQ, asL] at g
      | tuw _ => simp [asQ, asL] at g
    subst hb
    rw [if_neg (by decide)] at hq
    cases hl : l[i]? with
    | none =>
      show (match (some (l[i]?) : Option (Option W)) with | none => True | some none => (Itl K a).stop i H' | some (some w) => _)
      rw [hl]
      exact ⟨vs, hq, by rw [rs.length]; exact List.getElem?_eq_none_iff.mp hl⟩
    | some z =>
      show (match (some (l[i]?) : Option (Option W)) with | none => True | some none => _ | some (some w) => (Itl K a).go i H' ∧ ∀ x H'', (Itl K a).yld i H' x H'' → Ext ρ' H' ρ' H'' ∧ RW K ρ' H'' x w ∧ SW K ρ' H'' S')
      rw [hl]
      obtain ⟨v, hv, rv⟩ := rs.get' hl
      refine ⟨⟨vs, v, hq, hv⟩, fun x H'' y => ?_⟩
      obtain ⟨e2, y2⟩ := y
      subst e2
      have ex := y2 vs hq
      rw [hv] at ex
      cases ex
      exact ⟨Ext.refl _ _, rv, s'⟩
theorem jok_tup {K : PySem.W.Frag} {ρ : List Addr} {H : Hp} {a : Addr} {l : List W} (r : RW K ρ H (.ref a) (.tup l)) : JOk K ρ H (Itt K a) (itL (.tup l)) := fun i ρ' H' S' e s' => by
  obtain ⟨a', vs, e1, hq, rs⟩ := asT_of (r.mono e)
  cases e1
  cases hl : l[i]? with
  | none =>
    show (match (some (l[i]?) : Option (Option W)) with | none => True | some none => (Itt K a).stop i H' | some (some w) => _)
    rw [hl]
    exact ⟨vs, hq, by rw [rs.length]; exact List.getElem?_eq_none_iff.mp hl⟩
  | some z =>
    show (match (some (l[i]?) : Option (Option W)) with | none => True | some none => _ | some (some w) => (Itt K a).go i H' ∧ ∀ x H'', (Itt K a).yld i H' x H'' → Ext ρ' H' ρ' H'' ∧ RW K ρ' H'' x w ∧ SW K ρ' H'' S')
    rw [hl]
    obtain ⟨v, hv, rv⟩ := rs.get' hl
    refine ⟨⟨vs, v, hq, hv⟩, fun x H'' y => ?_⟩
    obtain ⟨e2, y2⟩ := y
    subst e2
    have ex := y2 vs hq
    rw [hv] at ex
    cases ex
    exact ⟨Ext.refl _ _, rv, s'⟩
/-- a list or a tuple, whichever comes -/
def iSeq (K : PySem.W.Frag) (tl : TE) : TI := fun σ H R => tl σ H fun x H1 => ∃ a, x = .ref a ∧ (((∃ xs, SqL K H1 a xs) ∧ R (Itl K a) H1) ∨ ((∃ xs, SqT K H1 a xs) ∧ R (Itt K a) H1))
theorem pi_seq {l : Expr} {tl : TE} (hl : PE X l tl) : PI X tg l (iSeq X.K tl) := by
  refine ⟨fun pins s σ H R I h => ?_⟩
  refine thn (hl.run pins s σ H _ I h) fun v s1 ⟨x, H1, I1, r1, q1⟩ => ?_
  obtain ⟨a, e, q1⟩ := q1
  subst e
  cases r1
  rcases q1 with ⟨⟨xs, hq⟩, q⟩ | ⟨⟨xs, hq⟩, q⟩
  · obtain ⟨its, rv, p, hz⟩ := I1.list hq
    refine wpAny_pyIter_list p.isList ?_
    refine ⟨s1.heap.objs.size, [s1.heap.objs.size], _, _, H1, rfl, I1.kept (t' := s1.toks) fun b o e => Heap.get?_push_of_some _ e, turn_list a _, ⟨_, Heap.get?_push_size _ rfl, rfl, rfl⟩, fun b hb => ?_, q⟩
    have e : b = s1.heap.objs.size := by simpa using hb
    subst e
    exact I1.fpOk (Nat.le_refl _) (I1.hok.fresh (Nat.le_refl _))
  · obtain ⟨its, rv, p, hz⟩ := I1.tuple hq
    refine wpAny_pyIter_tuple (show s1.heap.IsTuple a its.toArray from p) ?_
    refine ⟨s1.heap.objs.size, [s1.heap.objs.size], _, _, H1, rfl, I1.kept (t' := s1.toks) fun b o e => Heap.get?_push_of_some _ e, turn_tuple a _, ⟨_, Heap.get?_push_size _ rfl, rfl, rfl⟩, fun b hb => ?_, q⟩
    have e : b = s1.heap.objs.size := by simpa using hb
    subst e
    exact I1.fpOk (Nat.le_refl _) (I1.hok.fresh (Nat.le_refl _))
/-- .. of a value that is one: mIt tells nothing of others -/
def mItQ (f : FE W) : FE ItM := fun φ S => (f φ S).bind fun w S1 => match asQ S1 w with
  | some _ => .ok (itL w) S1
  | none => .bad
theorem si_seq {l : Expr} {f : FE W} (hl : SE X Wx l f) : SI X Wx tg l (mItQ f) := weakI (pi_seq hl) fun σ H R ⟨ρ, φ, S, F, s, q⟩ =>
  into F s q fun w S1 v ρ1 H1 e1 r1 s1 F1 q1 => by
    cases g : asQ S1 w with
    | none => rw [g] at q1; exact q1.elim
    | some p =>
      rw [g] at q1
      obtain ⟨b, l⟩ := p
      obtain ⟨a, vs, rfl, hq, rs⟩ := asQ_of s1 r1 g
      refine ⟨a, rfl, ?_⟩
      cases b with
      | true =>
        rw [if_pos rfl] at hq
        have e : w = .tup l := by
          cases w with
          | tup l' => cases g; rfl
          | non => simp [asQ, asL] at g
          | bl _ => simp [asQ, asL] at g
          | int _ => simp [asQ, asL] at g
          | str _ => simp [asQ, asL] at g
          | ref n =>
            unfold asQ at g
            obtain ⟨_, _, z⟩ := Option.map_eq_some_iff.mp g
            cases z
          | cl l' =>
            unfold asQ at g
            obtain ⟨_, _, z⟩ := Option.map_eq_some_iff.mp g
            cases z
          | fn _ => simp [asQ, asL] at g
          | tuw _ => simp [asQ, asL] at g
        subst e
        exact .inr ⟨⟨vs, hq⟩, q1 _ ρ1 H1 (Ext.refl _ _) (jok_tup r1) s1⟩
      | false =>
        rw [if_neg (by decide)] at hq
        refine .inl ⟨⟨vs, hq⟩, q1 _ ρ1 H1 (Ext.refl _ _) (jok_list r1 fun l' z => ?_) s1⟩
        subst z
        cases g
theorem jok_range {K : PySem.W.Frag} {ρ : List Addr} {H : Hp} {lo j : Int} : JOk K ρ H (Itr lo (j - lo).toNat) (fun i _ => some (if lo + (i : Int) < j then some (.int (lo + (i : Int))) else none)) := fun i ρ' H' S' e s' => by
  by_cases h : lo + (i : Int) < j
  · show (match (some (if lo + (i : Int) < j then some (W.int (lo + (i : Int))) else none) : Option (Option W)) with | none => True | some none => _ | some (some w) => (Itr lo (j - lo).toNat).go i H' ∧ ∀ x H'', (Itr lo (j - lo).toNat).yld i H' x H'' → Ext ρ' H' ρ' H'' ∧ RW K ρ' H'' x w ∧ SW K ρ' H'' S')
    rw [if_pos h]
    refine ⟨show i < (j - lo).toNat by omega, fun x H'' y => ?_⟩
    obtain ⟨e1, e2⟩ := y
    subst e1 e2
    exact ⟨Ext.refl _ _, .int _, s'⟩
  · show (match (some (if lo + (i : Int) < j then some (W.int (lo + (i : Int))) else none) : Option (Option W)) with | none => True | some none => (Itr lo (j - lo).toNat).stop i H' | some (some w) => _)
    rw [if_neg h]
    exact show (j - lo).toNat ≤ i by omega
theorem si_range1 {a : Expr} {fr : FE (List W)} {p pos : Pos} (hm : X.mg "range" = none) (ha : SA X Wx [a] fr) (hg : Gl X "range" := by rfl) (hs : starEach [a] X.env = [(false, eval a X.env)] := by rfl) : SI X Wx tg (.Call (.Name "range" p) [a] [] pos) (mItR1 fr) := weakI (pi_range1 hg hm ha hs) fun σ H R ⟨ρ, φ, S, F, s, q⟩ =>
  into F s q fun ws S1 vs ρ1 H1 e1 r1 s1 F1 q1 => by
    cases r1 with
    | nil => exact q1.elim
    | cons a1 t1 =>
      cases t1 with
      | cons _ _ => split at q1 <;> first | exact q1.elim | (rename_i z; cases z)
      | nil =>
        cases a1 with
        | int j =>
          dsimp only at q1
          split at q1
          · rename_i hj
            refine ⟨j, rfl, by omega, by omega, q1 _ ρ1 H1 (Ext.refl _ _) ?_ s1⟩
            have e := jok_range (K := X.K) (ρ := ρ1) (H := H1) (lo := 0) (j := j)
            simpa using e
          · exact q1.elim
        | _ => exact q1.elim
theorem si_range2 {a b : Expr} {fr : FE (List W)} {p pos : Pos} (hm : X.mg "range" = none) (ha : SA X Wx [a, b] fr) (hg : Gl X "range" := by rfl) (hs : starEach [a, b] X.env = [(false, eval a X.env), (false, eval b X.env)] := by rfl) (hs2 : starEach [b] X.env = [(false, eval b X.env)] := by rfl) :
    SI X Wx tg (.Call (.Name "range" p) [a, b] [] pos) (mItR2 fr) := weakI (pi_range2 hg hm ha hs hs2) fun σ H R ⟨ρ, φ, S, F, s, q⟩ =>
  into F s q fun ws S1 vs ρ1 H1 e1 r1 s1 F1 q1 => by
    cases r1 with
    | nil => exact q1.elim
    | cons a1 t1 =>
      cases t1 with
      | nil => split at q1 <;> first | exact q1.elim | (rename_i z; cases z)
      | cons a2 t2 =>
        cases t2 with
        | cons _ _ => split at q1 <;> first | exact q1.elim | (rename_i z; cases z)
        | nil =>
          split at q1
          · rename_i a j z
            cases z
            cases a1; cases a2
            split at q1
            · rename_i hj
              exact ⟨a, j, rfl, ⟨by omega, by omega, by omega, by omega⟩, q1 _ ρ1 H1 (Ext.refl _ _) jok_range s1⟩
            · exact q1.elim
          · exact q1.elim
end
end Wm

set_option Elab.async false
set_option linter.all false
set_option maxRecDepth 100000
set_option maxHeartbeats 2000000
namespace Wm
open PySem PySem.Spec PyProof.Rows L2

/-- where a piece of text stands: a def's body, or a block within -/
structure Cn (X : Cx) (Wx : WX) (k : Nat) : Prop where
  calm : X.calm = true
  nd : X.N.Nodup
  tk : L2N.Takes X Wx
  hr : Room k X.A
  hp : PassesOwn (model X.prog X.w) X.A X.env X.xe
abbrev W0 : WX := fun _ _ _ _ => False
theorem takesN0 {X : Cx} : L2N.Takes X W0 := fun _ _ ⟨_, _, _, _, _, _, _, _, _, _, _, _, _, _, _, _, z⟩ => z.elim
theorem Cn.blk {X : Cx} {Wx : WX} {k : Nat} (c : Cn X Wx k) (s : Shared) (H : Hp) (scope : Scope) (cenv : Env) (fp : List Addr) : Cn (X.blk s H scope cenv fp) W0 k :=
  ⟨c.calm, c.nd, takesN0, c.hr, PassesOwn.never⟩
theorem Cn.hu {X : Cx} {Wx : WX} {k : Nat} (c : Cn X Wx k) : X.A.units + 1 < cLine := hu_of c.hr
theorem Cn.u64 {X : Cx} {Wx : WX} {k : Nat} (c : Cn X Wx k) : X.A.units + 64 < cLine := c.hr.units

/-! ### defs and their calls -/
abbrev FM := List W → Sto → Out W
def chk (n : Nat) (m : FM) : FM := fun ws S => if ws.length = n then m ws S else .bad
def spM (K : PySem.W.Frag) (n : Nat) (m : FM) : Sp := fun vs H Q E => ∃ ρ ws S, RWs K ρ H vs ws ∧ SW K ρ H S ∧ OutR K (RW K) ρ H Q E (chk n m ws S)
theorem spM_len {K : PySem.W.Frag} {n : Nat} {m : FM} {vs : List V} {H : Hp} {Q : VK} {E : XK} (h : spM K n m vs H Q E) : vs.length = n := by
  obtain ⟨ρ, ws, S, r, _, q⟩ := h
  unfold chk at q
  split at q
  · rw [r.length]; assumption
  · exact q.elim
/-- the def x (of n parameters) does what m tells -/
def Fn (P : Program) (w : World) (K : PySem.W.Frag) (mg : Str → Option Value) (base : Heap) (k : Nat) (x : Str) (n : Nat) (m : FM) : Prop :=
  ∃ f fd ps, mg x = some (.ref f) ∧ PySem.W.keepIn K (.ref f) = true ∧ Binds K fd ps [] ∧ ps.length = n ∧ FnOk P w K mg base (L2N.CX P w) k f fd ps (spM K n m)
theorem Fn.mono {P : Program} {w : World} {K : PySem.W.Frag} {mg : Str → Option Value} {base : Heap} {j k : Nat} {x : Str} {n : Nat} {m : FM} (F : Fn P w K mg base j x n m) (h : j ≤ k) : Fn P w K mg base k x n m := by
  obtain ⟨f, fd, ps, h1, h2, h3, h4, h5⟩ := F
  exact ⟨f, fd, ps, h1, h2, h3, h4, h5.mono h⟩
def mCall (n : Nat) (m : FM) (fr : FE (List W)) : FE W := fun φ S => (fr φ S).bind (chk n m)
def mFn (r : Nat) (body : SM) : FM := fun ws S => match body (ws.map some ++ List.replicate r none) S with
  | .rt w S' => .ok w S'
  | .nx _ S' => .ok .non S'
  | .ex x _ S' => .ex x S'
  | _ => .bad
section
variable {X : Cx} {Wx : WX} {e : Expr} {es : List Expr} {pos p : Pos} {fr : FE (List W)} {k j n : Nat} {m : FM}
theorem se_call {x : Str} (c : Cn X Wx k) (F : Fn X.prog X.w X.K X.mg X.base j x n m) (hj : j ≤ k) (ha : SA X Wx (e :: es) fr) (hg : Gl X x := by rfl) (hdb : (x == ("__debug__" : Str)) = false := by decide)
    (he : starEach (e :: es) X.env = (false, eval e X.env) :: starEach es X.env := by rfl) (hpl : (backTo pos (starEach es X.env)).any (·.1) = false := by rfl) :
    SE X Wx (.Call (.Name x p) (e :: es) [] pos) (mCall n m fr) := by
  obtain ⟨f, fd, ps, h1, h2, h3, h4, h5⟩ := F
  refine weakE (pe_callSD (dvs := []) (ds := []) (E := WE Wx) h5 (c.hr.mono hj) hg h1 h2 h3 .nil (fun σ => L2N.passAt c.tk σ) ha hdb he hpl) fun σ H Q ⟨ρ, φ, S, F, s, q⟩ => ?_
  refine into F s q fun ws S1 vs ρ1 H1 e1 r1 s1 F1 q1 => ?_
  exact ⟨ρ1, ws, S1, by rw [List.append_nil]; exact r1, s1, q1⟩
end
/-- a def of the text by its body, its code known -/
theorem fnok_core {P : Program} {w : World} {K : PySem.W.Frag} {mg : Str → Option Value} {base : Heap} {x qual : Str} {st : Stmt} {f : Addr} {N ps : List Str} {k n r : Nat} {body : SM} {oc kV doc pm cdv ct : Value} {od an : Option Addr} {osl : Array (Option Value)}
    (lk : K.lookup f = some ⟨oc, od, .func (PySem.W.fnOf x qual (defArgs st) (defBody st) (defScope st) .none kV doc pm an cdv ct), osl⟩) (hcd : PySem.W.codeIn K cdv qual = true)
    (S : FnScope N ps (defScope st)) (hn : ps.length = n) (hr : N.length = n + r)
    (hb : ∀ (A : Around) (outer : List Env) (s : Shared) (H : Hp) (E : XK), Cn (cxOf (L2N.CX P w) P w K mg base N qual (defScope st) f cdv A outer s H E) (fun cls d _ H => E cls d H) k →
      SSs (cxOf (L2N.CX P w) P w K mg base N qual (defScope st) f cdv A outer s H E) (fun cls d _ H => E cls d H) (defBody st) body) : FnOk P w K mg base (L2N.CX P w) (k + 1) f (PySem.W.fnOf x qual (defArgs st) (defBody st) (defScope st) .none kV doc pm an cdv ct) ps (spM K n (mFn r body)) := by
  refine fn_of lk hcd S (fun vs H Q E h => (spM_len h).trans hn.symm) fun A outer s H vs Q E hroom h => ?_
  refine ⟨_, hb A outer s H E ⟨rfl, S.nd, L2N.takes_of rfl rfl rfl rfl, hroom, passes_of rfl⟩, ?_⟩
  have hl := spM_len h
  obtain ⟨ρ, ws, S0, rs, ss, q⟩ := h
  have hw : ws.length = n := by rw [← rs.length]; exact hl
  unfold chk at q
  rw [if_pos hw] at q
  unfold mFn at q
  refine ⟨ρ, ws.map some ++ List.replicate r none, S0, ⟨?_, fun i w' g => ?_⟩, ss, ?_⟩
  · unfold L2.start
    rw [List.length_append, List.length_append, List.length_map, List.length_map, List.length_replicate, List.length_replicate, rs.length]
    omega
  · have hi : i < ws.length := by
      by_cases hi : i < ws.length
      · exact hi
      · exfalso
        rw [List.getElem?_append_right (by rw [List.length_map]; omega)] at g
        have := List.mem_of_getElem? g
        rw [List.mem_replicate] at this
        cases this.2
    rw [List.getElem?_append_left (by rw [List.length_map]; exact hi), List.getElem?_map] at g
    obtain ⟨w2, g2, e2⟩ := Option.map_eq_some_iff.mp g
    cases e2
    obtain ⟨v, hv, rv⟩ := rs.get' g2
    refine ⟨v, ?_, rv⟩
    unfold L2.start
    rw [List.getElem?_append_left (by rw [List.length_map, rs.length]; exact hi), List.getElem?_map, hv]
    rfl
  · cases o : body (ws.map some ++ List.replicate r none) S0 with
    | nx φ' S' =>
      rw [o] at q
      exact fun ρ' σ' H' e' F' s' => q _ ρ' H' e' .non s'
    | rt w' S' => rw [o] at q; exact q
    | ex x φ' S' =>
      rw [o] at q
      exact fun cls d ρ' σ' H' e' F' xr s' => q cls d ρ' H' e' xr s'
    | bk φ' S' => rw [o] at q; exact q.elim
    | ct φ' S' => rw [o] at q; exact q.elim
    | bad => rw [o] at q; exact q.elim
/-- a def of the text by its body -/
theorem fnok_mk {P : Program} {w : World} {K : PySem.W.Frag} {mg : Str → Option Value} {base : Heap} {x qual : Str} {st : Stmt} {f : Addr} {fd : FuncData} {N ps : List Str} {k n r : Nat} {body : SM} (F : Fun K x qual st f fd)
    (S : FnScope N ps (defScope st)) (hn : ps.length = n) (hr : N.length = n + r)
    (hb : ∀ (cdv : Value) (A : Around) (outer : List Env) (s : Shared) (H : Hp) (E : XK), Cn (cxOf (L2N.CX P w) P w K mg base N qual (defScope st) f cdv A outer s H E) (fun cls d _ H => E cls d H) k →
      SSs (cxOf (L2N.CX P w) P w K mg base N qual (defScope st) f cdv A outer s H E) (fun cls d _ H => E cls d H) (defBody st) body) : FnOk P w K mg base (L2N.CX P w) (k + 1) f fd ps (spM K n (mFn r body)) := by
  obtain ⟨oc, od, kV, doc, pm, an, cdv, ct, osl, rfl, lk, hcd⟩ := F.ex
  exact fnok_core lk hcd S hn hr fun A outer s H E c => hb cdv A outer s H E c
/-- a def whose code object is known -/
structure FunL (K : PySem.W.Frag) (x qual : Str) (st : Stmt) (f : Addr) (fd : FuncData) (cc : Addr) : Prop where
  ex : ∃ (oc : Value) (od : Option Addr) (kV doc pm : Value) (an : Option Addr) (ct : Value) (osl : Array (Option Value)),
    fd = PySem.W.fnOf x qual (defArgs st) (defBody st) (defScope st) .none kV doc pm an (.ref cc) ct ∧ K.lookup f = some ⟨oc, od, .func fd, osl⟩ ∧ PySem.W.codeIn K (.ref cc) qual = true
  kp : PySem.W.keepIn K (.ref f) = true
theorem FunL.fun {K : PySem.W.Frag} {x qual : Str} {st : Stmt} {f : Addr} {fd : FuncData} {cc : Addr} (F : FunL K x qual st f fd cc) : Fun K x qual st f fd := by
  obtain ⟨oc, od, kV, doc, pm, an, ct, osl, e, lk, hcd⟩ := F.ex
  exact ⟨⟨oc, od, kV, doc, pm, an, .ref cc, ct, osl, e, lk, hcd⟩, F.kp⟩
theorem fnok_mkL {P : Program} {w : World} {K : PySem.W.Frag} {mg : Str → Option Value} {base : Heap} {x qual : Str} {st : Stmt} {f cc : Addr} {fd : FuncData} {N ps : List Str} {k n r : Nat} {body : SM} (F : FunL K x qual st f fd cc)
    (S : FnScope N ps (defScope st)) (hn : ps.length = n) (hr : N.length = n + r)
    (hb : ∀ (A : Around) (outer : List Env) (s : Shared) (H : Hp) (E : XK), Cn (cxOf (L2N.CX P w) P w K mg base N qual (defScope st) f (.ref cc) A outer s H E) (fun cls d _ H => E cls d H) k →
      SSs (cxOf (L2N.CX P w) P w K mg base N qual (defScope st) f (.ref cc) A outer s H E) (fun cls d _ H => E cls d H) (defBody st) body) : FnOk P w K mg base (L2N.CX P w) (k + 1) f fd ps (spM K n (mFn r body)) := by
  obtain ⟨oc, od, kV, doc, pm, an, ct, osl, rfl, lk, hcd⟩ := F.ex
  exact fnok_core lk hcd S hn hr fun A outer s H E c => hb A outer s H E c
theorem fn_mk {P : Program} {w : World} {K : PySem.W.Frag} {mg : Str → Option Value} {base : Heap} {x qual : Str} {st : Stmt} {f : Addr} {fd : FuncData} {N ps : List Str} {k n r : Nat} {body : SM} (F : Fun K x qual st f fd) (hmg : mg x = some (.ref f)) (b : Binds K fd ps [])
    (S : FnScope N ps (defScope st)) (hn : ps.length = n) (hr : N.length = n + r)
    (hb : ∀ (cdv : Value) (A : Around) (outer : List Env) (s : Shared) (H : Hp) (E : XK), Cn (cxOf (L2N.CX P w) P w K mg base N qual (defScope st) f cdv A outer s H E) (fun cls d _ H => E cls d H) k →
      SSs (cxOf (L2N.CX P w) P w K mg base N qual (defScope st) f cdv A outer s H E) (fun cls d _ H => E cls d H) (defBody st) body) : Fn P w K mg base (k + 1) x n (mFn r body) :=
  ⟨f, fd, ps, hmg, F.kp, b, hn, fnok_mk F S hn hr hb⟩
theorem fn_mkL {P : Program} {w : World} {K : PySem.W.Frag} {mg : Str → Option Value} {base : Heap} {x qual : Str} {st : Stmt} {f cc : Addr} {fd : FuncData} {N ps : List Str} {k n r : Nat} {body : SM} (F : FunL K x qual st f fd cc) (hmg : mg x = some (.ref f)) (b : Binds K fd ps [])
    (S : FnScope N ps (defScope st)) (hn : ps.length = n) (hr : N.length = n + r)
    (hb : ∀ (A : Around) (outer : List Env) (s : Shared) (H : Hp) (E : XK), Cn (cxOf (L2N.CX P w) P w K mg base N qual (defScope st) f (.ref cc) A outer s H E) (fun cls d _ H => E cls d H) k →
      SSs (cxOf (L2N.CX P w) P w K mg base N qual (defScope st) f (.ref cc) A outer s H E) (fun cls d _ H => E cls d H) (defBody st) body) : Fn P w K mg base (k + 1) x n (mFn r body) :=
  ⟨f, fd, ps, hmg, F.kp, b, hn, fnok_mkL F S hn hr hb⟩
/-- nothing is promised -/
theorem fn_bad {P : Program} {w : World} {K : PySem.W.Frag} {mg : Str → Option Value} {base : Heap} {x : Str} {f : Addr} {fd : FuncData} {ps : List Str} {k n : Nat} (hmg : mg x = some (.ref f)) (hk : PySem.W.keepIn K (.ref f) = true) (b : Binds K fd ps []) (hn : ps.length = n) :
    Fn P w K mg base k x n (fun _ _ => .bad) :=
  ⟨f, fd, ps, hmg, hk, b, hn, ⟨fun vs H Q E h => (spM_len h).trans hn.symm, fun A outer s H args us vs Q E hr e0 hb hv ⟨ρ, ws, S, _, _, q⟩ => by
    unfold chk at q
    split at q <;> exact q.elim⟩⟩

/-! ### built-ins by values -/
abbrev COp := List W → Sto → Option (W × Sto)
def rcOf (K : PySem.W.Frag) (op : COp) : List V → Hp → VK → Prop := fun vs H Q => ∃ ρ S ws, SW K ρ H S ∧ RWs K ρ H vs ws ∧ PosR K ρ H Q (op ws S)
abbrev CallW (X : Cx) (f : Value) (op : COp) : Prop := CallR X f (rcOf X.K op)
def mCB (op : COp) (fr : FE (List W)) : FE W := fun φ S => (fr φ S).bind fun ws S1 => ofO (op ws S1)
def orC (o1 o2 : COp) : COp := fun ws S => match o1 ws S with
  | some p => some p
  | none => o2 ws S
section
variable {X : Cx} {Wx : WX} {e : Expr} {es : List Expr} {pos p : Pos} {fr : FE (List W)}
theorem cw {f : Value} {r : List V → Hp → VK → Prop} {op : COp} (h : CallR X f r) (w : ∀ ρ H S vs ws Q, SW X.K ρ H S → RWs X.K ρ H vs ws → PosR X.K ρ H Q (op ws S) → r vs H Q) : CallW X f op :=
  fun pins s σ H xs us Q I rs ⟨ρ, S, ws, s1, r1, q⟩ => h pins s σ H xs us Q I rs (w ρ H S xs ws Q s1 r1 q)
theorem cw_or {f : Value} {o1 o2 : COp} (h1 : CallW X f o1) (h2 : CallW X f o2) : CallW X f (orC o1 o2) := fun pins s σ H xs us Q I rs ⟨ρ, S, ws, s1, r1, q⟩ => by
  unfold orC at q
  cases g : o1 ws S with
  | some p => rw [g] at q; exact h1 pins s σ H xs us Q I rs ⟨ρ, S, ws, s1, r1, by rw [g]; exact q⟩
  | none => rw [g] at q; exact h2 pins s σ H xs us Q I rs ⟨ρ, S, ws, s1, r1, q⟩
theorem cb_of {op : COp} : ∀ σ H Q, tI X.K (RW X.K) Wx (mCB op fr) σ H Q → tCB (rcOf X.K op) (tI X.K (RWs X.K) Wx fr) σ H Q := fun σ H Q ⟨ρ, φ, S, F, s, q⟩ =>
  into F s q fun ws S1 vs ρ1 H1 e1 r1 s1 F1 q1 => ⟨ρ1, S1, ws, s1, r1, PosR.of q1⟩
theorem se_cb {x : Str} {id : String} {op : COp} (hc : CallW X (.builtin id) op) (hm : X.mg x = none) (hv : bootBuiltins x = some (.builtin id)) (ha : SA X Wx (e :: es) fr) (hg : Gl X x := by rfl) (hn : x ≠ "__name__" := by decide) (hdb : (x == ("__debug__" : Str)) = false := by decide)
    (he : starEach (e :: es) X.env = (false, eval e X.env) :: starEach es X.env := by rfl) (hpl : (backTo pos (starEach es X.env)).any (·.1) = false := by rfl) : SE X Wx (.Call (.Name x p) (e :: es) [] pos) (mCB op fr) :=
  weakE (pe_callB hc hg hm hv ha hn hdb he hpl) cb_of
theorem se_cty {x : Str} {T : String} {op : COp} (hc : CallW X (.type T) op) (hm : X.mg x = none) (hv : bootBuiltins x = some (.type T)) (ha : SA X Wx (e :: es) fr) (hg : Gl X x := by rfl) (hn : x ≠ "__name__" := by decide) (hdb : (x == ("__debug__" : Str)) = false := by decide)
    (he : starEach (e :: es) X.env = (false, eval e X.env) :: starEach es X.env := by rfl) (hpl : (backTo pos (starEach es X.env)).any (·.1) = false := by rfl) : SE X Wx (.Call (.Name x p) (e :: es) [] pos) (mCB op fr) :=
  weakE (pe_callTy hc hg hm hv ha hn hdb he hpl) cb_of
end
/-! the values of a list -/
def intsOf : List W → Option (List Int)
  | [] => some []
  | .int i :: r => (intsOf r).map (i :: ·)
  | _ :: _ => none
def blsOf : List W → Option (List Bool)
  | [] => some []
  | .bl b :: r => (blsOf r).map (b :: ·)
  | _ :: _ => none
section
variable {K : PySem.W.Frag} {ρ : List Addr} {H : Hp} {S : Sto} {x y : V} {w : W}
theorem RWs.ints : ∀ {vs : List V} {ws : List W} {ns : List Int}, RWs K ρ H vs ws → intsOf ws = some ns → vs = ns.map V.int
  | _, _, _, .nil, h => by cases h; rfl
  | _, _, _, .cons r t, h => by
    cases r <;> simp only [intsOf] at h
    case int =>
      obtain ⟨ms, h1, rfl⟩ := Option.map_eq_some_iff.mp h
      rw [RWs.ints t h1]; rfl
    all_goals cases h
theorem RWs.bls : ∀ {vs : List V} {ws : List W} {ns : List Bool}, RWs K ρ H vs ws → blsOf ws = some ns → vs = ns.map V.bl
  | _, _, _, .nil, h => by cases h; rfl
  | _, _, _, .cons r t, h => by
    cases r <;> simp only [blsOf] at h
    case bl =>
      obtain ⟨ms, h1, rfl⟩ := Option.map_eq_some_iff.mp h
      rw [RWs.bls t h1]; rfl
    all_goals cases h
theorem intsOf_map (ns : List Int) : intsOf (ns.map W.int) = some ns := by
  induction ns with
  | nil => rfl
  | cons a r ih => rw [List.map_cons, intsOf, ih]; rfl
theorem blsOf_map (ns : List Bool) : blsOf (ns.map W.bl) = some ns := by
  induction ns with
  | nil => rfl
  | cons a r ih => rw [List.map_cons, blsOf, ih]; rfl
theorem RWs.of1 {vs : List V} {w : W} (r : RWs K ρ H vs [w]) : ∃ v, vs = [v] ∧ RW K ρ H v w := by
  cases r with
  | cons r1 r2 => cases r2; exact ⟨_, rfl, r1⟩
theorem RWs.of2 {vs : List V} {w w' : W} (r : RWs K ρ H vs [w, w']) : ∃ v v', vs = [v, v'] ∧ RW K ρ H v w ∧ RW K ρ H v' w' := by
  cases r with
  | cons r1 r2 =>
    obtain ⟨v', rfl, r3⟩ := r2.of1
    exact ⟨_, _, rfl, r1, r3⟩
end
/-! len, sum, all, any, min, max, int, str, list, tuple -/
def oLenQ : COp
  | [w], S => match asQ S w with
    | some (_, l) => some (.int (l.length : Nat), S)
    | none => none
  | _, _ => none
def oLenD : COp
  | [.ref n], S => match S[n]? with
    | some (.dic kvs) => some (.int (kvs.length : Nat), S)
    | _ => none
  | _, _ => none
def oLen : COp := orC oLenQ oLenD
def oSum : COp
  | [w], S => match asL S w with
    | some l => match intsOf l with
      | some ns => some (.int ns.sum, S)
      | none => none
    | none => none
  | _, _ => none
def oAll : COp
  | [w], S => match asL S w with
    | some l => match blsOf l with
      | some bs => some (.bl (bs.all id), S)
      | none => none
    | none => none
  | _, _ => none
def oAny : COp
  | [w], S => match asL S w with
    | some l => match blsOf l with
      | some bs => some (.bl (bs.any id), S)
      | none => none
    | none => none
  | _, _ => none
def oMin2 : COp
  | [.int i, .int j], S => some (.int (if j < i then j else i), S)
  | _, _ => none
def oMax2 : COp
  | [.int i, .int j], S => some (.int (if j > i then j else i), S)
  | _, _ => none
def oInt1 : COp
  | [.int i], S => some (.int i, S)
  | [.bl k], S => some (.int (if k then 1 else 0), S)
  | _, _ => none
def oStrI : COp
  | [.int i], S => if i.natAbs.log2 < 1920 then some (.str (toString i), S) else none
  | _, _ => none
def oTuple : COp
  | [w], S => match asQ S w with
    | some (_, l) => tupO l S
    | none => none
  | _, _ => none
def oList : COp
  | [w], S => match asQ S w with
    | some (_, l) => lstO l S
    | none => none
  | _, _ => none
section
variable {X : Cx}
theorem cw_lenQ : CallW X (.builtin "len") oLenQ := cw call_len_seq fun ρ H S vs ws Q s r q => by
  unfold oLenQ at q
  split at q
  · split at q
    · rename_i b l h
      obtain ⟨v, rfl, r1⟩ := r.of1
      obtain ⟨a, xs, rfl, hq, rs⟩ := asQ_of s r1 h
      refine ⟨a, xs, rfl, ?_, ?_⟩
      · cases b with
        | true => rw [if_pos rfl] at hq; exact .inr hq
        | false => rw [if_neg (by decide)] at hq; exact .inl hq
      · rw [rs.length]; exact q _ ρ H (Ext.refl _ _) (.int _) s
    · exact q.elim
  · exact q.elim
theorem cw_lenD : CallW X (.builtin "len") oLenD := cw call_lenD fun ρ H S vs ws Q s r q => by
  unfold oLenD at q
  split at q
  · rename_i n
    split at q
    · rename_i kvs h
      obtain ⟨v, rfl, r1⟩ := r.of1
      cases r1 with
      | ref e =>
        rename_i a
        obtain ⟨ks, e1, r2⟩ := s.ob n a _ e h
        refine ⟨a, ks, rfl, e1, ?_⟩
        rw [Paired.length r2]
        exact q _ ρ H (Ext.refl _ _) (.int _) s
    · exact q.elim
  · exact q.elim
theorem cw_len : CallW X (.builtin "len") oLen := cw_or cw_lenQ cw_lenD
theorem cw_sum (hc : X.calm = true) : CallW X (.builtin "sum") oSum := cw (cr_sum hc) fun ρ H S vs ws Q s r q => by
  unfold oSum at q
  split at q
  · split at q
    · rename_i l h
      split at q
      · rename_i ns hn
        obtain ⟨v, rfl, r1⟩ := r.of1
        obtain ⟨a, xs, rfl, hq, rs⟩ := asL_of s r1 h
        have e := rs.ints hn
        subst e
        exact ⟨a, ns, rfl, hq, q _ ρ H (Ext.refl _ _) (.int _) s⟩
      · exact q.elim
    · exact q.elim
  · exact q.elim
theorem cw_all (hc : X.calm = true) : CallW X (.builtin "all") oAll := cw (cr_all hc) fun ρ H S vs ws Q s r q => by
  unfold oAll at q
  split at q
  · split at q
    · rename_i l h
      split at q
      · rename_i ns hn
        obtain ⟨v, rfl, r1⟩ := r.of1
        obtain ⟨a, xs, rfl, hq, rs⟩ := asL_of s r1 h
        have e := rs.bls hn
        subst e
        exact ⟨a, ns, rfl, hq, q _ ρ H (Ext.refl _ _) (.bl _) s⟩
      · exact q.elim
    · exact q.elim
  · exact q.elim
theorem cw_any (hc : X.calm = true) : CallW X (.builtin "any") oAny := cw (cr_any hc) fun ρ H S vs ws Q s r q => by
  unfold oAny at q
  split at q
  · split at q
    · rename_i l h
      split at q
      · rename_i ns hn
        obtain ⟨v, rfl, r1⟩ := r.of1
        obtain ⟨a, xs, rfl, hq, rs⟩ := asL_of s r1 h
        have e := rs.bls hn
        subst e
        exact ⟨a, ns, rfl, hq, q _ ρ H (Ext.refl _ _) (.bl _) s⟩
      · exact q.elim
    · exact q.elim
  · exact q.elim
theorem cw_min2 (hc : X.calm = true) : CallW X (.builtin "min") oMin2 := cw (call_min2 hc) fun ρ H S vs ws Q s r q => by
  unfold oMin2 at q
  split at q
  · obtain ⟨v, v', rfl, r1, r2⟩ := r.of2
    cases r1; cases r2
    exact ⟨_, _, rfl, q _ ρ H (Ext.refl _ _) (.int _) s⟩
  · exact q.elim
theorem cw_max2 (hc : X.calm = true) : CallW X (.builtin "max") oMax2 := cw (call_max2 hc) fun ρ H S vs ws Q s r q => by
  unfold oMax2 at q
  split at q
  · obtain ⟨v, v', rfl, r1, r2⟩ := r.of2
    cases r1; cases r2
    exact ⟨_, _, rfl, q _ ρ H (Ext.refl _ _) (.int _) s⟩
  · exact q.elim
theorem cw_int1 : CallW X (.type "int") oInt1 := cw call_int1 fun ρ H S vs ws Q s r q => by
  unfold oInt1 at q
  split at q
  · obtain ⟨v, rfl, r1⟩ := r.of1
    cases r1
    exact .inl ⟨_, rfl, q _ ρ H (Ext.refl _ _) (.int _) s⟩
  · obtain ⟨v, rfl, r1⟩ := r.of1
    cases r1
    exact .inr ⟨_, rfl, q _ ρ H (Ext.refl _ _) (.int _) s⟩
  · exact q.elim
theorem cw_strI : CallW X (.type "str") oStrI := cw call_str_int fun ρ H S vs ws Q s r q => by
  unfold oStrI at q
  split at q
  · split at q
    · rename_i h
      obtain ⟨v, rfl, r1⟩ := r.of1
      cases r1
      exact ⟨_, rfl, h, q _ ρ H (Ext.refl _ _) (.str _) s⟩
    · exact q.elim
  · exact q.elim
/-- tuple(x), as it is made -/
theorem call_tupF : CallR X (.type "tuple") (fun xs H Q => ∃ p ys, xs = [.ref p] ∧ ((SqL X.K H p ys ∧ ∀ l o, H l = none → o.dict = none → Q (.ref l) (upd H l (.frz o (.tup ys)))) ∨ (SqT X.K H p ys ∧ Q (.ref p) H))) := by
  intro pins s σ H xs us Q I r h
  obtain ⟨p, ys, rfl, h⟩ := h
  obtain ⟨u, rfl, rx⟩ := vals1 r
  cases rx
  rcases h with ⟨hq, q⟩ | ⟨hq, q⟩
  · obtain ⟨its, r', pl, hz⟩ := I.list hq
    have len := r'.length
    refine call_tuple_list pl.isList (fun h' kp => ?_) (by simp only [List.size_toArray] <;> omega)
    have I1 : Inv X pins σ H { s with heap := h' } := I.kept (t' := s.toks) kp
    exact ⟨.ref h'.objs.size, _, I1.laid (t' := s.toks) (o := .frz { cls := .type "tuple", data := .seq its.toArray } (.tup ys)) (fun b o e => Heap.get?_push_of_some _ e) (Nat.le_refl _)
      (show ObjOk X.prog X.w _ _ _ (.frz _ (.tup ys)) from ⟨Heap.get?_push_size _ rfl, hz, its, r', IsTup.new _ _⟩), rfl, q _ _ (I1.hok.fresh (Nat.le_refl _)) rfl⟩
  · obtain ⟨its, r', pl, hz⟩ := I.tuple hq
    exact call_tuple_same pl ⟨.ref p, H, I, rfl, q⟩
theorem cw_tuple : CallW X (.type "tuple") oTuple := cw call_tupF fun ρ H S vs ws Q s r q => by
  unfold oTuple at q
  split at q
  · split at q
    · rename_i b l h
      obtain ⟨v, rfl, r1⟩ := r.of1
      have g := h
      obtain ⟨a, xs, rfl, hq, rs⟩ := asQ_of s r1 h
      refine ⟨a, xs, rfl, ?_⟩
      cases b with
      | true =>
        rw [if_pos rfl] at hq
        refine .inr ⟨hq, ?_⟩
        have hl := tupO_len q
        unfold tupO at q
        rw [if_pos hl] at q
        refine q _ ρ H (Ext.refl _ _) ?_ s
        cases r1 with
        | tup e' d' r' => cases g; exact .tup e' d' r'
        | ref _ => simp only [asQ] at g; obtain ⟨_, _, z⟩ := Option.map_eq_some_iff.mp g; cases z
        | cl _ _ => simp only [asQ] at g; obtain ⟨_, _, z⟩ := Option.map_eq_some_iff.mp g; cases z
        | fn _ => simp [asQ, asL] at g
        | tuw _ _ => simp [asQ, asL] at g
      | false =>
        rw [if_neg (by decide)] at hq
        exact .inl ⟨hq, (tup_new s rs q).2⟩
    · exact q.elim
  · exact q.elim
theorem cw_list : CallW X (.type "list") oList := cw call_list_of fun ρ H S vs ws Q s r q => by
  unfold oList at q
  split at q
  · split at q
    · rename_i b l h
      obtain ⟨v, rfl, r1⟩ := r.of1
      obtain ⟨a, xs, rfl, hq, rs⟩ := asQ_of s r1 h
      refine ⟨a, xs, rfl, ?_, (lst_new s rs q).2⟩
      cases b with
      | true => rw [if_pos rfl] at hq; exact .inr hq
      | false => rw [if_neg (by decide)] at hq; exact .inl hq
    · exact q.elim
  · exact q.elim
end

/-! ### methods of lists -/
abbrev MOp := W → List W → Sto → Option (W × Sto)
def rmOf (K : PySem.W.Frag) (op : MOp) : V → List V → Hp → VK → Prop := fun x vs H Q => ∃ ρ S w ws, SW K ρ H S ∧ RW K ρ H x w ∧ RWs K ρ H vs ws ∧ PosR K ρ H Q (op w ws S)
abbrev MtW (X : Cx) (id : String) (op : MOp) : Prop := MtR X id (rmOf X.K op)
theorem mw {X : Cx} {id : String} {r : V → List V → Hp → VK → Prop} {op : MOp} (h : MtR X id r) (w : ∀ ρ H S x vs w ws Q, SW X.K ρ H S → RW X.K ρ H x w → RWs X.K ρ H vs ws → PosR X.K ρ H Q (op w ws S) → r x vs H Q) : MtW X id op :=
  fun pins s σ H x xs v us Q I rx rs ⟨ρ, S, w1, ws, s1, r1, r2, q⟩ => h pins s σ H x xs v us Q I rx rs (w ρ H S x xs w1 ws Q s1 r1 r2 q)
def isLst (S : Sto) : W → Bool
  | .ref n => match S[n]? with
    | some (.lst _) => true
    | _ => false
  | _ => false
def mMt (op : MOp) (fo : FE W) (fr : FE (List W)) : FE W := fun φ S => (fo φ S).bind fun w S1 => if isLst S1 w = true then (fr φ S1).bind fun ws S2 => ofO (op w ws S2) else .bad
section
variable {X : Cx} {Wx : WX} {o e : Expr} {es : List Expr} {apos cpos : Pos} {fo : FE W} {fr : FE (List W)} {name : Str} {id : String} {op : MOp}
theorem isLst_ty {K : PySem.W.Frag} {ρ : List Addr} {H : Hp} {S : Sto} {x : V} {w : W} (s : SW K ρ H S) (r : RW K ρ H x w) (h : isLst S w = true) : tyV K "list" x H := by
  cases w with
  | ref n =>
    cases r with
    | ref e' =>
      rename_i a
      simp only [isLst] at h
      split at h
      · rename_i l g
        obtain ⟨vs, e1, _⟩ := s.ob n a _ e' g
        exact .inl ⟨rfl, vs, SqL.of e1⟩
      · cases h
  | _ => cases h
theorem se_mt (slot : Slot "list" name id) (hty : typeOf (.builtin id) = pure (.type "method_descriptor")) (hm : MtW X id op) (ho : SE X Wx o fo) (ha : SA X Wx (e :: es) fr)
    (hbase : attributeBase o name X.env (eval o X.env) = eval o X.env := by rfl)
    (hfew : ((backTo cpos (starEach (e :: es) X.env)).all (fun x => !x.1) && (backToKw cpos (keywordEach [] X.env)).all (fun x => x.1.isSome)
      && decide ((e :: es).length + ([] : List Keyword).length + (if ([] : List Keyword).isEmpty then 0 else 1) < 30)) = true := by rfl)
    (hline : (apos.endLine == cpos.line) = true := by rfl) (hs : starEach (e :: es) X.env = (false, eval e X.env) :: starEach es X.env := by rfl) (hplain : (backTo cpos (starEach es X.env)).any (·.1) = false := by rfl) :
    SE X Wx (.Call (.Attribute o name apos) (e :: es) [] cpos) (mMt op fo fr) := weakE (pe_bm PySem.F.plainAttrs_list slot hty hm ho ha hbase hfew hline hs hplain) fun σ H Q ⟨ρ, φ, S, F, s, q⟩ =>
  into F s q fun w S1 v ρ1 H1 e1 r1 s1 F1 q1 => by
    by_cases hw : isLst S1 w = true
    · rw [if_pos hw] at q1
      exact ⟨isLst_ty s1 r1 hw, into F1 s1 q1 fun ws S2 vs ρ2 H2 e2 r2 s2 F2 q2 => ⟨ρ2, S2, w, ws, s2, r1.mono e2, r2, PosR.of q2⟩⟩
    · rw [if_neg hw] at q1; exact q1.elim
theorem se_mt0 (slot : Slot "list" name id) (hty : typeOf (.builtin id) = pure (.type "method_descriptor")) (hm : MtW X id op) (ho : SE X Wx o fo)
    (hbase : attributeBase o name X.env (eval o X.env) = eval o X.env := by rfl) (hline : (apos.endLine == cpos.line) = true := by rfl) :
    SE X Wx (.Call (.Attribute o name apos) [] [] cpos) (mMt op fo mNil) := weakE (pe_bm0 PySem.F.plainAttrs_list slot hty hm ho hbase hline) fun σ H Q ⟨ρ, φ, S, F, s, q⟩ =>
  into F s q fun w S1 v ρ1 H1 e1 r1 s1 F1 q1 => by
    by_cases hw : isLst S1 w = true
    · rw [if_pos hw] at q1
      exact ⟨isLst_ty s1 r1 hw, ρ1, S1, w, [], s1, r1, .nil, PosR.of q1⟩
    · rw [if_neg hw] at q1; exact q1.elim
def oAppend : MOp
  | .ref n, [w], S => match S[n]? with
    | some (.lst l) => if l.length < bigL then some (.non, S.set n (.lst (l ++ [w]))) else none
    | _ => none
  | _, _, _ => none
theorem mw_append : MtW X "list.append" oAppend := mw mt_append fun ρ H S x vs w ws Q s r1 r2 q => by
  unfold oAppend at q
  split at q
  · rename_i n w
    split at q
    · rename_i l g
      split at q
      · rename_i hl
        obtain ⟨v, rfl, rv⟩ := r2.of1
        cases r1 with
        | ref e' =>
          rename_i a
          obtain ⟨xs, e1, rs⟩ := s.ob n a _ e' g
          have E := Ext.upd (u := .lst (xs ++ [v])) s e' g
          exact ⟨a, xs, v, rfl, rfl, e1, bigL_lt (by rw [rs.length]; exact hl), q _ ρ _ E .non (s.set e' g ⟨_, upd_same, (rs.mono E).append (.one (rv.mono E))⟩)⟩
      · exact q.elim
    · exact q.elim
  · exact q.elim
def oPop : MOp
  | .ref n, [], S => match S[n]? with
    | some (.lst l) => match l[l.length - 1]? with
      | some w => some (w, S.set n (.lst l.dropLast))
      | none => none
    | _ => none
  | _, _, _ => none
theorem mw_pop : MtW X "list.pop" oPop := mw mt_pop fun ρ H S x vs w ws Q s r1 r2 q => by
  unfold oPop at q
  split at q
  · rename_i n
    split at q
    · rename_i l g
      split at q
      · rename_i w hw
        cases r2
        cases r1 with
        | ref e' =>
          rename_i a
          obtain ⟨xs, e1, rs⟩ := s.ob n a _ e' g
          obtain ⟨v, hv, rv⟩ := rs.get' hw
          have E := Ext.upd (u := .lst xs.dropLast) s e' g
          exact ⟨a, xs, v, rfl, rfl, e1, by rw [rs.length]; exact hv, q _ ρ _ E (rv.mono E) (s.set e' g ⟨_, upd_same, (rs.mono E).dropLast⟩)⟩
      · exact q.elim
    · exact q.elim
  · exact q.elim
end
end Wm

set_option Elab.async false
set_option linter.all false
set_option maxRecDepth 100000
set_option maxHeartbeats 2000000
namespace Wm
open PySem PySem.Spec PyProof.Rows L2

/-! ### list comprehensions -/
/-- a step that must not raise -/
def bindN {α β : Type} (o : Out α) (k : α → Sto → Out β) : Out β := match o with
  | .ok a S => k a S
  | _ => .bad
theorem bindN_ok {α β : Type} (a : α) (S : Sto) (k : α → Sto → Out β) : bindN (.ok a S) k = k a S := rfl
theorem intoN {α β ν μ : Type} {K : PySem.W.Frag} {Wx : WX} {E : Value → Option Addr → Hp → Prop} {rel : List Addr → Hp → ν → α → Prop} {rel' : List Addr → Hp → μ → β → Prop} {ρ : List Addr} {H : Hp} {σ : L2.St} {φ : Fr} {S : Sto} {f : FE α} {k : α → Sto → Out β} {R : ν → Hp → Prop} {Q : μ → Hp → Prop}
    (F : FW K ρ H σ φ) (s : SW K ρ H S) (h : OutR K rel' ρ H Q E (bindN (f φ S) k))
    (go : ∀ w S1 v ρ1 H1, Ext ρ H ρ1 H1 → rel ρ1 H1 v w → SW K ρ1 H1 S1 → FW K ρ1 H1 σ φ → OutR K rel' ρ1 H1 Q E (k w S1) → R v H1) : tI K rel Wx f σ H R := by
  refine ⟨ρ, φ, S, F, s, ?_⟩
  cases q : f φ S with
  | ok w S1 =>
    rw [q] at h
    exact fun v ρ1 H1 e r s1 => go w S1 v ρ1 H1 e r s1 (F.mono e) (OutR.step h e)
  | ex x S1 => rw [q] at h; exact h.elim
  | bad => rw [q] at h; exact h
def wipeF (φ : Fr) : List Nat → Fr
  | [] => φ
  | v :: vs => (wipeF φ vs).set v none
theorem FW.wipes {K : PySem.W.Frag} {ρ : List Addr} {H : Hp} {σ : L2.St} {φ : Fr} (F : FW K ρ H σ φ) : ∀ vs : List Nat, FW K ρ H (L2.wipe σ vs) (wipeF φ vs)
  | [] => F
  | v :: vs => (FW.wipes F vs).wipe v
theorem wipe_wipe {σ : L2.St} {vs : List Nat} : ∀ {us : List Nat}, (∀ i ∈ us, i ∈ vs) → wipe (wipe σ us) vs = wipe σ vs
  | [], _ => rfl
  | u :: us, h => by
    show wipe ((wipe σ us).set u none) vs = wipe σ vs
    rw [wipe_set (h u List.mem_cons_self), wipe_wipe fun i hi => h i (List.mem_cons_of_mem _ hi)]
def appO (D : Nat) (w : W) (S : Sto) : Option Sto := match S[D]? with
  | some (.lst l) => if l.length < bigL then some (S.set D (.lst (l ++ [w]))) else none
  | _ => none
theorem app_of {K : PySem.W.Frag} {ρ : List Addr} {H : Hp} {S S' : Sto} {D : Nat} {a : Addr} {v : V} {w : W} (s : SW K ρ H S) (ha : ρ[D]? = some a) (r : RW K ρ H v w) (h : appO D w S = some S') :
    ∃ acc, H a = some (.lst acc) ∧ acc.length < sizeLine ∧ Ext ρ H ρ (upd H a (.lst (acc ++ [v]))) ∧ SW K ρ (upd H a (.lst (acc ++ [v]))) S' := by
  unfold appO at h
  split at h
  · rename_i l g
    split at h
    · rename_i hl
      cases h
      obtain ⟨xs, e1, rs⟩ := s.ob D a _ ha g
      have E := Ext.upd (u := .lst (xs ++ [v])) s ha g
      exact ⟨xs, e1, bigL_lt (by rw [rs.length]; exact hl), E, s.set ha g ⟨_, upd_same, (rs.mono E).append (.one (r.mono E))⟩⟩
    · cases h
  · cases h
def compM (m : ItM) (T : Tgt) (c : FE Bool) (f : FE W) (φ : Fr) (D : Nat) : Nat → Nat → Sto → Out W
  | 0, _, _ => .bad
  | n + 1, i, S => match m i S with
    | none => .bad
    | some none => .ok (.ref D) S
    | some (some w) => match tgM T w φ with
      | none => .bad
      | some φ1 => bindN (c φ1 S) fun k S1 => if k = true then bindN (f φ1 S1) fun y S2 => match appO D y S2 with
          | some S3 => compM m T c f φ D n (i + 1) S3
          | none => .bad
        else compM m T c f φ D n (i + 1) S1
def mComp (own : List Nat) (it : FE ItM) (T : Tgt) (c : FE Bool) (f : FE W) : FE W := fun φ S => (it φ S).bind fun m S1 => compM m T c f (wipeF φ own) S1.length bigT 0 (S1 ++ [.lst []])
def mYes : FE Bool := fun _ S => .ok true S
abbrev STs (X : Cx) (Wx : WX) (ifs : List Expr) (f : FE Bool) : Prop := PTs X ifs (tI X.K rB Wx f)
section
variable {X : Cx} {Wx : WX} {k : Nat}
theorem weakTs {ifs : List Expr} {t t' : TT} (h : PTs X ifs t) (w : ∀ σ H Q, t' σ H Q → t σ H Q) : PTs X ifs t' := ⟨fun pins s σ H Q I q => h.run pins s σ H Q I (w σ H Q q)⟩
theorem sts_nil : STs X Wx [] mYes := weakTs pts_nil fun σ H Q ⟨ρ, φ, S, F, s, q⟩ => q _ ρ H (Ext.refl _ _) rfl s
theorem sts_one {c : Expr} {f : FE Bool} (h : ST X Wx c f) : STs X Wx [c] f := pts_one h
variable {elt tg iter tg1 iter1 : Expr} {ifs ifs1 : List Expr} {scope : Scope} {own : List (Str × Nat)} {pos : Pos} {it it1 : FE ItM} {T T1 : Tgt} {c c1 : FE Bool} {f : FE W}
theorem comp_of {vs : List Nat} (hT : ∀ i ∈ T.slots, i ∈ vs) : ∀ σ H Q, tI X.K (RW X.K) Wx (mComp vs it T c f) σ H Q → tLc (tII X.K Wx it) (gOf X.K T) (tI X.K rB W0 c) (tI X.K (RW X.K) W0 f) vs σ H Q := fun σ H Q ⟨ρ, φ, S, F, s, q⟩ =>
  into F s q fun m S1 J ρ1 H1 e1 r1 s1 F1 q1 => by
    intro Da hD
    have s2 : SW X.K (ρ1 ++ [Da]) (upd H1 Da (.lst [])) (S1 ++ [.lst []]) := s1.push hD ⟨[], upd_same, .nil⟩
    have e2 : Ext ρ1 H1 (ρ1 ++ [Da]) (upd H1 Da (.lst [])) := Ext.push hD
    refine ⟨fun i n H => ∃ ρ S, Ext (ρ1 ++ [Da]) (upd H1 Da (.lst [])) ρ H ∧ SW X.K ρ H S ∧ OutR X.K (RW X.K) ρ H Q (fun cls d H' => Wx cls d σ H') (compM m T c f (wipeF φ vs) S1.length n i S), ⟨bigT, _, _, Ext.refl _ _, s2, OutR.step q1 e2⟩, ?_⟩
    rintro i n H ⟨ρ, S, e, s, q⟩
    have hDa : ρ[S1.length]? = some Da := e.pre _ _ (push_at s1 Da)
    cases n with
    | zero => exact q.elim
    | succ n =>
      simp only [compM] at q
      have j := r1 i ρ H S (e2.trans e) s
      cases hm : m i S with
      | none => simp only [hm] at q; exact q.elim
      | some o =>
        cases o with
        | none =>
          simp only [hm] at q j
          exact .inl ⟨j, q _ ρ H (Ext.refl _ _) (.ref hDa) s⟩
        | some w =>
          simp only [hm] at q j
          refine .inr ⟨j.1, fun H' => ∃ ρ S, Ext (ρ1 ++ [Da]) (upd H1 Da (.lst [])) ρ H' ∧ SW X.K ρ H' S ∧ OutR X.K (RW X.K) ρ H' Q (fun cls d H' => Wx cls d σ H') (compM m T c f (wipeF φ vs) S1.length n (i + 1) S), fun H' z => ⟨n, Nat.lt_succ_self n, z⟩, fun x H' y => ?_⟩
          obtain ⟨e3, r3, s3⟩ := j.2 x H' y
          cases ht : tgM T w (wipeF φ vs) with
          | none => simp only [ht] at q; exact q.elim
          | some φ1 =>
            simp only [ht] at q
            refine tg_of ((F1.wipes vs).mono ((e2.trans e).trans e3)) r3 ht fun σ1 F3 hset => ⟨?_, ?_⟩
            · rw [hset vs hT, wipe_wipe fun i hi => hi]
            · refine intoN F3 s3 (OutR.step q e3) fun b S4 v4 ρ4 H4 e4 r4 s4 F4 q4 => ?_
              obtain rfl : v4 = b := r4
              cases v4 with
              | false =>
                rw [if_neg (by decide)] at q4 ⊢
                exact ⟨ρ4, S4, (e.trans e3).trans e4, s4, q4⟩
              | true =>
                rw [if_pos rfl] at q4 ⊢
                refine intoN F4 s4 q4 fun y5 S5 v5 ρ5 H5 e5 r5 s5 F5 q5 => ?_
                have e05 := ((e.trans e3).trans e4).trans e5
                have hD5 : ρ5[S1.length]? = some Da := e05.pre _ _ (push_at s1 Da)
                cases ha : appO S1.length y5 S5 with
                | none => simp only [ha] at q5; exact q5.elim
                | some S6 =>
                  simp only [ha] at q5
                  obtain ⟨acc, g1, g2, g3, g4⟩ := app_of s5 hD5 r5 ha
                  exact ⟨acc, g1, g2, ρ5, S6, e05.trans g3, g4, OutR.step q5 g3⟩
theorem se_lc (cn : Cn X Wx k) (hi : SI X Wx tg iter it) (ok : blkC X.N X.env.scope scope own = true)
    (hg : ∀ (s : Shared) (H : Hp) (C : Addr) (cl : List (Str × Addr)) (fp : List Addr), Cn (X.blk s H scope (compEnvC scope cl C X.env) fp) W0 k → SG (X.blk s H scope (compEnvC scope cl C X.env) fp) tg T)
    (ht : ∀ (s : Shared) (H : Hp) (C : Addr) (cl : List (Str × Addr)) (fp : List Addr), Cn (X.blk s H scope (compEnvC scope cl C X.env) fp) W0 k → STs (X.blk s H scope (compEnvC scope cl C X.env) fp) W0 ifs c)
    (he : ∀ (s : Shared) (H : Hp) (C : Addr) (cl : List (Str × Addr)) (fp : List Addr), Cn (X.blk s H scope (compEnvC scope cl C X.env) fp) W0 k → SE (X.blk s H scope (compEnvC scope cl C X.env) fp) W0 elt f)
    (hT : ∀ i ∈ T.slots, i ∈ own.map (·.2) := by decide) (hs : ∀ x, foldedSetIterable iter X.env x = pure x := by intro _; rfl) :
    SE X Wx (.ListComp elt [⟨tg, iter, ifs, 0⟩] scope pos) (mComp (own.map (·.2)) it T c f) :=
  weakE (pe_lc cn.calm cn.nd hi (blkOk_by ok) (fun s H C cl fp => hg s H C cl fp (cn.blk ..)) (fun s H C cl fp => ht s H C cl fp (cn.blk ..)) (fun s H C cl fp => he s H C cl fp (cn.blk ..)) hs) (comp_of hT)
theorem ss_setLc {y : Str} {py spos : Pos} (i : Nat) (cn : Cn X Wx k) (hi : SI X Wx tg iter it) (ok : blkC X.N X.env.scope scope own = true)
    (hg : ∀ (s : Shared) (H : Hp) (C : Addr) (cl : List (Str × Addr)) (fp : List Addr), Cn (X.blk s H scope (compEnvC scope cl C X.env) fp) W0 k → SG (X.blk s H scope (compEnvC scope cl C X.env) fp) tg T)
    (ht : ∀ (s : Shared) (H : Hp) (C : Addr) (cl : List (Str × Addr)) (fp : List Addr), Cn (X.blk s H scope (compEnvC scope cl C X.env) fp) W0 k → STs (X.blk s H scope (compEnvC scope cl C X.env) fp) W0 ifs c)
    (he : ∀ (s : Shared) (H : Hp) (C : Addr) (cl : List (Str × Addr)) (fp : List Addr), Cn (X.blk s H scope (compEnvC scope cl C X.env) fp) W0 k → SE (X.blk s H scope (compEnvC scope cl C X.env) fp) W0 elt f)
    (hsw : swapsWith (.ListComp elt [⟨tg, iter, ifs, 0⟩] scope pos) (some (.Name y py)) spos.line X.env = pure true)
    (hT : ∀ i ∈ T.slots, i ∈ own.map (·.2) := by decide) (hy : X.N[i]? = some y := by rfl) (hyl : X.env.scope.names.lookup y = some .local := by rfl) (hs : ∀ x, foldedSetIterable iter X.env x = pure x := by intro _; rfl) :
    SS X Wx (.Assign [.Name y py] (.ListComp elt [⟨tg, iter, ifs, 0⟩] scope pos) spos) (mSet i (mComp (own.map (·.2)) it T c f)) :=
  weakS (ps_setLc cn.calm cn.nd hy hyl hsw hi (blkOk_by ok) (fun s H C cl fp => hg s H C cl fp (cn.blk ..)) (fun s H C cl fp => ht s H C cl fp (cn.blk ..)) (fun s H C cl fp => he s H C cl fp (cn.blk ..)) hs) (set_of (comp_of hT))

/-! two for clauses -/
def compIn (m : ItM) (T : Tgt) (c : FE Bool) (f : FE W) (φ : Fr) (D : Nat) : Nat → Nat → Sto → Out Unit
  | 0, _, _ => .bad
  | n + 1, i, S => match m i S with
    | none => .bad
    | some none => .ok () S
    | some (some w) => match tgM T w φ with
      | none => .bad
      | some φ1 => bindN (c φ1 S) fun k S1 => if k = true then bindN (f φ1 S1) fun y S2 => match appO D y S2 with
          | some S3 => compIn m T c f φ D n (i + 1) S3
          | none => .bad
        else compIn m T c f φ D n (i + 1) S1
def compM2 (m : ItM) (T : Tgt) (c : FE Bool) (own1 : List Nat) (it1 : FE ItM) (T1 : Tgt) (c1 : FE Bool) (f : FE W) (φ : Fr) (D : Nat) : Nat → Nat → Sto → Out W
  | 0, _, _ => .bad
  | n + 1, i, S => match m i S with
    | none => .bad
    | some none => .ok (.ref D) S
    | some (some w) => match tgM T w φ with
      | none => .bad
      | some φ1 => bindN (c φ1 S) fun k S1 => if k = true then bindN (it1 φ1 S1) fun m1 S2 => bindN (compIn m1 T1 c1 f (wipeF φ1 own1) D bigT 0 S2) fun _ S3 => compM2 m T c own1 it1 T1 c1 f φ D n (i + 1) S3
        else compM2 m T c own1 it1 T1 c1 f φ D n (i + 1) S1
def mComp2 (own own1 : List Nat) (it : FE ItM) (T : Tgt) (c : FE Bool) (it1 : FE ItM) (T1 : Tgt) (c1 : FE Bool) (f : FE W) : FE W := fun φ S => (it φ S).bind fun m S1 => compM2 m T c own1 it1 T1 c1 f (wipeF φ own) S1.length bigT 0 (S1 ++ [.lst []])
theorem comp2_of {vs vs1 : List Nat} (hT : ∀ i ∈ T.slots, i ∈ vs) (hT1 : ∀ i ∈ T1.slots, i ∈ vs1) : ∀ σ H Q, tI X.K (RW X.K) Wx (mComp2 vs vs1 it T c it1 T1 c1 f) σ H Q → tLc2 (tII X.K Wx it) (gOf X.K T) (tI X.K rB W0 c) (tII X.K W0 it1) (gOf X.K T1) (tI X.K rB W0 c1) (tI X.K (RW X.K) W0 f) vs vs1 σ H Q := fun σ H Q ⟨ρ, φ, S, F, s, q⟩ =>
  into F s q fun m S1 J ρ1 H1 e1 r1 s1 F1 q1 => by
    intro Da hD
    have s2 : SW X.K (ρ1 ++ [Da]) (upd H1 Da (.lst [])) (S1 ++ [.lst []]) := s1.push hD ⟨[], upd_same, .nil⟩
    have e2 : Ext ρ1 H1 (ρ1 ++ [Da]) (upd H1 Da (.lst [])) := Ext.push hD
    refine ⟨fun i n H => ∃ ρ S, Ext (ρ1 ++ [Da]) (upd H1 Da (.lst [])) ρ H ∧ SW X.K ρ H S ∧ OutR X.K (RW X.K) ρ H Q (fun cls d H' => Wx cls d σ H') (compM2 m T c vs1 it1 T1 c1 f (wipeF φ vs) S1.length n i S), ⟨bigT, _, _, Ext.refl _ _, s2, OutR.step q1 e2⟩, ?_⟩
    rintro i n H ⟨ρ, S, e, s, q⟩
    have hDa : ρ[S1.length]? = some Da := e.pre _ _ (push_at s1 Da)
    cases n with
    | zero => exact q.elim
    | succ n =>
      simp only [compM2] at q
      have j := r1 i ρ H S (e2.trans e) s
      cases hm : m i S with
      | none => simp only [hm] at q; exact q.elim
      | some o =>
        cases o with
        | none =>
          simp only [hm] at q j
          exact .inl ⟨j, q _ ρ H (Ext.refl _ _) (.ref hDa) s⟩
        | some w =>
          simp only [hm] at q j
          refine .inr ⟨j.1, fun H' => ∃ ρ S, Ext (ρ1 ++ [Da]) (upd H1 Da (.lst [])) ρ H' ∧ SW X.K ρ H' S ∧ OutR X.K (RW X.K) ρ H' Q (fun cls d H' => Wx cls d σ H') (compM2 m T c vs1 it1 T1 c1 f (wipeF φ vs) S1.length n (i + 1) S), fun H' z => ⟨n, Nat.lt_succ_self n, z⟩, fun x H' y => ?_⟩
          obtain ⟨e3, r3, s3⟩ := j.2 x H' y
          cases ht : tgM T w (wipeF φ vs) with
          | none => simp only [ht] at q; exact q.elim
          | some φ1 =>
            simp only [ht] at q
            refine tg_of ((F1.wipes vs).mono ((e2.trans e).trans e3)) r3 ht fun σ1 F3 hset => ⟨?_, ?_⟩
            · rw [hset vs hT, wipe_wipe fun i hi => hi]
            · refine intoN F3 s3 (OutR.step q e3) fun b S4 v4 ρ4 H4 e4 r4 s4 F4 q4 => ?_
              obtain rfl : v4 = b := r4
              cases v4 with
              | false =>
                rw [if_neg (by decide)] at q4 ⊢
                exact ⟨ρ4, S4, (e.trans e3).trans e4, s4, q4⟩
              | true =>
                rw [if_pos rfl] at q4 ⊢
                refine intoN F4 s4 q4 fun m1 S5 J1 ρ5 H5 e5 r5 s5 F5 q5 => ?_
                have e05 := ((e.trans e3).trans e4).trans e5
                refine ⟨fun j n1 H => ∃ ρ S, Ext ρ5 H5 ρ H ∧ SW X.K ρ H S ∧ OutR X.K (RW X.K) ρ H Q (fun cls d H' => Wx cls d σ H') (bindN (compIn m1 T1 c1 f (wipeF φ1 vs1) S1.length n1 j S) fun _ S3 => compM2 m T c vs1 it1 T1 c1 f (wipeF φ vs) S1.length n (i + 1) S3), ⟨bigT, ρ5, S5, Ext.refl _ _, s5, q5⟩, ?_⟩
                rintro j1 n1 H6 ⟨ρ6, S6, e6, s6, q6⟩
                cases n1 with
                | zero => exact q6.elim
                | succ n1 =>
                  simp only [compIn] at q6
                  have j2 := r5 j1 ρ6 H6 S6 e6 s6
                  cases hm1 : m1 j1 S6 with
                  | none => simp only [hm1] at q6; exact q6.elim
                  | some o1 =>
                    cases o1 with
                    | none =>
                      simp only [hm1] at q6 j2
                      exact .inl ⟨j2, ρ6, S6, e05.trans e6, s6, q6⟩
                    | some w1 =>
                      simp only [hm1] at q6 j2
                      refine .inr ⟨j2.1, fun H => ∃ ρ S, Ext ρ5 H5 ρ H ∧ SW X.K ρ H S ∧ OutR X.K (RW X.K) ρ H Q (fun cls d H' => Wx cls d σ H') (bindN (compIn m1 T1 c1 f (wipeF φ1 vs1) S1.length n1 (j1 + 1) S) fun _ S3 => compM2 m T c vs1 it1 T1 c1 f (wipeF φ vs) S1.length n (i + 1) S3), fun H' z => ⟨n1, Nat.lt_succ_self n1, z⟩, fun x7 H7 y7 => ?_⟩
                      obtain ⟨e7, r7, s7⟩ := j2.2 x7 H7 y7
                      cases ht1 : tgM T1 w1 (wipeF φ1 vs1) with
                      | none => simp only [ht1] at q6; exact q6.elim
                      | some φ2 =>
                        simp only [ht1] at q6
                        refine tg_of ((F5.wipes vs1).mono (e6.trans e7)) r7 ht1 fun σ2 F8 hset1 => ⟨?_, ?_⟩
                        · rw [hset1 vs1 hT1, wipe_wipe fun i hi => hi]
                        · have q6' : OutR X.K (RW X.K) ρ6 H6 Q (fun cls d H' => Wx cls d σ H') (bindN (c1 φ2 S6) fun k S7 => bindN (if k = true then bindN (f φ2 S7) fun y S8 => match appO S1.length y S8 with
                              | some S9 => compIn m1 T1 c1 f (wipeF φ1 vs1) S1.length n1 (j1 + 1) S9
                              | none => .bad
                            else compIn m1 T1 c1 f (wipeF φ1 vs1) S1.length n1 (j1 + 1) S7) fun _ S3 => compM2 m T c vs1 it1 T1 c1 f (wipeF φ vs) S1.length n (i + 1) S3) := by
                            cases hc : c1 φ2 S6 with
                            | ok k S7 => rw [hc] at q6; exact q6
                            | ex x S7 => rw [hc] at q6; exact q6.elim
                            | bad => rw [hc] at q6; exact q6.elim
                          refine intoN F8 s7 (OutR.step q6' e7) fun b S9 v9 ρ9 H9 e9 r9 s9 F9 q9 => ?_
                          obtain rfl : v9 = b := r9
                          cases v9 with
                          | false =>
                            rw [if_neg (by decide)] at q9 ⊢
                            exact ⟨ρ9, S9, (e6.trans e7).trans e9, s9, q9⟩
                          | true =>
                            rw [if_pos rfl] at q9 ⊢
                            have q9' : OutR X.K (RW X.K) ρ9 H9 Q (fun cls d H' => Wx cls d σ H') (bindN (f φ2 S9) fun y S8 => bindN (match appO S1.length y S8 with
                                | some S9 => compIn m1 T1 c1 f (wipeF φ1 vs1) S1.length n1 (j1 + 1) S9
                                | none => .bad) fun _ S3 => compM2 m T c vs1 it1 T1 c1 f (wipeF φ vs) S1.length n (i + 1) S3) := by
                              cases hc : f φ2 S9 with
                              | ok k S7 => rw [hc] at q9; exact q9
                              | ex x S7 => rw [hc] at q9; exact q9.elim
                              | bad => rw [hc] at q9; exact q9.elim
                            refine intoN F9 s9 q9' fun y5 S10 v5 ρ10 H10 e10 r10 s10 F10 q10 => ?_
                            have e11 := ((e6.trans e7).trans e9).trans e10
                            have hD5 : ρ10[S1.length]? = some Da := (e05.trans e11).pre _ _ (push_at s1 Da)
                            cases ha : appO S1.length y5 S10 with
                            | none => simp only [ha] at q10; exact q10.elim
                            | some S11 =>
                              simp only [ha] at q10
                              obtain ⟨acc, g1, g2, g3, g4⟩ := app_of s10 hD5 r10 ha
                              exact ⟨acc, g1, g2, ρ10, S11, e11.trans g3, g4, OutR.step q10 g3⟩
theorem se_lc2 (cn : Cn X Wx k) (hi : SI X Wx tg iter it) (ok : blkC X.N X.env.scope scope own = true) (vs1 : List Nat)
    (hg : ∀ (s : Shared) (H : Hp) (C : Addr) (cl : List (Str × Addr)) (fp : List Addr), Cn (X.blk s H scope (compEnvC scope cl C X.env) fp) W0 k → SG (X.blk s H scope (compEnvC scope cl C X.env) fp) tg T)
    (ht : ∀ (s : Shared) (H : Hp) (C : Addr) (cl : List (Str × Addr)) (fp : List Addr), Cn (X.blk s H scope (compEnvC scope cl C X.env) fp) W0 k → STs (X.blk s H scope (compEnvC scope cl C X.env) fp) W0 ifs c)
    (hi1 : ∀ (s : Shared) (H : Hp) (C : Addr) (cl : List (Str × Addr)) (fp : List Addr), Cn (X.blk s H scope (compEnvC scope cl C X.env) fp) W0 k → SI (X.blk s H scope (compEnvC scope cl C X.env) fp) W0 tg1 iter1 it1)
    (hg1 : ∀ (s : Shared) (H : Hp) (C : Addr) (cl : List (Str × Addr)) (fp : List Addr), Cn (X.blk s H scope (compEnvC scope cl C X.env) fp) W0 k → SG (X.blk s H scope (compEnvC scope cl C X.env) fp) tg1 T1)
    (ht1 : ∀ (s : Shared) (H : Hp) (C : Addr) (cl : List (Str × Addr)) (fp : List Addr), Cn (X.blk s H scope (compEnvC scope cl C X.env) fp) W0 k → STs (X.blk s H scope (compEnvC scope cl C X.env) fp) W0 ifs1 c1)
    (he : ∀ (s : Shared) (H : Hp) (C : Addr) (cl : List (Str × Addr)) (fp : List Addr), Cn (X.blk s H scope (compEnvC scope cl C X.env) fp) W0 k → SE (X.blk s H scope (compEnvC scope cl C X.env) fp) W0 elt f)
    (hv : ∀ i ∈ vs1, i ∈ own.map (·.2) := by decide) (hT : ∀ i ∈ T.slots, i ∈ own.map (·.2) := by decide) (hT1 : ∀ i ∈ T1.slots, i ∈ vs1 := by decide)
    (hs : ∀ x, foldedSetIterable iter X.env x = pure x := by intro _; rfl) (hs1 : ∀ env x, foldedSetIterable iter1 env x = pure x := by intro _ _; rfl) :
    SE X Wx (.ListComp elt [⟨tg, iter, ifs, 0⟩, ⟨tg1, iter1, ifs1, 0⟩] scope pos) (mComp2 (own.map (·.2)) vs1 it T c it1 T1 c1 f) :=
  weakE (pe_lc2 cn.calm cn.nd hi (blkOk_by ok) hv (fun s H C cl fp => hg s H C cl fp (cn.blk ..)) (fun s H C cl fp => ht s H C cl fp (cn.blk ..)) (fun s H C cl fp => hi1 s H C cl fp (cn.blk ..)) (fun s H C cl fp => hg1 s H C cl fp (cn.blk ..)) (fun s H C cl fp => ht1 s H C cl fp (cn.blk ..)) (fun s H C cl fp => he s H C cl fp (cn.blk ..)) hs hs1) (comp2_of hT hT1)
end
end Wm

set_option Elab.async false
set_option linter.all false
set_option maxRecDepth 100000
set_option maxHeartbeats 2000000
namespace PySem
theorem meets_enumerate_newT (l : Addr) (items : Array Value) :
    Meets (Builtin.«enumerate.__new__» ⟨[.type "enumerate", .ref l], []⟩) (fun _ R s => s.heap.IsTuple l items ∧
      R (.ok (.ret (.ref (s.heap.push { cls := .type "tuple_iterator", data := .fields #[.ref l, .int 0 0] }).objs.size)))
        { s with heap := (s.heap.push { cls := .type "tuple_iterator", data := .fields #[.ref l, .int 0 0] }).push { cls := .type "enumerate", data := .fields #[.none, .bool false, .ref s.heap.objs.size, rawInt 0, .none, .none] } }) :=
  .of_wp fun prog w A R s h => by
    obtain ⟨hp, g, d, tk, os⟩ := s; obtain ⟨hl, h⟩ := h
    have hsub := sub_enumerate
    have q1 : ∀ {A' : Around} {E : Value → Shared → Prop} {Q : Value → Shared → Prop}, Q (.ref hp.objs.size) ⟨hp.push { cls := .type "tuple_iterator", data := .fields #[.ref l, .int 0 0] }, g, d, tk, os⟩ → wpAny (model prog w) A' (pyIter (.ref l)) Q E ⟨hp, g, d, tk, os⟩ :=
      fun q => wpAny_pyIter_tuple (s := ⟨hp, g, d, tk, os⟩) hl q
    wp_walk using q1
    refine wpAny_stack_any fun st => wpAny_pure ?_
    split
    · rename_i c _ _ _ _ _
      cases (c == Value.type "enumerate")
      · wp_walk using q1
        exact ⟨_, rfl, h⟩
      · wp_walk using q1
        exact ⟨_, rfl, h⟩
    · wp_walk using q1
      exact ⟨_, rfl, h⟩
theorem call_enumerate_tuple {prog : Program} {w : World} {A : Around} {E : Value → Shared → Prop} {s : Shared} {l : Addr} {items : Array Value} {Q : Value → Shared → Prop} (hL : s.heap.IsTuple l items)
    (h : ∀ h', IsEnum h' (s.heap.objs.size + 1) s.heap.objs.size 0 .none → h'.IsTupleIter s.heap.objs.size l 0 → h'.objs.size = s.heap.objs.size + 2 →
      (∀ b o, s.heap.get? b = some o → h'.get? b = some o) → Q (.ref (s.heap.objs.size + 1)) { s with heap := h' }) :
    wpAny (model prog w) A (call (.type "enumerate") [.ref l]) Q E s := by
  refine callType_new F.called_enumerate (by decide) (F.typeCall_enumerate_1 _) (F.newCall_enumerate_1 _) (fun obj => F.args_object_init_2 obj _) F.entry_enumerate_new
    (meets_enumerate_newT l items) ⟨hL, ?_⟩
  have hz : (s.heap.push { cls := .type "tuple_iterator", data := .fields #[.ref l, .int 0 0] }).objs.size = s.heap.objs.size + 1 := Heap.size_push ..
  show _ ∧ _
  rw [hz]
  have he : IsEnum ((s.heap.push { cls := .type "tuple_iterator", data := .fields #[.ref l, .int 0 0] }).push
      { cls := .type "enumerate", data := .fields #[.none, .bool false, .ref s.heap.objs.size, rawInt 0, .none, .none] }) (s.heap.objs.size + 1) s.heap.objs.size 0 .none := by
    have := Heap.get?_push_size (s.heap.push { cls := .type "tuple_iterator", data := .fields #[.ref l, .int 0 0] })
      (o := { cls := .type "enumerate", data := .fields #[.none, .bool false, .ref s.heap.objs.size, rawInt 0, .none, .none] }) rfl
    rw [hz] at this; exact this
  refine ⟨⟨_, he, rfl⟩, h _ he ⟨_, Heap.get?_push_of_some _ (Heap.get?_push_size _ rfl), rfl, rfl⟩ (by rw [Heap.size_push, hz]) fun b o x => Heap.get?_push_of_some _ (Heap.get?_push_of_some _ x)⟩
end PySem
namespace Wm
open PySem PySem.Spec PyProof.Rows L2
/-! ### enumerate -/
def IteT (K : PySem.W.Frag) (a : Addr) : It :=
  ⟨fun i H => ∃ (xs : List V) (x : V), SqT K H a xs ∧ xs[i]? = some x, fun i H v H' => ∃ T x, v = .ref T ∧ H T = none ∧ H' = upd H T (.tup [.int (i : Nat), x]) ∧ ∀ xs, SqT K H a xs → xs[i]? = some x, fun i H => ∃ xs : List V, SqT K H a xs ∧ xs.length ≤ i⟩
theorem turn_enumT {P : Program} {w : World} {K : PySem.W.Frag} {elts : List Expr} {kk : Nat} {tpos : Pos} (a e it : Addr) :
    Turn P w K (.Tuple elts kk tpos) (IteT K a) [e, it] e (fun i h => (∃ old, IsEnum h e it ((i : Nat) : Int) old) ∧ h.IsTupleIter it a i ∧ e ≠ it ∧ a ≠ it) where
  mem := by simp
  obj := fun i h st b hb => by
    obtain ⟨⟨old, he⟩, ⟨o, ho, hc, hd⟩, _⟩ := st
    have e' : b = e ∨ b = it := by simpa using hb
    rcases e' with z | z
    · rw [z]; exact ⟨_, he, fun v q => nomatch q⟩
    · rw [z]; exact ⟨o, ho, fun v q => by rw [hd] at q; cases q⟩
  keep := fun i h h' st k => let ⟨⟨old, he⟩, hi, hne⟩ := st; ⟨⟨old, k e (by simp) _ he⟩, hi.at fun o q => k it (by simp) o q, hne⟩
  item := by
    intro X hP hw hK hc i pins s σ H E I hf st hg
    subst hP hw hK
    obtain ⟨⟨old, he⟩, hit, hne, hai⟩ := st
    obtain ⟨xs, x, hq, hx⟩ := hg
    obtain ⟨its, rv, p, hz⟩ := I.tuple hq
    obtain ⟨u, hu, ru⟩ := rv.get hx
    have hel : e < s.heap.objs.size := Heap.lt_size he
    have hil : it < s.heap.objs.size := by obtain ⟨_, q, _⟩ := hit; exact Heap.lt_size q
    have hlt : i < its.toArray.size := by
      have := (List.getElem?_eq_some_iff.mp hu).1
      simpa using this
    have hea : e ≠ a := fun z => by
      obtain ⟨o, ho, hc', _⟩ := p
      rw [← z] at ho
      have he' : s.heap.get? e = some _ := he
      rw [he'] at ho
      cases ho
      exact absurd hc' (by intro q; injection q with q; exact absurd q (by decide))
    refine wpAny_pyNext_enum_itemC (Draws.tuple (A := X.A.in1) (I.ok.hd hc) it a hai its.toArray) he ⟨hit, show s.heap.IsTuple a its.toArray from p⟩ hlt hne (by simp [hne, hea]) fun u' h' tk hP' ho hst' hT hsz hk => ?_
    have eu : u' = u := by
      have h1 : its.toArray[i]? = some u' := hP'
      have h2 : its.toArray[i]? = some u := by simpa using hu
      rw [h1] at h2
      exact Option.some.inj h2
    subst eu
    refine ⟨_, rfl, wpAny_letOwnedTupleGo_enum (s := { s with heap := h', toks := tk + 1 }) ho fun h'' he' sb => ?_⟩
    have hT2 : h''.get? s.heap.objs.size = some { cls := .type "tuple", data := .seq #[.int i tk, u'] } := (sb.2 _ (Nat.ne_of_gt hel)).trans hT
    have new : ObjOk X.prog X.w (upd H s.heap.objs.size (.tup [.int (i : Nat), x])) h'' s.heap.objs.size (.tup [.int (i : Nat), x]) :=
      ⟨by show 2 ≤ sizeLine; decide, [.int i tk, u'], .cons ⟨_, rfl⟩ (.cons ru .nil), ⟨_, hT2, rfl, _, rfl⟩⟩
    have I1 : Inv X pins σ (upd H s.heap.objs.size (.tup [.int (i : Nat), x])) { s with heap := h'', toks := tk + 1 } :=
      I.turnedNew (ch := [e, it]) (fun b ob hb q => (sb.2 b (fun z => hb (by simp [z]))).trans (hk b ob (fun z => hb (by simp [z])) (fun z => hb (by simp [z])) q)) hf (Nat.le_refl _) new
    refine ⟨.ref s.heap.objs.size, _, I1, rfl, ⟨_, x, rfl, I.hok.fresh (Nat.le_refl _), rfl, fun ys hy => by rw [I.tuple_inj hy hq]; exact hx⟩, ⟨⟨u', ?_⟩, hst'.1.at fun o q => (sb.2 it (Ne.symm hne)).trans q, hne, hai⟩, fun b hb => ?_⟩
    · have e1 : ((i + 1 : Nat) : Int) = (i : Int) + 1 := by omega
      rw [e1]; exact he'
    · have hb' : b < s.heap.objs.size := by
        have e' : b = e ∨ b = it := by simpa using hb
        rcases e' with z | z
        · rw [z]; exact hel
        · rw [z]; exact hil
      rw [upd_ne (Nat.ne_of_lt hb')]
      exact (hf b hb).1
  done := by
    intro X hP hw hK hc i pins s σ H E I hf st hg
    subst hP hw hK
    obtain ⟨⟨old, he⟩, hit, hne, hai⟩ := st
    obtain ⟨xs, hq, hx⟩ := hg
    obtain ⟨its, rv, p, hz⟩ := I.tuple hq
    obtain ⟨f0, f1, f2, f3, f4, f5⟩ := hf it (by simp)
    have hl := rv.length
    refine wpAny_pyNext_enum_endD (n := 0) (P := fun j v => its.toArray[j]? = some v) (St := fun j h => h.IsTupleIter it a i ∧ h.IsTuple a its.toArray) (fp := [it, a]) ?_ he ⟨hit, show s.heap.IsTuple a its.toArray from p⟩ fun h' eb => ⟨rfl, I.turned (t' := s.toks) (fun b o hb q => eb b o hb q) f0 f1 f3 f4 f5⟩
    refine ⟨fun j h st => let ⟨o, ho, _⟩ := st.1; ⟨o, ho⟩, fun j h h' st hk => ⟨st.1.at fun o e => hk it (by simp) o e, st.2.at fun o e => hk a (by simp) o e⟩, fun j s' Q' E' hj st' hQ' => ?_, fun s' Q' E' st' hE' => ?_⟩
    · exact absurd hj (Nat.not_lt_zero j)
    · exact wpAny_nextOf_tuple_end (A := X.A.in1) (I.ok.hd hc) st'.1 st'.2 (by simp; omega) hE'
  self := fun A i s Q E st h => let ⟨⟨_, he⟩, _⟩ := st; wpAny_pyIter_enum he h
end Wm
namespace Wm
open PySem PySem.Spec PyProof.Rows L2
/-- enumerate of a list or a tuple -/
def iEnumA (K : PySem.W.Frag) (ta : TA) : TI := fun σ H R => ta σ H fun vs H1 => ∃ a, vs = [.ref a] ∧ ((∃ xs, SqL K H1 a xs ∧ R (Ite K a) H1) ∨ (∃ xs, SqT K H1 a xs ∧ R (IteT K a) H1))
theorem pi_enumA {X : Cx} {e : Expr} {ta : TA} {p pos tpos : Pos} {elts : List Expr} {kk : Nat} (hg : Gl X "enumerate") (hm : X.mg "enumerate" = none) (ha : PA X [e] ta) (hs : starEach [e] X.env = [(false, eval e X.env)] := by rfl) :
    PI X (.Tuple elts kk tpos) (.Call (.Name "enumerate" p) [e] [] pos) (iEnumA X.K ta) := by
  refine ⟨fun pins s σ H R I h => ?_⟩
  refine Call_ (ld_blt I hg hm boot_enumerate (PyProof.Rows.callWith_type1 (thn (ha.run pos pins s σ H _ I h) fun us s1 ⟨vs, H1, I1, r1, q1⟩ => ?_) hs rfl))
  obtain ⟨a, ex, q1⟩ := q1
  subst ex
  cases r1 with
  | cons r rr =>
    cases rr
    cases r
    have fr2 : ∀ b ∈ [s1.heap.objs.size + 1, s1.heap.objs.size], FpOk X pins H1 b := fun b hb => by
      have e' : b = s1.heap.objs.size + 1 ∨ b = s1.heap.objs.size := by simpa using hb
      have hle : s1.heap.objs.size ≤ b := by
        rcases e' with z | z
        · rw [z]; exact Nat.le_add_right _ _
        · rw [z]; exact Nat.le_refl _
      exact I1.fpOk hle (I1.hok.fresh hle)
    rcases q1 with ⟨xs, hq, q⟩ | ⟨xs, hq, q⟩
    · obtain ⟨its, rv, p', hz⟩ := I1.list hq
      refine call_enumerate_list p'.isList fun h' he hit hsz hk => wpAny_pyIter_enum he ?_
      have I2 : Inv X pins σ H1 { s1 with heap := h' } := I1.kept (t' := s1.toks) hk
      exact ⟨s1.heap.objs.size + 1, [s1.heap.objs.size + 1, s1.heap.objs.size], _, _, H1, rfl, I2, turn_enum a (s1.heap.objs.size + 1) s1.heap.objs.size, ⟨⟨.none, he⟩, hit, Nat.succ_ne_self _⟩, fr2, q⟩
    · obtain ⟨its, rv, p', hz⟩ := I1.tuple hq
      have hlt : a < s1.heap.objs.size := p'.lt
      refine call_enumerate_tuple (show s1.heap.IsTuple a its.toArray from p') fun h' he hit hsz hk => wpAny_pyIter_enum he ?_
      have I2 : Inv X pins σ H1 { s1 with heap := h' } := I1.kept (t' := s1.toks) hk
      exact ⟨s1.heap.objs.size + 1, [s1.heap.objs.size + 1, s1.heap.objs.size], _, _, H1, rfl, I2, turn_enumT a (s1.heap.objs.size + 1) s1.heap.objs.size, ⟨⟨.none, he⟩, hit, Nat.succ_ne_self _, Nat.ne_of_lt hlt⟩, fr2, q⟩
def itE (w : W) : ItM := fun i S => match asQ S w with
  | some (_, l) => some (match l[i]? with
    | some x => some (.tuw [.int (i : Nat), x])
    | none => none)
  | none => none
def mItE (fr : FE (List W)) : FE ItM := fun φ S => (fr φ S).bind fun ws S1 => match ws with
  | [w] => match asQ S1 w with
    | some _ => .ok (itE w) S1
    | none => .bad
  | _ => .bad
theorem asQ_tup {S : Sto} {w : W} {l : List W} (g : asQ S w = some (true, l)) : w = .tup l := by
  cases w with
  | tup l' => cases g; rfl
  | non => simp [asQ, asL] at g
  | bl _ => simp [asQ, asL] at g
  | int _ => simp [asQ, asL] at g
  | str _ => simp [asQ, asL] at g
  | ref n =>
    unfold asQ at g
    obtain ⟨_, _, z⟩ := Option.map_eq_some_iff.mp g
    cases z
  | cl l' =>
    unfold asQ at g
    obtain ⟨_, _, z⟩ := Option.map_eq_some_iff.mp g
    cases z
  | fn _ => simp [asQ, asL] at g
  | tuw _ => simp [asQ, asL] at g
theorem asQ_lst {S : Sto} {w : W} {l : List W} (g : asQ S w = some (false, l)) : asL S w = some l := by
  cases w with
  | tup l' => cases g
  | non => simp [asQ, asL] at g
  | bl _ => simp [asQ, asL] at g
  | int _ => simp [asQ, asL] at g
  | str _ => simp [asQ, asL] at g
  | ref n =>
    unfold asQ at g
    obtain ⟨_, h, z⟩ := Option.map_eq_some_iff.mp g
    cases z; exact h
  | cl l' =>
    unfold asQ at g
    obtain ⟨_, h, z⟩ := Option.map_eq_some_iff.mp g
    cases z; exact h
  | fn _ => simp [asQ, asL] at g
  | tuw _ => simp [asQ, asL] at g
theorem asQ_ofL {S : Sto} {w : W} {l : List W} (g : asL S w = some l) : asQ S w = some (false, l) := by
  cases w with
  | ref n => show (asL S (.ref n)).map (fun l => (false, l)) = _; rw [g]; rfl
  | cl l' => show (asL S (.cl l')).map (fun l => (false, l)) = _; rw [g]; rfl
  | _ => simp [asL] at g
/-- a list stays one -/
theorem asL_list {K : PySem.W.Frag} {ρ : List Addr} {H : Hp} {S : Sto} {a : Addr} {w : W} {l0 : List W} {S0 : Sto} (s : SW K ρ H S) (r : RW K ρ H (.ref a) w) (g0 : asL S0 w = some l0) : asQ S w = none ∨ ∃ l vs, asQ S w = some (false, l) ∧ SqL K H a vs ∧ RWs K ρ H vs l := by
  cases q : asQ S w with
  | none => exact .inl rfl
  | some p =>
    obtain ⟨b, l⟩ := p
    cases b with
    | true =>
      have e := asQ_tup q
      subst e
      simp [asL] at g0
    | false =>
      obtain ⟨a', vs, e, hq, rs⟩ := asL_of s r (asQ_lst q)
      cases e
      exact .inr ⟨l, vs, rfl, hq, rs⟩
theorem jok_enumL {K : PySem.W.Frag} {ρ : List Addr} {H : Hp} {a : Addr} {w : W} {l0 : List W} {S0 : Sto} (r : RW K ρ H (.ref a) w) (g0 : asL S0 w = some l0) : JOk K ρ H (Ite K a) (itE w) := fun i ρ' H' S' e s' => by
  unfold itE
  rcases asL_list s' (r.mono e) g0 with g | ⟨l, vs, g, hq, rs⟩
  · rw [g]; trivial
  · rw [g]
    dsimp only
    cases hl : l[i]? with
    | none => exact ⟨vs, hq, by rw [rs.length]; exact List.getElem?_eq_none_iff.mp hl⟩
    | some z =>
      obtain ⟨v, hv, rv⟩ := rs.get' hl
      refine ⟨⟨vs, v, hq, hv⟩, fun x H'' y => ?_⟩
      obtain ⟨T, x', rfl, hT, rfl, hx'⟩ := y
      have ex := hx' vs hq
      rw [hv] at ex
      cases ex
      have E : Ext ρ' H' ρ' (upd H' T (.tup [.int (i : Nat), v])) := Ext.new hT
      exact ⟨E, .tuw upd_same (.cons (.int _) (.one (rv.mono E))), s'.tup hT⟩
theorem jok_enumT {K : PySem.W.Frag} {ρ : List Addr} {H : Hp} {a : Addr} {l : List W} (r : RW K ρ H (.ref a) (.tup l)) : JOk K ρ H (IteT K a) (itE (.tup l)) := fun i ρ' H' S' e s' => by
  obtain ⟨a', vs, e1, hq, rs⟩ := asT_of (r.mono e)
  cases e1
  show (match (some (match l[i]? with | some x => some (W.tuw [.int (i : Nat), x]) | none => none) : Option (Option W)) with | none => True | some none => _ | some (some w) => _)
  cases hl : l[i]? with
  | none => exact ⟨vs, hq, by rw [rs.length]; exact List.getElem?_eq_none_iff.mp hl⟩
  | some z =>
    obtain ⟨v, hv, rv⟩ := rs.get' hl
    refine ⟨⟨vs, v, hq, hv⟩, fun x H'' y => ?_⟩
    obtain ⟨T, x', rfl, hT, rfl, hx'⟩ := y
    have ex := hx' vs hq
    rw [hv] at ex
    cases ex
    have E : Ext ρ' H' ρ' (upd H' T (.tup [.int (i : Nat), v])) := Ext.new hT
    exact ⟨E, .tuw upd_same (.cons (.int _) (.one (rv.mono E))), s'.tup hT⟩
section
variable {X : Cx} {Wx : WX}
theorem si_enum {e : Expr} {fr : FE (List W)} {p pos tpos : Pos} {elts : List Expr} {kk : Nat} (hm : X.mg "enumerate" = none) (ha : SA X Wx [e] fr) (hg : Gl X "enumerate" := by rfl) (hs : starEach [e] X.env = [(false, eval e X.env)] := by rfl) :
    SI X Wx (.Tuple elts kk tpos) (.Call (.Name "enumerate" p) [e] [] pos) (mItE fr) := weakI (pi_enumA hg hm ha hs) fun σ H R ⟨ρ, φ, S, F, s, q⟩ =>
  into F s q fun ws S1 vs ρ1 H1 e1 r1 s1 F1 q1 => by
    split at q1
    · rename_i w
      split at q1
      · rename_i p' g
        obtain ⟨b, l⟩ := p'
        obtain ⟨v, rfl, r⟩ := r1.of1
        obtain ⟨a, xs, rfl, hq, rs⟩ := asQ_of s1 r g
        refine ⟨a, rfl, ?_⟩
        cases b with
        | true =>
          rw [if_pos rfl] at hq
          have e := asQ_tup g
          subst e
          exact .inr ⟨xs, hq, q1 _ ρ1 H1 (Ext.refl _ _) (jok_enumT r) s1⟩
        | false =>
          rw [if_neg (by decide)] at hq
          exact .inl ⟨xs, hq, q1 _ ρ1 H1 (Ext.refl _ _) (jok_enumL r (asQ_lst g)) s1⟩
      · exact q1.elim
    · exact q1.elim
end
/-! ### zip -/
def itZ (w1 w2 : W) : ItM := fun i S => match asQ S w1, asQ S w2 with
  | some (_, l), some (_, m) => some (match l[i]?, m[i]? with
    | some x, some y => some (.tuw [x, y])
    | _, _ => none)
  | _, _ => none
def mItZ (fr : FE (List W)) : FE ItM := fun φ S => (fr φ S).bind fun ws S1 => match ws with
  | [w1, w2] => match asQ S1 w1, asQ S1 w2 with
    | some (b, _), some (b', _) => if b = b' then .ok (itZ w1 w2) S1 else .bad
    | _, _ => .bad
  | _ => .bad
theorem jok_zipL {K : PySem.W.Frag} {ρ : List Addr} {H : Hp} {a b : Addr} {w w2 : W} {l0 l1 : List W} {S0 : Sto} (r : RW K ρ H (.ref a) w) (r2 : RW K ρ H (.ref b) w2) (g0 : asL S0 w = some l0) (g1 : asL S0 w2 = some l1) : JOk K ρ H (Itz K a b) (itZ w w2) := fun i ρ' H' S' e s' => by
  unfold itZ
  rcases asL_list s' (r.mono e) g0 with g | ⟨l, vs, g, hq, rs⟩
  · rw [g]; trivial
  · rcases asL_list s' (r2.mono e) g1 with g' | ⟨m, us, g', hq', rs'⟩
    · rw [g, g']; trivial
    · rw [g, g']
      dsimp only
      cases hl : l[i]? with
      | none => exact ⟨vs, us, hq, hq', .inl (by rw [rs.length]; exact List.getElem?_eq_none_iff.mp hl)⟩
      | some z =>
        cases hm : m[i]? with
        | none => exact ⟨vs, us, hq, hq', .inr (by rw [rs'.length]; exact List.getElem?_eq_none_iff.mp hm)⟩
        | some z' =>
          obtain ⟨v, hv, rv⟩ := rs.get' hl
          obtain ⟨u, hu, ru⟩ := rs'.get' hm
          refine ⟨⟨vs, us, v, u, hq, hq', hv, hu⟩, fun x H'' y => ?_⟩
          obtain ⟨T, x', y', rfl, hT, rfl, hx', hy'⟩ := y
          have ex := hx' vs hq
          rw [hv] at ex
          cases ex
          have ey := hy' us hq'
          rw [hu] at ey
          cases ey
          have E : Ext ρ' H' ρ' (upd H' T (.tup [v, u])) := Ext.new hT
          exact ⟨E, .tuw upd_same (.cons (rv.mono E) (.one (ru.mono E))), s'.tup hT⟩
theorem jok_zipT {K : PySem.W.Frag} {ρ : List Addr} {H : Hp} {a b : Addr} {l m : List W} (r : RW K ρ H (.ref a) (.tup l)) (r2 : RW K ρ H (.ref b) (.tup m)) : JOk K ρ H (RZ.ItzT K a b) (itZ (.tup l) (.tup m)) := fun i ρ' H' S' e s' => by
  obtain ⟨a', vs, e1, hq, rs⟩ := asT_of (r.mono e)
  cases e1
  obtain ⟨a', us, e1, hq', rs'⟩ := asT_of (r2.mono e)
  cases e1
  show (match (some (match l[i]?, m[i]? with | some x, some y => some (W.tuw [x, y]) | _, _ => none) : Option (Option W)) with | none => True | some none => _ | some (some w) => _)
  cases hl : l[i]? with
  | none => exact ⟨vs, us, hq, hq', .inl (by rw [rs.length]; exact List.getElem?_eq_none_iff.mp hl)⟩
  | some z =>
    cases hm : m[i]? with
    | none => exact ⟨vs, us, hq, hq', .inr (by rw [rs'.length]; exact List.getElem?_eq_none_iff.mp hm)⟩
    | some z' =>
      obtain ⟨v, hv, rv⟩ := rs.get' hl
      obtain ⟨u, hu, ru⟩ := rs'.get' hm
      refine ⟨⟨vs, us, v, u, hq, hq', hv, hu⟩, fun x H'' y => ?_⟩
      obtain ⟨T, x', y', rfl, hT, rfl, hx', hy'⟩ := y
      have ex := hx' vs hq
      rw [hv] at ex
      cases ex
      have ey := hy' us hq'
      rw [hu] at ey
      cases ey
      have E : Ext ρ' H' ρ' (upd H' T (.tup [v, u])) := Ext.new hT
      exact ⟨E, .tuw upd_same (.cons (rv.mono E) (.one (ru.mono E))), s'.tup hT⟩
section
variable {X : Cx} {Wx : WX}
theorem si_zip {e e2 : Expr} {fr : FE (List W)} {p pos tpos : Pos} {elts : List Expr} {kk : Nat} (hm : X.mg "zip" = none) (ha : SA X Wx [e, e2] fr) (hg : Gl X "zip" := by rfl)
    (hs : starEach [e, e2] X.env = (false, eval e X.env) :: starEach [e2] X.env := by rfl) (hpl : (backTo pos (starEach [e2] X.env)).any (·.1) = false := by rfl) :
    SI X Wx (.Tuple elts kk tpos) (.Call (.Name "zip" p) [e, e2] [] pos) (mItZ fr) := weakI (RZ.pi_zipA hg hm ha hs hpl) fun σ H R ⟨ρ, φ, S, F, s, q⟩ =>
  into F s q fun ws S1 vs ρ1 H1 e1 r1 s1 F1 q1 => by
    split at q1
    · rename_i w1 w2
      split at q1
      · rename_i b l b' m g g'
        split at q1
        · rename_i hb
          subst hb
          obtain ⟨v, v', rfl, r, r'⟩ := r1.of2
          obtain ⟨a, xs, rfl, hq, rs⟩ := asQ_of s1 r g
          obtain ⟨a', xs', rfl, hq', rs'⟩ := asQ_of s1 r' g'
          refine ⟨a, a', xs, xs', rfl, ?_⟩
          cases b with
          | true =>
            rw [if_pos rfl] at hq hq'
            have e := asQ_tup g
            subst e
            have e := asQ_tup g'
            subst e
            exact .inr ⟨hq, hq', q1 _ ρ1 H1 (Ext.refl _ _) (jok_zipT r r') s1⟩
          | false =>
            rw [if_neg (by decide)] at hq hq'
            exact .inl ⟨hq, hq', q1 _ ρ1 H1 (Ext.refl _ _) (jok_zipL r r' (asQ_lst g) (asQ_lst g')) s1⟩
        · exact q1.elim
      · exact q1.elim
    · exact q1.elim
end
end Wm

set_option Elab.async false
set_option linter.all false
set_option maxRecDepth 100000
set_option maxHeartbeats 2000000
namespace Wm
open PySem PySem.Spec PyProof.Rows L2

/-! ### slices -/
def cutW (l : List W) (lo hi : Option Int) : List W := (l.drop (HT.sIx l.length 0 lo)).take (HT.sIx l.length l.length hi - HT.sIx l.length 0 lo)
theorem RWs.cut {K : PySem.W.Frag} {ρ : List Addr} {H : Hp} {vs : List V} {ws : List W} (r : RWs K ρ H vs ws) (lo hi : Option Int) : RWs K ρ H (cutV vs lo hi) (cutW ws lo hi) := by
  unfold cutV cutW
  rw [r.length]
  exact (r.drop _).take _
def oSl (w : W) (lo hi : Option Int) (S : Sto) : Option (W × Sto) := match asQ S w with
  | some (true, l) => tupO (cutW l lo hi) S
  | some (false, l) => lstO (cutW l lo hi) S
  | none => none
def mPart : Option (FE W) → FE (Option Int)
  | none => fun _ S => .ok none S
  | some f => fun φ S => (f φ S).bind fun w S1 => match w with
    | .int i => .ok (some i) S1
    | _ => .bad
def mSl (f : FE W) (lo hi : Option (FE W)) : FE W := fun φ S => (f φ S).bind fun w S1 => (mPart lo φ S1).bind fun l S2 => (mPart hi φ S2).bind fun h S3 => ofO (oSl w l h S3)
abbrev rP : List Addr → Hp → Option Int → Option Int → Prop := fun _ _ a b => a = b
abbrev SO' (X : Cx) (Wx : WX) (e : Option Expr) (f : FE (Option Int)) : Prop := PO X e (tI X.K rP Wx f)
section
variable {X : Cx} {Wx : WX} {e : Expr} {pos p2 : Pos} {f : FE W}
theorem weakO {e : Option Expr} {t t' : TO} (h : PO X e t) (w : ∀ σ H Q, t' σ H Q → t σ H Q) : PO X e t' := ⟨fun pins s σ H Q I q => h.run pins s σ H Q I (w σ H Q q)⟩
theorem so_none : SO' X Wx none (mPart none) := weakO po_none fun σ H Q ⟨ρ, φ, S, F, s, q⟩ => q _ ρ H (Ext.refl _ _) rfl s
theorem so_some (h : SE X Wx e f) : SO' X Wx (some e) (mPart (some f)) := weakO (po_some h) fun σ H Q ⟨ρ, φ, S, F, s, q⟩ =>
  into F s q fun w S1 v ρ1 H1 e1 r1 s1 F1 q1 => by
    cases r1 with
    | int i => exact ⟨i, rfl, q1 _ ρ1 H1 (Ext.refl _ _) rfl s1⟩
    | _ => exact q1.elim
theorem whole_cut {l : List W} {lo hi : Option Int} (h : HT.sIx l.length 0 lo = 0 ∧ HT.sIx l.length l.length hi = l.length) : cutW l lo hi = l := by
  unfold cutW
  rw [h.1, h.2]
  simp
/-- t[lo:hi], as it is made -/
def rSlF (K : PySem.W.Frag) : V → Option Int → Option Int → Hp → VK → Prop := fun x lo hi H Q => ∃ a xs, x = .ref a ∧ SqT K H a xs ∧
  (HT.sIx xs.length 0 lo = 0 ∧ HT.sIx xs.length xs.length hi = xs.length → Q (.ref a) H) ∧ (¬ (HT.sIx xs.length 0 lo = 0 ∧ HT.sIx xs.length xs.length hi = xs.length) → ∀ p o, H p = none → o.dict = none → Q (.ref p) (upd H p (.frz o (.tup (cutV xs lo hi)))))
theorem sl_tupF : SlR X (rSlF X.K) := by
  intro pins s σ H x v vl vu lo hi sl Q I rx hs pl pu h
  obtain ⟨a, xs, rfl, hx, q1, q2⟩ := h
  cases rx
  obtain ⟨its, r, ht, hz⟩ := I.tuple hx
  have len : its.toArray.size = xs.length := by rw [List.size_toArray]; exact r.length.symm
  refine ⟨"tuple", _, PyProof.Rows.slot_tuple_getitem.lookup, ht.typeIs, ?_⟩
  by_cases hw : HT.sIx xs.length 0 lo = 0 ∧ HT.sIx xs.length xs.length hi = xs.length
  · exact getItem_tuple_whole ht hs pl pu (by rw [len]; exact hw) ⟨.ref a, H, I, rfl, q1 hw⟩
  · refine HT.getItem_tuple_cut ht hs pl pu (by rw [len]; exact hw) ?_ (by rw [len]; exact hz)
    rw [len]
    exact ⟨.ref s.heap.objs.size, _, I.laid (t' := s.toks) (o := .frz { cls := .type "tuple", data := .seq ((its.drop (HT.sIx xs.length 0 lo)).take (HT.sIx xs.length xs.length hi - HT.sIx xs.length 0 lo)).toArray } (.tup (cutV xs lo hi))) (fun b ob q => Heap.get?_push_of_some _ q) (Nat.le_refl _)
      ⟨Heap.get?_push_size _ rfl, Nat.le_trans (cutV_length xs lo hi) hz, _, (r.drop (HT.sIx xs.length 0 lo)).take (HT.sIx xs.length xs.length hi - HT.sIx xs.length 0 lo), IsTup.new _ _⟩, rfl, q2 hw _ _ (I.hok.fresh (Nat.le_refl _)) rfl⟩
theorem se_sl {lo hi : Option Expr} {l h : Option (FE W)} (he : SE X Wx e f) (hl : SO' X Wx lo (mPart l)) (hh : SO' X Wx hi (mPart h)) : SE X Wx (.Subscript e (.Slice lo hi none p2) pos) (mSl f l h) :=
  weakE (pe_slice (SlR.or sl_list sl_tupF) he hl hh) fun σ H Q ⟨ρ, φ, S, F, s, q⟩ =>
  into F s q fun w S1 v ρ1 H1 e1 r1 s1 F1 q1 => into F1 s1 q1 fun a S2 a' ρ2 H2 e2 r2 s2 F2 q2 => into F2 s2 q2 fun b S3 b' ρ3 H3 e3 r3 s3 F3 q3 => by
    obtain rfl : a' = a := r2
    obtain rfl : b' = b := r3
    have q4 := PosR.of q3
    clear q3
    have rw3 := r1.mono (e2.trans e3)
    unfold oSl at q4
    split at q4
    · rename_i l g
      have e := asQ_tup g
      subst e
      obtain ⟨ad, vs, rfl, hq, rs⟩ := asT_of rw3
      refine .inr ⟨ad, vs, rfl, hq, fun hw => ?_, fun hw => (tup_new s3 (rs.cut a' b') q4).2⟩
      have hl := tupO_len q4
      unfold tupO at q4
      rw [if_pos hl] at q4
      refine q4 _ ρ3 H3 (Ext.refl _ _) ?_ s3
      rw [whole_cut (by rw [← rs.length]; exact hw)]
      exact rw3
    · rename_i l g
      obtain ⟨ad, vs, rfl, hq, rs⟩ := asL_of s3 rw3 (asQ_lst g)
      exact .inl ⟨ad, vs, rfl, hq, (lst_new s3 (rs.cut a' b') q4).2⟩
    · exact q4.elim
/-- a[i] -/
theorem se_ix {b : Expr} {g : FE W} {op : BOp} (ho : IxW X op) (ha : SE X Wx e f) (hb : SE X Wx b g) (hs : PlainIx b := by intro _ _; rfl) : SE X Wx (.Subscript e b pos) (mBin op f g) := weakE (pe_ix ho ha hb hs) bin_of
end

/-! ### isinstance of a built-in type -/
inductive Ty where
  | non | bool | int | str | list | tuple | dict
  deriving DecidableEq
def Ty.name : Ty → String
  | .non => "NoneType"
  | .bool => "bool"
  | .int => "int"
  | .str => "str"
  | .list => "list"
  | .tuple => "tuple"
  | .dict => "dict"
def isT (t T : Ty) : Bool := decide (t = T) || (decide (t = .bool) && decide (T = .int))
theorem kit_isT : ∀ t T : Ty, T ≠ .non → kitB t.name T.name = some (isT t T) := by
  intro t T h
  cases t <;> cases T <;> first | exact absurd rfl h | decide +kernel
def tyW (S : Sto) : W → Option Ty
  | .non => some .non
  | .bl _ => some .bool
  | .int _ => some .int
  | .str _ => some .str
  | .tup _ => some .tuple
  | .cl _ => none
  | .fn _ => none
  | .tuw _ => none
  | .ref n => match S[n]? with
    | some (.lst _) => some .list
    | some (.dic _) => some .dict
    | _ => none
def mIsi (T : Ty) (f : FE W) : FE W := fun φ S => (f φ S).bind fun w S1 => match tyW S1 w with
  | some t => .ok (.bl (isT t T)) S1
  | none => .bad
theorem tyW_of {K : PySem.W.Frag} {ρ : List Addr} {H : Hp} {S : Sto} {x : V} {w : W} {t : Ty} (s : SW K ρ H S) (r : RW K ρ H x w) (h : tyW S w = some t) : TyX K H x (.type t.name) := by
  cases r with
  | non => cases h; exact .base .non
  | bl b => cases h; exact .base (.bl b)
  | int b => cases h; exact .base (.int b)
  | str b => cases h; exact .base (.str b)
  | tup e _ r => cases h; exact .fTuple e
  | tuw _ _ => cases h
  | cl _ _ => cases h
  | fn _ => cases h
  | ref e =>
    rename_i a n
    simp only [tyW] at h
    split at h
    · rename_i l g
      cases h
      obtain ⟨vs, e1, _⟩ := s.ob n a _ e g
      exact .base (.lst e1)
    · rename_i l g
      cases h
      obtain ⟨vs, e1, _⟩ := s.ob n a _ e g
      exact .base (.dK e1)
    · cases h
section
variable {X : Cx} {Wx : WX} {e : Expr} {pos p pT : Pos} {f : FE W}
theorem se_isi (T : Ty) {x : Str} (hi : X.mg "isinstance" = none) (hT : X.mg x = none) (hv : bootBuiltins "isinstance" = some (.builtin "isinstance")) (hvT : bootBuiltins x = some (.type T.name)) (he : SE X Wx e f) (hg : Gl X "isinstance" := by rfl) (hgT : Gl X x := by rfl) (hN : T ≠ .non := by decide)
    (hn : x ≠ "__name__" := by decide) (hd : (x == ("__debug__" : Str)) = false := by decide)
    (hs1 : starEach [e, .Name x pT] X.env = (false, eval e X.env) :: starEach [.Name x pT] X.env := by rfl) (hs2 : starEach [.Name x pT] X.env = (false, eval (.Name x pT) X.env) :: starEach [] X.env := by rfl)
    (hpl : (backTo pos (starEach [.Name x pT] X.env)).any (·.1) = false := by rfl) :
    SE X Wx (.Call (.Name "isinstance" p) [e, .Name x pT] [] pos) (mIsi T f) :=
  weakE (pe_callB call_isi hg hi hv (pa_cons he (pa_cons (pe_bltn (v := .ty T.name) hgT hT hvT rfl hn hd) pa_nil hs2) hs1) (he := hs1) (hpl := hpl)) fun σ H Q ⟨ρ, φ, S, F, s, q⟩ =>
  into F s q fun w S1 v ρ1 H1 e1 r1 s1 F1 q1 => by
    split at q1
    · rename_i t g
      exact ⟨v, .ty T.name, .type t.name, .type T.name, isT t T, rfl, .ty _, tyW_of s1 r1 g, kit_ty (kit_isT t T hN), q1 _ ρ1 H1 (Ext.refl _ _) (.bl _) s1⟩
    · exact q1.elim
end

/-! ### raise -/
/-- an own class of error, without an own __init__ -/
structure ExC (K : PySem.W.Frag) (mg : Str → Option Value) (x : Str) (C : Addr) : Prop where
  g : mg x = some (.ref C)
  q : PySem.W.excIn K C [.type "ValueError", .type "Exception", .type "BaseException", .type "object"] "ValueError.__new__" = true
  k : PySem.W.keepIn K (.ref C) = true
  b : PySem.W.subIn K (.ref C) (.type "BaseException") = some true
  t : PySem.W.typeIn K (.ref C) = some (.type "type")
def mRaise (C : Addr) : SM := fun φ S => .ex ⟨C, none⟩ φ S
theorem ss_raise {X : Cx} {Wx : WX} {k : Nat} {x m : Str} {j : Nat} {C : Addr} {p p2 pos pos2 : Pos} (c : Cn X Wx k) (E : ExC X.K X.mg x C) (hg : Gl X x := by rfl) (hdb : (x == ("__debug__" : Str)) = false := by decide) :
    SS X Wx (.Raise (some (.Call (.Name x p) [.Constant (.str m) j p2] [] pos)) none pos2) (mRaise C) :=
  weakS (L2N.ps_raise c.calm c.tk (L2N.pmk_own PySem.F.excBase_ValueError E.q E.g E.k (raises_own E.b E.t) hg hdb)) fun D σ H ⟨ρ, φ, S, F, s, q⟩ =>
    q _ _ ρ σ H (Ext.refl _ _) F ⟨rfl, rfl⟩ s

/-! ### dicts, their keys numbers or texts -/
def keyW : W → Option Key
  | .int i => some (.inl i)
  | .str x => some (.inr x)
  | _ => none
mutual
def weq : W → W → Bool
  | .non, .non => true
  | .bl a, .bl b => a == b
  | .int i, .int j => decide (i = j)
  | .str a, .str b => decide (a = b)
  | .ref n, .ref m => decide (n = m)
  | .fn n, .fn m => decide (n = m)
  | .tup l, .tup m => weqs l m
  | .cl l, .cl m => weqs l m
  | _, _ => false
def weqs : List W → List W → Bool
  | [], [] => true
  | a :: l, b :: m => weq a b && weqs l m
  | _, _ => false
end
def lookW (kvs : List (W × W)) (k : W) : Option W := (kvs.find? fun p => weq p.1 k).map (·.2)
def putW (kvs : List (W × W)) (k v : W) : List (W × W) := if (kvs.any fun p => weq p.1 k) = true then kvs.map (fun p => if weq p.1 k = true then (p.1, v) else p) else kvs ++ [(k, v)]
section
variable {K : PySem.W.Frag} {ρ : List Addr} {H : Hp} {S : Sto} {x y : V} {w k : W} {ks : List (Key × V)} {kvs : List (W × W)} {kk : Key}
theorem key_rel (h : keyW k = some kk) (r : RW K ρ H x k) : x = kV kk := by
  cases r <;> simp only [keyW] at h <;> first | cases h | skip
  · rfl
  · rfl
theorem rel_key {p : Key} (r : RW K ρ H (kV p) w) : keyW w = some p := by
  cases p with
  | inl i => cases r; rfl
  | inr s => cases r; rfl
theorem weq_key {p q : W} {a b : Key} (h : keyW p = some a) (g : keyW q = some b) : weq p q = decide (a = b) := by
  cases p <;> simp only [keyW] at h <;> try cases h
  all_goals (cases q <;> simp only [keyW] at g <;> try cases g)
  · rename_i i j
    simp only [weq]
    by_cases e : i = j
    · subst e; simp
    · rw [decide_eq_false e, decide_eq_false (fun z => e (Sum.inl.inj z))]
  · simp only [weq]; exact (decide_eq_false (fun z => nomatch z)).symm
  · simp only [weq]; exact (decide_eq_false (fun z => nomatch z)).symm
  · rename_i i j
    simp only [weq]
    by_cases e : i = j
    · subst e; simp
    · rw [decide_eq_false e, decide_eq_false (fun z => e (Sum.inr.inj z))]
theorem KWs.look (h : KWs K ρ H ks kvs) (hk : keyW k = some kk) : (valV ks kk = none ∧ lookW kvs k = none) ∨ ∃ v w, valV ks kk = some v ∧ lookW kvs k = some w ∧ RW K ρ H v w := by
  unfold KWs at h
  induction h with
  | nil => exact .inl ⟨rfl, rfl⟩
  | @cons p q ps qs h t ih =>
    have e := weq_key (rel_key h.1) hk
    by_cases z : p.1 = kk
    · rw [decide_eq_true z] at e
      exact .inr ⟨p.2, q.2, valV_pos z, by unfold lookW; rw [List.find?_cons, e]; rfl, h.2⟩
    · rw [decide_eq_false z] at e
      have l1 : lookW (q :: qs) k = lookW qs k := by unfold lookW; rw [List.find?_cons, e]
      rw [valV_neg z, l1]
      exact ih
theorem KWs.any (h : KWs K ρ H ks kvs) (hk : keyW k = some kk) : (ks.any fun kv => decide (kv.1 = kk)) = kvs.any fun p => weq p.1 k := by
  unfold KWs at h
  induction h with
  | nil => rfl
  | cons h t ih => rw [List.any_cons, List.any_cons, ih, weq_key (rel_key h.1) hk]
theorem KWs.put (h : KWs K ρ H ks kvs) (hk : keyW k = some kk) (rk : RW K ρ H x k) (rv : RW K ρ H y w) : KWs K ρ H (putK ks kk y) (putW kvs k w) := by
  unfold putK putW
  rw [h.any hk]
  by_cases a : (kvs.any fun p => weq p.1 k) = true
  · rw [if_pos a, if_pos a]
    unfold KWs at h ⊢
    clear a
    induction h with
    | nil => exact .nil
    | @cons p q ps qs h t ih =>
      rw [List.map_cons, List.map_cons]
      refine .cons ?_ ih
      have e := weq_key (rel_key h.1) hk
      by_cases z : p.1 = kk
      · rw [decide_eq_true z] at e
        rw [if_pos z, if_pos e]
        exact ⟨h.1, rv⟩
      · rw [decide_eq_false z] at e
        rw [if_neg z, if_neg (by rw [e]; decide)]
        exact h
  · rw [if_neg a, if_neg a]
    unfold KWs at h ⊢
    clear a
    induction h with
    | nil => exact .cons ⟨by rw [← key_rel hk rk]; exact rk, rv⟩ .nil
    | cons h t ih => exact .cons h ih
theorem putW_len : (putW kvs k w).length ≤ kvs.length + 1 := by
  unfold putW
  split
  · rw [List.length_map]; omega
  · rw [List.length_append]; simp
end
def mDNew : FE W := fun _ S => .ok (.ref S.length) (S ++ [.dic []])
def isDic (S : Sto) : W → Bool
  | .ref n => match S[n]? with
    | some (.dic _) => true
    | _ => false
  | _ => false
/-- the dict and the key: what stands there -/
def lookO (d k : W) (S : Sto) : Option (Option W) := match d, keyW k with
  | .ref n, some _ => match S[n]? with
    | some (.dic kvs) => some (lookW kvs k)
    | _ => none
  | _, _ => none
theorem look_of {K : PySem.W.Frag} {ρ : List Addr} {H : Hp} {S : Sto} {x y : V} {d k : W} {o : Option W} (s : SW K ρ H S) (r : RW K ρ H x d) (rk : RW K ρ H y k) (h : lookO d k S = some o) :
    ∃ a, x = .ref a ∧ ((DGet H a y none ∧ o = none) ∨ ∃ v w, DGet H a y (some v) ∧ o = some w ∧ RW K ρ H v w) := by
  unfold lookO at h
  split at h
  · rename_i n kk hk
    split at h
    · rename_i kvs g
      cases h
      cases r with
      | ref e =>
        rename_i a
        obtain ⟨ks, e1, r2⟩ := s.ob n a _ e g
        have ey := key_rel hk rk
        subst ey
        refine ⟨a, rfl, ?_⟩
        have dg := DGet.k (k := kk) e1
        rcases r2.look hk with ⟨h1, h2⟩ | ⟨v, w, h1, h2, h3⟩
        · rw [h1] at dg; exact .inl ⟨dg, h2⟩
        · rw [h1] at dg; exact .inr ⟨v, w, dg, h2, h3⟩
    · cases h
  · cases h
def oIxD : BOp := fun d k S => match lookO d k S with
  | some (some w) => some (w, S)
  | _ => none
def oInD : BOp := fun k d S => match lookO d k S with
  | some o => some (.bl o.isSome, S)
  | none => none
def oNotInD : BOp := fun k d S => match lookO d k S with
  | some o => some (.bl (!o.isSome), S)
  | none => none
section
variable {X : Cx} {Wx : WX} {k : Nat}
theorem se_dnew {pos : Pos} : SE X Wx (.Dict [] [] pos) mDNew := weakE pe_dnewK fun σ H Q ⟨ρ, φ, S, F, s, q⟩ p hp =>
  q _ (ρ ++ [p]) _ (Ext.push hp) (.ref (push_at s p)) (s.push hp ⟨[], upd_same, .nil⟩)
theorem ix_dict (hu : X.A.units + 1 < cLine) : IxR X (fun x y H Q => ∃ a v, x = .ref a ∧ DGet H a y (some v) ∧ Q v H) := by
  intro value slice pins s σ H x y v u Q I rx ry h hs
  obtain ⟨a, z, rfl, g, q⟩ := h
  obtain rfl : v = Value.ref a := rx
  exact tail_any (dict_typeIs I g) PySem.F.slot_dict_getitem.lookup (d_getItem hu I g ry fun w' s' I' rw' => ⟨z, H, I', rw', q⟩) hs
theorem ix_d (hu : X.A.units + 1 < cLine) : IxW X oIxD := ixw (ix_dict hu) fun ρ H S x y w1 w2 Q s r1 r2 q => by
  unfold oIxD at q
  split at q
  · rename_i w g
    obtain ⟨a, rfl, h⟩ := look_of s r1 r2 g
    rcases h with ⟨dg, h⟩ | ⟨v', w', dg, h, rv⟩
    · cases h
    · cases h
      exact ⟨a, v', rfl, dg, q _ ρ H (Ext.refl _ _) rv s⟩
  · exact q.elim
/-- a list, a tuple, a dict -/
def oIx : BOp := orOp oIxQ oIxD
theorem ix_any (hu : X.A.units + 1 < cLine) : IxW X oIx := ixw_or ix_q (ix_d hu)
theorem RW.isRef {K : PySem.W.Frag} {ρ : List Addr} {H : Hp} {x : V} {n : Nat} (r : RW K ρ H x (.ref n)) : ∃ a, x = .ref a ∧ ρ[n]? = some a := by
  cases r with
  | ref e => exact ⟨_, rfl, e⟩
/-! stores -/
abbrev SOp := W → W → W → Sto → Option Sto
def rsOf (K : PySem.W.Frag) (op : SOp) : TSet := fun o i v H Q => ∃ ρ S wo wi wv, SW K ρ H S ∧ RW K ρ H o wo ∧ RW K ρ H i wi ∧ RW K ρ H v wv ∧ match op wo wi wv S with
  | some S' => ∀ H', Ext ρ H ρ H' → SW K ρ H' S' → Q H'
  | none => False
abbrev PSetW (X : Cx) (op : SOp) : Prop := PSet X (rsOf X.K op)
def oSetL : SOp
  | .ref n, .int k, w, S => match S[n]? with
    | some (.lst l) => match ixN l.length k with
      | some j => some (S.set n (.lst (l.set j w)))
      | none => none
    | _ => none
  | _, _, _, _ => none
def oSetD : SOp := fun d k w S => match d, keyW k with
  | .ref n, some _ => match S[n]? with
    | some (.dic kvs) => if kvs.length < bigL then some (S.set n (.dic (putW kvs k w))) else none
    | _ => none
  | _, _ => none
def oSet : SOp := fun d k w S => match oSetL d k w S with
  | some S' => some S'
  | none => oSetD d k w S
theorem psw_list : PSetW X oSetL := fun pins s σ H o i v ov iv u Q I ro ri rv ⟨ρ, S, wo, wi, wv, ss, r1, r2, r3, q⟩ => by
  refine set_list pins s σ H o i v ov iv u Q I ro ri rv ?_
  unfold oSetL at q
  split at q
  · rename_i S' g
    split at g
    · rename_i n k
      split at g
      · rename_i l g1
        split at g
        · rename_i j g2
          cases g
          cases r2
          obtain ⟨a, rfl, e⟩ := r1.isRef
          obtain ⟨xs, e1, rs⟩ := ss.ob n a _ e g1
          have E := Ext.upd (u := .lst (xs.set j v)) ss e g1
          exact ⟨a, xs, k, j, rfl, rfl, e1, by rw [rs.length]; exact g2, q _ E (ss.set e g1 ⟨_, upd_same, RWs.set (r3.mono E) j (rs.mono E)⟩)⟩
        · cases g
      · cases g
    · cases g
  · exact q.elim
theorem psw_dict (hu : X.A.units + 1 < cLine) : PSetW X oSetD := fun pins s σ H o i v ov iv u Q I ro ri rv ⟨ρ, S, wo, wi, wv, ss, r1, r2, r3, q⟩ => by
  unfold oSetD at q
  split at q
  · rename_i S' g
    split at g
    · rename_i n kk hk
      split at g
      · rename_i kvs g1
        split at g
        · rename_i hl
          cases g
          obtain ⟨a, rfl, e⟩ := r1.isRef
          obtain ⟨ks, e1, rs⟩ := ss.ob n a _ e g1
          have ey := key_rel hk r2
          subst ey
          obtain rfl : ov = Value.ref a := ro
          have hks : ks.length < sizeLine := by rw [Paired.length rs]; exact bigL_lt hl
          refine d_setItem (v := v) hu I (DPut.k (k := kk) e1 hks) ri rv fun s' I' => ?_
          have E := Ext.upd (u := .dK (putK ks kk v)) ss e g1
          exact ⟨_, I', q _ E (ss.set e g1 ⟨_, upd_same, (KWs.put (rs.mono E) hk (r2.mono E) (r3.mono E))⟩)⟩
        · cases g
      · cases g
    · cases g
  · exact q.elim
theorem psw_any (hu : X.A.units + 1 < cLine) : PSetW X oSet := fun pins s σ H o i v ov iv u Q I ro ri rv ⟨ρ, S, wo, wi, wv, ss, r1, r2, r3, q⟩ => by
  unfold oSet at q
  cases g : oSetL wo wi wv S with
  | some S' => rw [g] at q; exact psw_list pins s σ H o i v ov iv u Q I ro ri rv ⟨ρ, S, wo, wi, wv, ss, r1, r2, r3, by rw [g]; exact q⟩
  | none => rw [g] at q; exact psw_dict hu pins s σ H o i v ov iv u Q I ro ri rv ⟨ρ, S, wo, wi, wv, ss, r1, r2, r3, q⟩
def mStore (fo fi fv : FE W) : SM := fun φ S => bindS (fv φ S) φ fun v S1 => bindS (fo φ S1) φ fun o S2 => bindS (fi φ S2) φ fun i S3 => match oSet o i v S3 with
  | some S4 => .nx φ S4
  | none => .bad
theorem ss_store {o i e : Expr} {pos pos' : Pos} {fo fi fv : FE W} (c : Cn X Wx k) (ho : SE X Wx o fo) (hi : SE X Wx i fi) (hv : SE X Wx e fv)
    (ha : ∀ v, assign (.Subscript o i pos') X.env v = (do
      let ov ← holding [v] (eval o X.env)
      let iv ← holding [v, ov] (eval i X.env)
      standAt pos'
      holding [v, ov, iv] (setItem ov iv v)
      release [v, ov, iv] []) := by intro _; rfl)
    (hs : swapsWithSole [.Subscript o i pos'] e pos.line X.env = pure false := by rfl) (hw : swappedStores [.Subscript o i pos'] e X.env = pure none := by rfl) (h1 : (assignEach [.Subscript o i pos'] X.env).map (·.2) = [assign (.Subscript o i pos') X.env] := by rfl) :
    SS X Wx (.Assign [.Subscript o i pos'] e pos) (mStore fo fi fv) :=
  weakS (ps_asg hv (pg_sub ho hi (psw_any c.hu) ha) hs hw h1) fun D σ H ⟨ρ, φ, S, F, s, q⟩ =>
  intoS F s q fun v S1 vv ρ1 H1 e1 r1 s1 F1 q1 => intoS F1 s1 q1 fun ow S2 vo ρ2 H2 e2 r2 s2 F2 q2 => intoS F2 s2 q2 fun iw S3 vi ρ3 H3 e3 r3 s3 F3 q3 => by
    refine ⟨ρ3, S3, ow, iw, v, s3, r2.mono e3, r3, r1.mono (e2.trans e3), ?_⟩
    split at q3
    · rename_i S4 g
      exact fun H' E s' => q3 ρ3 σ H' E (F3.mono E) s'
    · exact q3.elim
theorem ow_inD (hu : X.A.units + 1 < cLine) : OpW X (compareOp .In) oInD := fun pins s σ H x y v u Q I rx ry ⟨ρ, S, w1, w2, s1, r1, r2, q⟩ => by
  unfold oInD at q
  split at q
  · rename_i o g
    obtain ⟨a, rfl, h⟩ := look_of s1 r2 r1 g
    obtain rfl : u = Value.ref a := ry
    rcases h with ⟨dg, rfl⟩ | ⟨v', w', dg, rfl, _⟩
    · exact d_in hu I dg rx fun s' I' => ⟨.bl _, H, I', rfl, q _ ρ H (Ext.refl _ _) (.bl _) s1⟩
    · exact d_in hu I dg rx fun s' I' => ⟨.bl _, H, I', rfl, q _ ρ H (Ext.refl _ _) (.bl _) s1⟩
  · exact q.elim
theorem ow_notInD (hu : X.A.units + 1 < cLine) : OpW X (compareOp .NotIn) oNotInD := fun pins s σ H x y v u Q I rx ry ⟨ρ, S, w1, w2, s1, r1, r2, q⟩ => by
  unfold oNotInD at q
  split at q
  · rename_i o g
    obtain ⟨a, rfl, h⟩ := look_of s1 r2 r1 g
    obtain rfl : u = Value.ref a := ry
    rcases h with ⟨dg, rfl⟩ | ⟨v', w', dg, rfl, _⟩
    · exact d_notIn hu I dg rx fun s' I' => ⟨.bl _, H, I', rfl, q _ ρ H (Ext.refl _ _) (.bl _) s1⟩
    · exact d_notIn hu I dg rx fun s' I' => ⟨.bl _, H, I', rfl, q _ ρ H (Ext.refl _ _) (.bl _) s1⟩
  · exact q.elim
/-- d.get(k, x) -/
def mGet2 (fd fk fx : FE W) : FE W := fun φ S => (fd φ S).bind fun d S1 => if isDic S1 d = true then (fk φ S1).bind fun k S2 => (fx φ S2).bind fun x S3 => match lookO d k S3 with
  | some o => .ok (o.getD x) S3
  | none => .bad
  else .bad
theorem se_get2 {o e f : Expr} {apos cpos : Pos} {fd fk fx : FE W} (c : Cn X Wx k) (ho : SE X Wx o fd) (he : SE X Wx e fk) (hf : SE X Wx f fx) (m : M2 X o "get" apos e f cpos := by exact ⟨rfl, rfl, rfl, rfl⟩) : SE X Wx (.Call (.Attribute o "get" apos) [e, f] [] cpos) (mGet2 fd fk fx) :=
  weakE (pe_dget2 c.hu ho he hf m) fun σ H Q ⟨ρ, φ, S, F, s, q⟩ =>
  into F s q fun d S1 v ρ1 H1 e1 r1 s1 F1 q1 => by
    by_cases hd : isDic S1 d = true
    · rw [if_pos hd] at q1
      have isd : ∃ a, v = .ref a ∧ IsD H1 a := by
        cases d with
        | ref n =>
          cases r1 with
          | ref e' =>
            rename_i a
            simp only [isDic] at hd
            split at hd
            · rename_i kvs g
              obtain ⟨ks, e2, _⟩ := s1.ob n a _ e' g
              exact ⟨a, rfl, .inl ⟨ks, .inl e2⟩⟩
            · cases hd
        | _ => cases hd
      obtain ⟨a, rfl, hisd⟩ := isd
      refine ⟨a, rfl, hisd, into F1 s1 q1 fun kw S2 v2 ρ2 H2 e2 r2 s2 F2 q2 => into F2 s2 q2 fun xw S3 v3 ρ3 H3 e3 r3 s3 F3 q3 => ?_⟩
      split at q3
      · rename_i ow g
        obtain ⟨a', ea, h⟩ := look_of s3 (r1.mono (e2.trans e3)) (r2.mono e3) g
        cases ea
        rcases h with ⟨dg, rfl⟩ | ⟨v', w', dg, rfl, rv⟩
        · exact ⟨_, dg, q3 _ ρ3 H3 (Ext.refl _ _) r3 s3⟩
        · exact ⟨_, dg, q3 _ ρ3 H3 (Ext.refl _ _) rv s3⟩
      · exact q3.elim
    · rw [if_neg hd] at q1; exact q1.elim
end
end Wm

set_option Elab.async false
set_option linter.all false
set_option maxRecDepth 100000
set_option maxHeartbeats 2000000
namespace Wm
open PySem PySem.Spec PyProof.Rows L2

/-! ### sorted -/
def alikeB : List PyData → Bool
  | [] => true
  | d :: r => (d :: r).all fun e => PySem.W.alike d e
def tupD : PyData → Bool
  | .tuple (_ :: _) => true
  | _ => false
def othD : PyData → Bool
  | .none => false
  | .tuple _ => false
  | _ => true
/-- any two alike; all tuples with an item, or none -/
def sortable (ds : List PyData) : Bool := (ds.all fun d => ds.all fun e => PySem.W.alike d e) && (ds.all tupD || ds.all othD) && ds.all fun d => decide (d.depth < 40)
def keyed (S : Sto) : List W → Option (List (W × PyData))
  | [] => some []
  | w :: ws => match dat S w, keyed S ws with
    | some d, some r => some ((w, d) :: r)
    | _, _ => none
def sortP (l : List (W × PyData)) : List (W × PyData) := l.mergeSort (PySem.W.dataLe false (·.2))
def sortW (S : Sto) (ws : List W) : Option (List W) := match keyed S ws with
  | some l => if sortable (l.map (·.2)) = true then some ((sortP l).map (·.1)) else none
  | none => none
theorem sortable_of {ds : List PyData} (h : sortable ds = true) : PySem.W.AllAlike ds ∧ PySem.W.Sortable ds ∧ ∀ d ∈ ds, d.depth < 40 := by
  unfold sortable at h
  rw [Bool.and_eq_true, Bool.and_eq_true, Bool.or_eq_true] at h
  obtain ⟨⟨h1, h2⟩, h3⟩ := h
  refine ⟨fun d hd e he => List.all_eq_true.mp (List.all_eq_true.mp h1 d hd) e he, ?_, fun d hd => of_decide_eq_true (List.all_eq_true.mp h3 d hd)⟩
  rcases h2 with h2 | h2
  · refine .inl fun d hd => ?_
    have := List.all_eq_true.mp h2 d hd
    unfold tupD at this
    split at this
    · exact ⟨_, _, rfl⟩
    · cases this
  · refine .inr fun d hd => ?_
    have := List.all_eq_true.mp h2 d hd
    unfold othD at this
    split at this
    · cases this
    · cases this
    · rename_i a b
      exact ⟨fun z => a z, fun xs z => b xs z⟩
section
variable {K : PySem.W.Frag} {ρ : List Addr} {H : Hp} {S : Sto}
theorem keyed_fst : ∀ {ws : List W} {l : List (W × PyData)}, keyed S ws = some l → l.map (·.1) = ws
  | [], _, h => by cases h; rfl
  | w :: ws, l, h => by
    unfold keyed at h
    split at h
    · rename_i d r h1 h2
      cases h
      rw [List.map_cons, keyed_fst h2]
    · cases h
theorem keyed_each {X : Cx} {pins : List (Addr × Obj)} {σ : L2.St} {s : Shared} (I : Inv X pins σ H s) (ss : SW X.K ρ H S) : ∀ {ws : List W} {l : List (W × PyData)} {vs : List V} {us : List Value}, keyed S ws = some l → RWs X.K ρ H vs ws → Vals vs us →
    PySem.W.EachIs (fun (u : Value) (b : W × PyData) => ∃ v, RelV v u ∧ RW X.K ρ H v b.1) us l ∧ PySem.W.EachIs (fun (u : Value) (b : W × PyData) => ∃ as, Reads s.heap u b.2 as) us l
  | [], l, vs, us, h, r, ru => by cases h; cases r; cases ru; exact ⟨.nil, .nil⟩
  | w :: ws, l, vs, us, h, r, ru => by
    unfold keyed at h
    split at h
    · rename_i d r' h1 h2
      cases h
      cases r with
      | cons r1 r2 =>
        cases ru with
        | cons q1 q2 =>
          obtain ⟨i1, i2⟩ := keyed_each I ss h2 r2 q2
          obtain ⟨d1, _⟩ := dat_of ss h1 r1
          exact ⟨.cons ⟨_, q1, r1⟩ i1, .cons (Dp.reads I _ _ _ d1 q1) i2⟩
    · cases h
theorem each_back {R : Value → W × PyData → Prop} (hR : ∀ u b, R u b → ∃ v, RelV v u ∧ RW K ρ H v b.1) : ∀ {us : List Value} {l : List (W × PyData)}, PySem.W.EachIs R us l → ∃ vs, Vals vs us ∧ RWs K ρ H vs (l.map (·.1))
  | _, _, .nil => ⟨[], .nil, .nil⟩
  | _, _, .cons h t => by
    obtain ⟨v, h1, h2⟩ := hR _ _ h
    obtain ⟨vs, i1, i2⟩ := each_back hR t
    exact ⟨v :: vs, .cons h1 i1, .cons h2 i2⟩
end
def oSortL : COp
  | [w], S => match asQ S w with
    | some (false, l) => match sortW S l with
      | some m => lstO m S
      | none => none
    | _ => none
  | _, _ => none
section
variable {X : Cx} {Wx : WX} {k : Nat}
theorem cw_sortL (hu : X.A.units + 64 < cLine) : CallW X (.builtin "sorted") oSortL := fun pins s σ H xs us Q I rs ⟨ρ, S, ws, ss, r1, q⟩ => by
  unfold oSortL at q
  split at q
  · rename_i w
    split at q
    · rename_i l g
      split at q
      · rename_i m hm
        obtain ⟨v, rfl, rv⟩ := r1.of1
        obtain ⟨a, vs, rfl, hq, rws⟩ := asL_of ss rv (asQ_lst g)
        rw [Vals.ref1 rs]
        obtain ⟨its, rvals, hl, hz⟩ := I.list hq
        unfold sortW at hm
        split at hm
        · rename_i kl hk
          split at hm
          · rename_i hs
            cases hm
            obtain ⟨s1, s2, s3⟩ := sortable_of hs
            obtain ⟨e1, e2⟩ := keyed_each I ss hk rws rvals
            have kl_len : kl.length = vs.length := by rw [rws.length, ← keyed_fst hk, List.length_map]
            refine PySem.W.sorted_data (enc := (·.2)) hl.isList e1 e2 s1 s2 (by rw [kl_len]; exact hz) (fun b hb => ?_) fun out ho he => ?_
            · have := s3 b.2 (List.mem_map.mpr ⟨b, hb, rfl⟩)
              show X.A.units + 2 + b.2.depth < cLine
              omega
            · obtain ⟨ys, y1, y2⟩ := each_back (K := X.K) (ρ := ρ) (H := H) (fun _ _ z => z) he
              obtain ⟨ep, he'⟩ := PyProof.Rows.sortedAll_at s.heap its (List.toArray out)
              have fin := lst_new ss y2 q
              exact ⟨.ref _, upd H (s.heap.objs.size + 1) (.lst ys), I.laid (t' := s.toks) (fun _ _ => PyProof.Rows.sortedAll_old) (Nat.le_succ _) ⟨fin.1, out, ep, y1, he'⟩, rfl, fin.2 _ (I.hok.fresh (Nat.le_succ _))⟩
          · cases hm
        · cases hm
      · exact q.elim
    · exact q.elim
  · exact q.elim
end
/-! sorted(d.items()), numbers to numbers -/
def le2 (a b : Int × Int) : Bool := decide (a.1 < b.1 ∨ (a.1 = b.1 ∧ a.2 ≤ b.2))
def tp (p : Int × Int) : W := .tup [.int p.1, .int p.2]
def intPairs : List (W × W) → Option (List (Int × Int))
  | [] => some []
  | (.int i, .int j) :: r => (intPairs r).map ((i, j) :: ·)
  | _ :: _ => none
def mSortI (f : FE W) : FE W := fun φ S => (f φ S).bind fun w S1 => match w with
  | .ref n => match S1[n]? with
    | some (.dic kvs) => match intPairs kvs with
      | some ps => ofO (lstO ((ps.mergeSort le2).map tp) S1)
      | none => .bad
    | _ => .bad
  | _ => .bad
section
variable {K : PySem.W.Frag} {ρ : List Addr} {H : Hp} {S : Sto}
theorem KWs.ints : ∀ {ks : List (Key × V)} {kvs : List (W × W)} {ps : List (Int × Int)}, KWs K ρ H ks kvs → intPairs kvs = some ps → ks = ps.map fun p => ((Sum.inl p.1 : Key), V.int p.2)
  | _, _, ps, .nil, h => by cases h; rfl
  | p :: _, q :: _, ps, .cons r t, h => by
    obtain ⟨q1, q2⟩ := q
    obtain ⟨p1, p2⟩ := p
    obtain ⟨r1, r2⟩ := r
    cases q1 with
    | int i =>
      cases q2 with
      | int j =>
        unfold intPairs at h
        obtain ⟨ms, h1, rfl⟩ := Option.map_eq_some_iff.mp h
        have ih := KWs.ints t h1
        subst ih
        simp only at r1 r2
        cases p1 with
        | inl i' =>
          cases r1
          cases r2
          rfl
        | inr x => cases r1
      | _ => simp [intPairs] at h
    | _ => simp [intPairs] at h
end
/-- a tuple as it was made -/
def TupF (H : Hp) (t : Addr) (xs : List V) : Prop := ∃ o : Obj, H t = some (.frz o (.tup xs)) ∧ o.dict = none
/-- pairs tracked at their addresses, as they stand -/
def putF (g : Addr → Obj) : Hp → List Addr → List (Key × V) → Hp
  | H, a :: as, p :: kvs => putF g (upd H a (.frz (g a) (.tup [kV p.1, p.2]))) as kvs
  | H, _, _ => H
theorem putF_off {g : Addr → Obj} {b : Addr} : ∀ (as : List Addr) (kvs : List (Key × V)) (H : Hp), b ∉ as → putF g H as kvs b = H b
  | [], _, _, _ => rfl
  | _ :: _, [], _, _ => rfl
  | a :: as, p :: kvs, H, h => by
    have h1 : b ≠ a := fun z => h (by rw [z]; exact List.mem_cons_self)
    show putF g (upd H a _) as kvs b = H b
    rw [putF_off as kvs _ (fun z => h (List.mem_cons_of_mem _ z)), upd_ne h1]
theorem putF_at {g : Addr → Obj} : ∀ (as : List Addr) (kvs : List (Key × V)) (H : Hp), as.length = kvs.length → as.Nodup → Paired (fun (t : Addr) (p : Key × V) => putF g H as kvs t = some (.frz (g t) (.tup [kV p.1, p.2]))) as kvs
  | [], [], _, _, _ => .nil
  | [], _ :: _, _, h, _ => by cases h
  | _ :: _, [], _, h, _ => by cases h
  | a :: as, p :: kvs, H, h, hn => by
    obtain ⟨n1, n2⟩ := List.nodup_cons.mp hn
    refine .cons ?_ (putF_at as kvs _ (Nat.succ.inj h) n2)
    show putF g (upd H a _) as kvs a = _
    rw [putF_off as kvs _ n1, upd_same]
theorem items_laid2 {X : Cx} {pins : List (Addr × Obj)} {σ : L2.St} {H : Hp} {s : Shared} {h' : Heap} {tk : Nat} {kvs : List (Key × V)} {vs : List (Key × Value)} {lo : Addr} {as : List Addr} (I : Inv X pins σ H s) (kv : KV kvs vs)
    (hk : ∀ b o, s.heap.get? b = some o → h'.get? b = some o) (hlo : s.heap.objs.size ≤ lo) (hl : as.length = vs.length) (hG : PySem.W.KdxG (mixKind X.prog X.w) vs lo h' as) :
    ∃ H' : Hp, (∀ b o, H b = some o → H' b = some o) ∧ Paired (fun (t : Addr) (q : Key × V) => TupF H' t [kV q.1, q.2]) as kvs ∧ Inv X pins σ H' { s with heap := h', toks := tk } := by
  have lk : kvs.length = vs.length := Paired.length kv
  have nd : as.Nodup := List.Pairwise.imp (fun {a b} (h : a < b) => Nat.ne_of_lt h) hG.rise
  have new : ∀ t ∈ as, H t = none := fun t ht => I.hok.fresh (Nat.le_of_lt (Nat.lt_of_le_of_lt hlo (hG.above t ht)))
  generalize hg : (fun a => (h'.get? a).getD { cls := .none, data := .fields #[] } : Addr → Obj) = g
  have g_at : ∀ a o, h'.get? a = some o → g a = o := fun a o e => by rw [← hg]; show (h'.get? a).getD _ = o; rw [e]; rfl
  have atP := putF_at (g := g) as kvs H (by omega) nd
  have off : ∀ b, b ∉ as → putF g H as kvs b = H b := fun b h1 => putF_off as kvs _ h1
  have low : ∀ b o, s.heap.get? b = some o → b ∉ as := fun b o e z => absurd (Heap.lt_size e) (Nat.not_lt.mpr (Nat.le_trans hlo (Nat.le_of_lt (hG.above b z))))
  have kp : ∀ b u, H b = some u → (putF g H as kvs) b = some u := fun b u e => by
    rw [off b (fun z => by rw [new b z] at e; cases e)]
    exact e
  have made : ∀ (j : Nat) (b : Addr) (pk : Key × V), as[j]? = some b → kvs[j]? = some pk → ∃ its, Vals [kV pk.1, pk.2] its ∧ h'.get? b = some { cls := .type "tuple", data := .seq its.toArray } := fun j b pk e1 e2 => by
    obtain ⟨key, k, x, f1, f2, f3⟩ := hG.pairs j b e1
    obtain ⟨qv, g1, g2, g3⟩ := LiI.paired_get kv e2
    rw [f1] at g1
    cases g1
    have rk : RelV (kV pk.1) key := by
      rw [g2]
      exact relV_key (show keyIs k key = true from f2)
    exact ⟨[key, x], .cons rk (.cons g3 .nil), f3⟩
  refine ⟨putF g H as kvs, kp, ?_, ?_⟩
  · have : ∀ {l : List Addr} {m : List (Key × V)}, Paired (fun (t : Addr) (p : Key × V) => putF g H as kvs t = some (.frz (g t) (.tup [kV p.1, p.2]))) l m → (∀ t ∈ l, (g t).dict = none) → Paired (fun (t : Addr) (q : Key × V) => TupF (putF g H as kvs) t [kV q.1, q.2]) l m := by
      intro l m h
      induction h with
      | nil => intro _; exact .nil
      | cons h t ih => intro hd; exact .cons ⟨_, h, hd _ (by simp)⟩ (ih fun t ht => hd t (by simp [ht]))
    refine this atP fun t ht => ?_
    obtain ⟨j, pk, e1, e2, _⟩ := LiI.paired_ix atP ht
    obtain ⟨its, _, e3⟩ := made j t pk e1 e2
    rw [g_at _ _ e3]
  refine I.call' (ch := []) rfl ⟨fun b o q _ _ _ => hk b o q, fun b o q _ _ _ => ⟨o.slots, hk b o q⟩, fun b o q n _ => ?_, fun b o q _ => ⟨o, hk b o q⟩, fun b xs q => kp b _ q, fun b o u q => kp b _ q, fun b ps q => ⟨#[], by rw [kp b _ q]; simp⟩⟩ (fun b u q => ?_) I.bare fun b z => by simp at z
  · rw [off b (low b o q)]
    exact n
  · by_cases hb : b ∈ as
    · obtain ⟨j, pk, e1, e2, e3⟩ := LiI.paired_ix atP hb
      rw [e3] at q
      cases q
      obtain ⟨its, r, e4⟩ := made j b pk e1 e2
      exact ⟨by rw [g_at _ _ e4]; exact e4, by show 2 ≤ sizeLine; decide, its, r, ⟨_, e4, rfl, _, rfl⟩⟩
    · rw [off b hb] at q
      exact (I.hok b u q).stay (fun d v _ y => hk d v y) (fun d y => kp d _ y) fun d xs y => kp d _ y
theorem each_items {P : Program} {w : World} {h' h2 : Heap} {H' : Hp} (hok : HOk P w H' h') (ha : ∀ b o, h'.get? b = some o → h2.get? b = some o) : ∀ {as : List Addr} {ps : List (Int × Int)}, Paired (fun (t : Addr) (q : Key × V) => TupF H' t [kV q.1, q.2]) as (ps.map fun p => ((Sum.inl p.1 : Key), V.int p.2)) →
    PySem.W.EachIs (fun (u : Value) (b : Int × Int) => ∃ t, u = Value.ref t ∧ TupF H' t [.int b.1, .int b.2]) (as.map Value.ref) ps ∧ PySem.W.EachIs (fun (u : Value) (b : Int × Int) => ∃ as, Reads h2 u (.tuple [.int b.1, .int b.2]) as ∧ h'.objs.size ∉ as) (as.map Value.ref) ps
  | [], [], _ => ⟨.nil, .nil⟩
  | [], _ :: _, h => nomatch h
  | _ :: _, [], h => nomatch h
  | t :: as, p :: ps, .cons e r => by
    obtain ⟨i1, i2⟩ := each_items hok ha r
    refine ⟨.cons ⟨t, rfl, e⟩ i1, .cons ?_ i2⟩
    obtain ⟨o0, e0, _⟩ := id e
    obtain ⟨_, _, its2, r2, o, ho, hc, n, hd⟩ := hok t _ e0
    obtain ⟨u1, u2, rfl, ri, rj⟩ := vals2 r2
    obtain ⟨t1, rfl⟩ := ri
    obtain ⟨t2, rfl⟩ := rj
    exact ⟨_, .tuple (ha _ _ ho) hc hd (.cons (.int _ _) (.cons (.int _ _) .nil)), by simp⟩
theorem each_tups {H' : Hp} : ∀ {us : List Value} {ps : List (Int × Int)}, PySem.W.EachIs (fun (u : Value) (b : Int × Int) => ∃ t, u = Value.ref t ∧ TupF H' t [.int b.1, .int b.2]) us ps → ∃ vs, Vals vs us ∧ Paired (fun (v : V) (p : Int × Int) => ∃ t, v = .ref t ∧ TupF H' t [.int p.1, .int p.2]) vs ps
  | _, _, .nil => ⟨[], .nil, .nil⟩
  | _, _, .cons ⟨t, e1, e2⟩ r => by
    subst e1
    obtain ⟨vs, i1, i2⟩ := each_tups r
    exact ⟨.ref t :: vs, .cons rfl i1, .cons ⟨t, rfl, e2⟩ i2⟩
theorem tups_rw {K : PySem.W.Frag} {ρ : List Addr} {H' : Hp} : ∀ {vs : List V} {ps : List (Int × Int)}, Paired (fun (v : V) (p : Int × Int) => ∃ t, v = .ref t ∧ TupF H' t [.int p.1, .int p.2]) vs ps → RWs K ρ H' vs (ps.map tp)
  | _, _, .nil => .nil
  | _, _, .cons ⟨t, e1, e2⟩ r => by
    subst e1
    obtain ⟨o, e3, e4⟩ := e2
    exact .cons (.tup e3 e4 (.cons (.int _) (.cons (.int _) .nil))) (tups_rw r)
theorem SW.grow {K : PySem.W.Frag} {ρ : List Addr} {H H' : Hp} {S : Sto} (s : SW K ρ H S) (k : ∀ b o, H b = some o → H' b = some o) : Ext ρ H ρ H' ∧ SW K ρ H' S := by
  have e : Ext ρ H ρ H' := ⟨fun _ _ h => h, fun a xs h => k _ _ h, fun a o xs h => k _ _ h, fun a φ h => k _ _ h⟩
  refine ⟨e, s.len, s.nd, fun n a ob h1 h2 => ?_⟩
  have q := s.ob n a ob h1 h2
  obtain ⟨u, e1, _⟩ := q.some
  exact q.mono e (by rw [e1]; exact k _ _ e1)
def rSortIt : V → Hp → VK → Prop := fun x H Q => ∃ (d : Addr) (ps : List (Int × Int)), x = .ref d ∧ H d = some (.dK (ps.map fun p => ((Sum.inl p.1 : Key), V.int p.2))) ∧ ps.length ≤ sizeLine ∧
  ∀ (H1 : Hp) (p : Addr) (vs : List V), (∀ b o, H b = some o → H1 b = some o) → H1 p = none → Paired (fun (v : V) (p : Int × Int) => ∃ t, v = .ref t ∧ TupF H1 t [.int p.1, .int p.2]) vs (ps.mergeSort le2) → Q (.ref p) (upd H1 p (.lst vs))
def tSortIt (te : TE) : TE := fun σ H Q => te σ H fun x H1 => rSortIt x H1 Q
section
variable {X : Cx} {Wx : WX} {e : Expr} {te : TE} {p apos cpos pos : Pos}
theorem pe_sortItems (hc : X.calm = true) (hu : X.A.units + 64 < cLine) (he : PE X e te) (hg : Gl X "sorted") (hm : X.mg "sorted" = none) (hv : bootBuiltins "sorted" = some (.builtin "sorted")) (hbase : attributeBase e "items" X.env (eval e X.env) = eval e X.env := by rfl) (hline : (apos.endLine == cpos.line) = true := by rfl)
    (hs : starEach [.Call (.Attribute e "items" apos) [] [] cpos] X.env = (false, eval (.Call (.Attribute e "items" apos) [] [] cpos) X.env) :: starEach [] X.env := by rfl) :
    PE X (.Call (.Name "sorted" p) [.Call (.Attribute e "items" apos) [] [] cpos] [] pos) (tSortIt te) := by
  refine ⟨fun pins s σ H Q I hq => ?_⟩
  refine wpAny_Call_Name_kw (ld_blt I hg hm hv ?_)
  refine PyProof.Rows.callWith_builtin1 ?_ hs rfl
  rw [hs]
  show wpAny _ _ (spliced ((false, eval (.Call (.Attribute e "items" apos) [] [] cpos) X.env) :: backTo pos (starEach [] X.env))) _ _ s
  refine Calls.spliced_cons ?_
  refine wpAny_Call_method (T := "dict") (id := "dict.items") hbase rfl hline F.plainAttrs_dict F.slot_dict_items F.type_dict_items (thn (he.run pins s σ H _ I hq) fun u s1 ⟨x, H1, I1, rx, d, ps, ex, hd, hz, q⟩ => ?_)
  subst ex
  obtain rfl : u = Value.ref d := rx
  obtain ⟨_, hs0, vs, kv, hdo⟩ := I1.hok d _ hd
  obtain ⟨ep, hat⟩ := hdo.dictAt
  have lk : (ps.map fun p => ((Sum.inl p.1 : Key), V.int p.2)).length = vs.length := Paired.length kv
  rw [List.length_map] at lk
  have I2 : Inv X pins σ H1 { s1 with heap := s1.heap.push { cls := .type "dict_items", data := .fields #[.ref d] } } := I1.kept (t' := s1.toks) fun b ob q => Heap.get?_push_of_some _ q
  refine ⟨hdo.typeIs, hdo.mapOf.noDict, ?_⟩
  show wpAny _ _ (callWith cpos (.builtin "dict.items") [.ref d] [] []) _ X.xe s1
  refine method_meetsIn F.slot_dict_items F.entry_dict_items rfl (PySem.evalArgs_none ⟨rfl, hdo.typeIs, F.args_dict_items_1 _, _, meets_dict_items (mixKind X.prog X.w) d hs0, ⟨vs, hdo⟩, ?_⟩)
  refine Calls.spliced_nil ?_
  refine PySem.Calls.call_function_entry PyProof.Rows.kind_sorted PyProof.Rows.plain_sorted PyProof.Rows.entry_sorted (PyProof.Rows.args_sorted1 _) ?_
  unfold Builtin.«sorted»
  refine wpAny_bind (m := checkCount "sorted" 1 1 _) (wpAny_pure ?_)
  refine wpAny_bind (PySem.W.kdx_collect (knd := mixKind X.prog X.w) (kvs := vs) (ep := ep) (A := X.A.in1) (I1.ok.hd hc) ⟨_, Heap.get?_push_size _ rfl, rfl, rfl⟩ (hat.push _) (by omega) fun h' tk as hk hl hG => ?_)
  obtain ⟨H', k1, k2, J⟩ := items_laid2 (tk := tk) I2 kv hk (Nat.le_refl _) hl hG
  have rfs := LiI.vals_refs as
  have hlen : (as.map V.ref).length ≤ sizeLine := by rw [List.length_map]; omega
  refine wpAny_bind (wpAny_newList ?_ (by rw [List.length_map]; omega))
  have J2 := J.lnew (t' := tk) rfs hlen
  have hob : (h'.push { cls := .type "list", data := .seq (as.map Value.ref).toArray }).get? h'.objs.size = some (seqObj "list" (as.map Value.ref).toArray 0) := Heap.get?_push_size _ rfl
  obtain ⟨e1, e2⟩ := each_items (P := X.prog) (w := X.w) (h2 := h'.push { cls := .type "list", data := .seq (as.map Value.ref).toArray }) J.hok (fun b o e => Heap.get?_push_of_some _ e) k2
  have psl : ps.length = as.length := by omega
  refine wpAny_bind (wpAny_holding (PySem.W.list_sort_data (bs := ps) (enc := fun b : Int × Int => .tuple [.int b.1, .int b.2]) (s := { s1 with heap := h'.push { cls := .type "list", data := .seq (as.map Value.ref).toArray }, toks := tk }) hob e1 e2 (PySem.W.AllAlike.of fun b b' => ?_) (PySem.W.Sortable.tuples fun b => ⟨_, _, rfl⟩) (by omega) (fun b hb => ?_) fun out ho hE => ?_))
  · simp [PySem.W.alike, PySem.W.alikeAll]
  · have : (PyData.tuple [PyData.int b.1, PyData.int b.2]).depth ≤ 1 := by simp [PyData.depth, PyData.depthAll]
    show X.A.units + 1 + 1 + _ < cLine
    omega
  · have hle : PySem.W.dataLe false (fun b : Int × Int => PyData.tuple [.int b.1, .int b.2]) = le2 := PySem.W.dataLe_ii (β := Int × Int) (fun b => b.1) fun b => b.2
    rw [hle] at hE
    obtain ⟨ys, y1, y2⟩ := each_tups hE
    obtain ⟨ep2, he'⟩ := PyProof.Rows.sortedHeap_at (vs := as.map Value.ref) (out := List.toArray out) hob
    have yl : ys.length ≤ sizeLine := by rw [Paired.length y2, List.length_mergeSort]; exact hz
    have fr : H' h'.objs.size = none := J.fresh
    refine wpAny_pure ⟨_, rfl, ?_⟩
    refine ⟨.ref _, upd H' h'.objs.size (.lst ys), ?_, rfl, q H' _ ys k1 fr y2⟩
    · have W := J2.write (x := h'.objs.size) (e := h'.objs.size) (o := .lst ys) (t' := tk) (h' := PyProof.Rows.sortedHeap (h'.push { cls := .type "list", data := .seq (as.map Value.ref).toArray }) h'.objs.size (as.map Value.ref) (List.toArray out)) (by rw [upd_same]; trivial) (.inl rfl) (fun b u hb hu => by rw [PyProof.Rows.sortedHeap_old hb (Heap.lt_size hu)]; exact hu) ⟨_, he'⟩ ⟨yl, out, ep2, y1, he'⟩
      have eu : upd (upd H' h'.objs.size (.lst (as.map V.ref))) h'.objs.size (.lst ys) = upd H' h'.objs.size (.lst ys) := by
        funext b
        by_cases hb : b = h'.objs.size
        · subst hb; rw [upd_same, upd_same]
        · rw [upd_ne hb, upd_ne hb, upd_ne hb]
      rw [eu] at W
      exact W
theorem se_sortItems {f : FE W} (hc : X.calm = true) (hu : X.A.units + 64 < cLine) (he : SE X Wx e f) (hm : X.mg "sorted" = none) (hg : Gl X "sorted" := by rfl) (hbase : attributeBase e "items" X.env (eval e X.env) = eval e X.env := by rfl) (hline : (apos.endLine == cpos.line) = true := by rfl)
    (hs : starEach [.Call (.Attribute e "items" apos) [] [] cpos] X.env = (false, eval (.Call (.Attribute e "items" apos) [] [] cpos) X.env) :: starEach [] X.env := by rfl) :
    SE X Wx (.Call (.Name "sorted" p) [.Call (.Attribute e "items" apos) [] [] cpos] [] pos) (mSortI f) := weakE (pe_sortItems hc hu he hg hm (by decide +kernel) hbase hline hs) fun σ H Q ⟨ρ, φ, S, F, s, q⟩ =>
  into F s q fun w S1 v ρ1 H1 e1 r1 s1 F1 q1 => by
    split at q1
    · rename_i n
      split at q1
      · rename_i kvs g
        split at q1
        · rename_i ps hp
          have q2 := PosR.of q1
          obtain ⟨a, rfl, ha⟩ := r1.isRef
          obtain ⟨ks, e2, r2⟩ := s1.ob n a _ ha g
          have ek := KWs.ints r2 hp
          subst ek
          have hl := lstO_len q2
          rw [List.length_map, List.length_mergeSort] at hl
          refine ⟨a, ps, rfl, e2, bigL_line hl, fun H2 p vs k fr y => ?_⟩
          obtain ⟨E, s2⟩ := s1.grow k
          unfold lstO at q2
          rw [if_pos (by rw [List.length_map, List.length_mergeSort]; exact hl)] at q2
          exact q2 _ (ρ1 ++ [p]) _ (E.trans (Ext.push fr)) (.ref (push_at s2 p)) (s2.push fr ⟨vs, upd_same, (tups_rw y).mono (Ext.push fr)⟩)
        · exact q1.elim
      · exact q1.elim
    · exact q1.elim
end
end Wm

set_option Elab.async false
set_option linter.all false
set_option maxRecDepth 100000
set_option maxHeartbeats 2000000
namespace Wm
open PySem PySem.Spec PyProof.Rows L2

def mNeg (f : FE W) : FE W := fun φ S => (f φ S).bind fun w S1 => match w with
  | .int i => .ok (.int (-i)) S1
  | _ => .bad
section
variable {X : Cx} {Wx : WX} {e : Expr} {pos : Pos} {f : FE W}
theorem se_neg (he : SE X Wx e f) : SE X Wx (.UnaryOp .USub e pos) (mNeg f) := weakE (pe_un un_neg he) fun σ H Q ⟨ρ, φ, S, F, s, q⟩ =>
  into F s q fun w S1 v ρ1 H1 e1 r1 s1 F1 q1 => by
    cases r1 with
    | int i => exact ⟨i, rfl, q1 _ ρ1 H1 (Ext.refl _ _) (.int _) s1⟩
    | _ => exact q1.elim
end
end Wm

set_option Elab.async false
set_option linter.all false
set_option maxRecDepth 100000
set_option maxHeartbeats 2000000
namespace Wm
open PySem PySem.Spec PyProof.Rows L2

/-! ### the end: the law's own call -/
def spLaw (K : PySem.W.Frag) : Sp := fun vs H Q _ => ∃ (a : Addr) (ns : List Int), vs = [.ref a] ∧ Only H ∧ SqL K H a (ns.map V.int) ∧ ns.length ≤ 63 ∧ ∀ H', Q (.bl true) H'
theorem Only.fz {K : PySem.W.Frag} {H : Hp} {a : Addr} {xs : List V} (hO : Only H) (h : SqL K H a xs) : Fz K H a xs := by
  rcases h with (h | h) | h
  · rcases hO a with e | ⟨o, ys, e⟩
    · rw [e] at h; cases h
    · rw [e] at h; cases h
  · exact .inl h
  · exact .inr h
theorem rws_ints {K : PySem.W.Frag} {ρ : List Addr} {H : Hp} : ∀ ns : List Int, RWs K ρ H (ns.map V.int) (ns.map W.int)
  | [] => .nil
  | n :: ns => .cons (.int n) (rws_ints ns)
def LawTrue (m : FM) : Prop := ∀ ns : List Int, ns.length ≤ 63 → ∃ S', m [.cl (ns.map W.int)] [] = .ok (.bl true) S'
theorem law_ok {P : Program} {w : World} {K : PySem.W.Frag} {mg : Str → Option Value} {base : Heap} {C : CXT} {k : Nat} {f : Addr} {fd : FuncData} {ps : List Str} {m : FM} (F : FnOk P w K mg base C k f fd ps (spM K 1 m)) (t : LawTrue m) : FnOk P w K mg base C k f fd ps (spLaw K) :=
  F.imp fun vs H Q E ⟨a, ns, e, hO, hS, hl, k⟩ => by
    subst e
    obtain ⟨S', h⟩ := t ns hl
    refine ⟨[], [.cl (ns.map W.int)], [], .cons (.cl (Only.fz hO hS) (rws_ints ns)) .nil, ⟨rfl, List.nodup_nil, fun n a o h _ => by simp at h⟩, ?_⟩
    rw [show chk 1 m [W.cl (ns.map W.int)] [] = m [W.cl (ns.map W.int)] [] from rfl, h]
    intro v ρ' H' _ r _
    cases r
    exact k H'
theorem cx_no {P : Program} {w : World} {outer : List Env} {H : Hp} {s : Shared} {u : Value} {s' : Shared} (h : L2N.CX P w outer H s (fun _ _ _ => False) u s') : False := by
  obtain ⟨_, _, _, _, _, _, _, _, _, _, _, _, h⟩ := h
  exact h
end Wm

set_option Elab.async false
set_option linter.all false
set_option maxRecDepth 100000
set_option maxHeartbeats 3200000
namespace Wm
open PySem PySem.Spec PyProof.Rows L2

/-! ### sorted(set(xs)), xs a list of numbers -/
abbrev nSet (w : World) : Obj := { cls := .type "set", dict := none, data := .set #[] 0 (.fresh 0 0 (!w.params.followText "set-order")) }
section
variable {P : Program} {w : World} {A : Around} {E : Value → Shared → Prop} {s : Shared}
theorem set_of_list {l : Addr} {vs : Array Value} (ns : List Int) {Q : Value → Shared → Prop} (hA : A.handled = none) (il : s.heap.IsList l vs) (iv : IntsAre vs.toList ns) (few : ns.length + 1 < scanBound)
    (q : ∀ (B : Heap) (tk c : Nat), SetR w B s.heap.objs.size (fun j => decide (j ∈ ns)) c → c ≤ ns.length → (∀ b o, s.heap.get? b = some o → B.get? b = some o) → Q (.ref s.heap.objs.size) { s with heap := B, toks := tk }) :
    wpAny (model P w) A (call (.type "set") [.ref l]) Q E s := by
  have vz : vs.size = ns.length := by rw [← Array.length_toList]; exact IntsAre.length iv
  obtain ⟨c0, tl0, mro⟩ := F.called_set.mro
  have m1 := F.called_set.made
  have m2 := F.called_set.sub
  refine wpAny_call (codeAny_of_tree ?_)
  show wpAny _ _ (callAny (.type "set") _) _ _ _
  refine wpAny_pure ⟨Code.quiet_builtin _ (by decide +kernel),
    codeAny_builtin F.entry_type_call ?_⟩
  rw [Around.under_plain
    (weight_type_call_type "set" [.ref l] []) rfl]
  have m3 := F.called_set.notType
  have m4 := F.called_set.canCreate
  have m5 := F.typeCall_set_1 (.ref l)
  repeat (any_goals (first
    | assumption
    | wp_step))
  refine codeAny_mono (code_set_led1 (.ref l) (E := E) (Q₁ := fun u z => u = .ref s.heap.objs.size ∧ z = { s with heap := s.heap.push (nSet w) }) ⟨rfl, rfl⟩) fun res z hz => ?_
  cases res with
  | error _ => exact hz
  | ok fin =>
    cases fin with
    | ret u =>
      obtain ⟨rfl, rfl⟩ := hz
      have at0 : (s.heap.push (nSet w)).get? s.heap.objs.size = some (nSet w) := Heap.get?_push_size _ rfl
      have ty0 : Shared.TypeIs { s with heap := s.heap.push (nSet w) } (.ref s.heap.objs.size) "set" := ⟨_, at0, rfl⟩
      have m6 := F.called_set.init.lookup
      have m7 := F.called_set.init.bind
        (.ref s.heap.objs.size)
      repeat (any_goals (first
        | assumption
        | wp_step))
      refine codeAny_mono (codeAny_call_builtin (R := wants (fun u z => u = .none ∧ ∃ B tk c, z = { s with heap := B, toks := tk } ∧ SetR w B s.heap.objs.size (fun j => decide (j ∈ ns)) c ∧ c ≤ ns.length ∧ (∀ b o, s.heap.get? b = some o → B.get? b = some o)) E)
        F.called_set.init.plain F.entry_set_init (check_set_init_1 ty0 ?_)) fun res2 z2 hz2 => ?_
      · obtain ⟨lo, lget, lcls, ln, ldat⟩ := il
        obtain ⟨oc, od, ot, os⟩ := lo
        simp only at lcls ldat
        subst lcls
        subst ldat
        have lget2 : (s.heap.push (nSet w)).get? l = some { cls := .type "list", dict := od, data := .seq vs ln, slots := os } := Heap.get?_push_of_some _ lget
        have m8 := F.sub_list_set
        have m9 := F.sub_list_frozenset
        have m10 : (Value.type "list" == Value.type "dict") = false :=
          by decide
        have il2 : (s.heap.push (nSet w)).IsList l vs := ⟨_, lget2, rfl, ln, rfl⟩
        unfold Builtin.«set.__init__» noKeywords
        unfold Builtin.Frozenset.updateFrom
        generalize hp : pyIter = pI
        wp_walk
        subst hp
        refine wpAny_pyIter_list il2 ?_
        refine wpAny_bind (wpAny_runValue ?_)
        have lt : l < s.heap.objs.size := Heap.lt_size lget
        have hA3 : A.in1.in1.in1.handled = none := by
          simp [hA]
        have ne1 : l ≠ (s.heap.push (nSet w)).objs.size := by
          rw [Heap.size_push]
          exact Nat.ne_of_lt (Nat.lt_succ_of_lt lt)
        have out : s.heap.objs.size ∉ [(s.heap.push (nSet w)).objs.size, l] := by
          rw [Heap.size_push]
          intro z
          rcases List.mem_cons.mp z with z | z
          · exact absurd z (Nat.ne_of_lt (Nat.lt_succ_self _))
          · exact absurd (List.mem_singleton.mp z) (Nat.ne_of_gt lt)
        have each : ∀ (i : Nat) (v : Value), vs[i]? = some v → ∃ k t, ns[i]? = some k ∧ v = .int k t := fun i v hv => by
          have hi : i < ns.length := by
            rw [← vz]
            exact (Array.getElem?_eq_some_iff.mp hv).1
          obtain ⟨t, e⟩ := IntsAre.int_at iv i v (by
            rw [Array.getElem?_toList]
            exact hv)
          refine ⟨ns[i], t, List.getElem?_eq_getElem hi, ?_⟩
          rw [e, List.getD_eq_getElem?_getD, List.getElem?_eq_getElem hi]
          rfl
        refine set_update_ints ((Walks.list hA3 _ l ne1 vs).toS) s.heap.objs.size out ns vz few each (vs.size - 0) 0 _ (by omega) (Nat.zero_le _)
          ⟨⟨_, Heap.get?_push_size _ rfl, rfl, rfl⟩, il2.push _⟩ ⟨0, Nat.le_refl 0, setR_new_at (Heap.get?_push_of_some _ at0)⟩ fun z c hm hc hS => ?_
        obtain ⟨B, g2, d2, t2, o2⟩ := z
        have e1 : g2 = s.gens := hm.gens
        have e2 : d2 = s.drawn := hm.drawn
        have e3 : o2 = s.os := hm.os
        subst e1
        subst e2
        subst e3
        show wpAny _ _ _ _ _ _
        refine wpAny_pure ?_
        show wpAny _ _ (ret Value.none) _ _ _
        refine wpAny_pure ⟨rfl, B, t2, c, rfl, hS, by rw [← vz]; exact hc, fun b o e => ?_⟩
        have hb := Heap.lt_size e
        refine hm.heap b o (fun hmem => ?_) (Heap.get?_push_of_some _ (Heap.get?_push_of_some _ e))
        rw [Heap.size_push] at hmem
        rcases List.mem_cons.mp hmem with z | z
        · exact absurd z (Nat.ne_of_lt hb)
        · exact absurd (List.mem_singleton.mp z) (Nat.ne_of_lt (Nat.lt_succ_of_lt hb))
      · cases res2 with
        | error _ => exact hz2
        | ok fin2 =>
          cases fin2 with
          | ret u =>
            obtain ⟨rfl, B, tk, c, rfl, k1, k2, k3⟩ := hz2
            repeat (any_goals (first
              | assumption
              | wp_step))
            exact q B tk c k1 k2 k3
          | _ => exact hz2.elim
    | _ => exact hz.elim
end
/-- the members of a set, gathered and sorted -/
theorem sorted_setR {P : Program} {w : World} {A : Around} {E : Value → Shared → Prop} {s : Shared} {a : Addr} {S : Int → Bool} {n : Nat} {Q : Value → Shared → Prop} (R : SetR w s.heap a S n) (hA : A.handled = none) (hu : A.units + 64 < cLine)
    (q : ∀ z p (out : Array Value) (c : Nat) (ns : List Int), (∀ b o, s.heap.get? b = some o → z.heap.get? b = some o) → z.gens = s.gens → z.os = s.os → s.heap.objs.size ≤ p →
      z.heap.get? p = some (seqObj "list" out c) → IntsAre out.toList ns → ns.Pairwise (· < ·) → (∀ k, k ∈ ns ↔ S k = true) → ns.length = n → Q (.ref p) z) :
    wpAny (model P w) A (call (.builtin "sorted") [.ref a]) Q E s := by
  obtain ⟨o, es, ep, t, r1, r2, r3, r4, r5, r6, r7, r8, r9, r10, r11⟩ := R
  refine PySem.Calls.call_function_entry PyProof.Rows.kind_sorted PyProof.Rows.plain_sorted PyProof.Rows.entry_sorted (PyProof.Rows.args_sorted1 _) ?_
  unfold Builtin.«sorted»
  refine wpAny_bind (m := checkCount "sorted" 1 1 _) (wpAny_pure ?_)
  refine wpAny_bind (collect_set (A := A.in1) hA ⟨o, r1, r2.1, r3⟩ r8 r7 r10 r11 fun s1 vs k1 hz g1 o1 pm => ?_)
  have vl : vs.length = n := by rw [pm.length_eq, List.length_map, Array.length_toList]; exact r9
  have nl : n ≤ sizeLine := by
    rw [← r9]
    exact fits_of_scanBound r7
  have iv : IntsAre vs (vs.map Builtin.Re.reRawOf) := ints_of vs fun v hv => by
    obtain ⟨e, he, qe⟩ := List.mem_map.mp (pm.mem_iff.mp hv)
    obtain ⟨k, tk, h1, _⟩ := r4 e he
    exact ⟨k, tk, by rw [← qe]; exact h1⟩
  have pk : (vs.map Builtin.Re.reRawOf).Perm (es.toList.map keyOf) := by
    have := pm.map Builtin.Re.reRawOf
    rw [List.map_map] at this
    exact this
  refine wpAny_bind (wpAny_newList ?_ (by rw [vl]; exact nl))
  have ol : (s1.heap.push (seqObj "list" vs.toArray 0)).get? s1.heap.objs.size = some (seqObj "list" vs.toArray 0) := Heap.get?_push_size _ rfl
  have er : ∀ {us : List Value} {ms : List Int}, IntsAre us ms → PySem.W.EachIs (fun (v : Value) (b : Int) => ∃ t, v = Value.int b t) us ms ∧ PySem.W.EachIs (fun (v : Value) (b : Int) => ∃ as, Reads (s1.heap.push (seqObj "list" vs.toArray 0)) v (PyData.int b) as ∧ s1.heap.objs.size ∉ as) us ms := by
    intro us ms h
    induction h with
    | nil => exact ⟨.nil, .nil⟩
    | cons i t h ih => exact ⟨.cons ⟨t, rfl⟩ ih.1, .cons ⟨_, .int i t, by simp⟩ ih.2⟩
  obtain ⟨e1, e2⟩ := er iv
  refine wpAny_bind (wpAny_holding (PySem.W.list_sort_data (bs := vs.map Builtin.Re.reRawOf) (enc := fun b : Int => PyData.int b) ol e1 e2 (PySem.W.AllAlike.of fun b b' => by simp [PySem.W.alike]) (PySem.W.Sortable.others fun b => ⟨by simp, by simp⟩) (by rw [List.length_map, vl]; exact nl) (fun b hb => ?_) fun out ho hE => ?_))
  · show A.units + 1 + 1 + _ < cLine
    simp only [PyData.depth]
    omega
  · have hle : PySem.W.dataLe false (fun b : Int => PyData.int b) = fun a b => decide (a ≤ b) := PySem.W.dataLe_int (β := Int) fun b => b
    rw [hle] at hE
    obtain ⟨c, hc⟩ := PyProof.Rows.sortedHeap_at (vs := vs) (out := List.toArray out) ol
    have back : ∀ {us : List Value} {ms : List Int}, PySem.W.EachIs (fun (v : Value) (b : Int) => ∃ t, v = Value.int b t) us ms → IntsAre us ms := by
      intro us ms h
      induction h with
      | nil => exact .nil
      | cons h t ih =>
        obtain ⟨tk, rfl⟩ := h
        exact .cons _ tk ih
    have pn : ((vs.map Builtin.Re.reRawOf).mergeSort fun a b => decide (a ≤ b)).Perm (es.toList.map keyOf) := (List.mergeSort_perm _ _).trans pk
    have srt : ((vs.map Builtin.Re.reRawOf).mergeSort fun a b => decide (a ≤ b)).Pairwise (· ≤ ·) := by
      refine (List.pairwise_mergeSort (fun a b c h1 h2 => ?_) (fun a b => ?_) _).imp fun {a b} h => of_decide_eq_true h
      · have h1 := of_decide_eq_true h1
        have h2 := of_decide_eq_true h2
        exact decide_eq_true (by omega)
      · rw [Bool.or_eq_true, decide_eq_true_eq, decide_eq_true_eq]; omega
    refine wpAny_pure ⟨_, rfl, q _ s1.heap.objs.size (List.toArray out) c _ (fun b u e => ?_) g1 o1 hz hc (back hE) (lt_of_le_nodup _ srt (pn.nodup_iff.mpr r5)) (fun k => by rw [pn.mem_iff, ← r6 k]) ?_⟩
    · have k := k1 b u e
      have lt := Heap.lt_size k
      show (PyProof.Rows.sortedHeap (s1.heap.push (seqObj "list" vs.toArray 0)) s1.heap.objs.size vs (List.toArray out)).get? b = some u
      rw [PyProof.Rows.sortedHeap_old (Nat.ne_of_lt lt) (by rw [size_push']; exact Nat.lt_succ_of_lt lt)]
      exact Heap.get?_push_of_some _ k
    · rw [pn.length_eq, List.length_map, Array.length_toList]; exact r9
def rSetL (K : PySem.W.Frag) (w : World) : List V → Hp → VK → Prop := fun vs H Q => ∃ (a : Addr) (ns : List Int), vs = [.ref a] ∧ SqL K H a (ns.map V.int) ∧ ns.length + 1 < scanBound ∧ ∀ p c, H p = none → Q (.ref p) (upd H p (SetO w p (fun j => decide (j ∈ ns)) c))
def rSortS (w : World) : List V → Hp → VK → Prop := fun vs H Q => ∃ (a : Addr) (S : Int → Bool) (n : Nat), vs = [.ref a] ∧ H a = some (SetO w a S n) ∧ ∀ (ns : List Int) (p : Addr), ns.Pairwise (· < ·) → (∀ k : Int, k ∈ ns ↔ S k = true) → H p = none → Q (.ref p) (upd H p (.lst (ns.map V.int)))
section
variable {X : Cx} {Wx : WX}
theorem ints_back {us : List Value} : ∀ {ns : List Int}, Vals (ns.map V.int) us → IntsAre us ns := fun {ns} h => h.ints
theorem cr_setL (hc : X.calm = true) : CallR X (.type "set") (rSetL X.K X.w) := by
  intro pins s σ H vs us Q I r h
  obtain ⟨a, ns, rfl, hs, few, q⟩ := h
  obtain ⟨its, rv, hl, hz⟩ := I.list hs
  rw [Vals.ref1 r]
  refine set_of_list ns (I.ok.hd hc) hl.isList rv.ints few fun B tk c R hcl k => ?_
  exact ⟨.ref _, _, I.laid (t' := tk) k (Nat.le_refl _) (setO_new R), rfl, q _ c I.fresh⟩
theorem cr_sortS (hc : X.calm = true) (hu : X.A.units + 64 < cLine) : CallR X (.builtin "sorted") (rSortS X.w) := by
  intro pins s σ H vs us Q I r h
  obtain ⟨a, S, n, rfl, ha, q⟩ := h
  have R := setO_get I ha
  rw [Vals.ref1 r]
  have nl : n ≤ sizeLine := by
    obtain ⟨o, es, ep, t, r1, r2, r3, r4, r5, r6, r7, r8, r9, r10, r11⟩ := R
    rw [← r9]
    exact fits_of_scanBound r7
  refine sorted_setR R (I.ok.hd hc) hu fun z p out c ns k g o hp hg hi hs hm hl => ?_
  have hlen : (ns.map V.int).length ≤ sizeLine := by rw [List.length_map, hl]; exact nl
  have hn : H p = none := I.hok.fresh hp
  have J : Inv X pins σ (upd H p (.lst (ns.map V.int))) { s with heap := z.heap, gens := z.gens, drawn := z.drawn, toks := z.toks } :=
    I.call (ch := []) (Un.laid k hp hn) (I.hok.laid k hp ⟨hlen, out.toList, c, vals_of_ints hi, hg⟩) (by rw [g]; exact I.bare) (fun _ y => nomatch y)
  have e : z = { s with heap := z.heap, gens := z.gens, drawn := z.drawn, toks := z.toks } := by
    cases z
    cases s
    cases o
    rfl
  rw [e]
  exact ⟨.ref p, _, J, rfl, q ns p hs hm hn⟩
end
/-- each once -/
def onceI : List Int → List Int
  | [] => []
  | a :: r => if a ∈ r then onceI r else a :: onceI r
theorem once_mem : ∀ (l : List Int) (k : Int), k ∈ onceI l ↔ k ∈ l
  | [], _ => Iff.rfl
  | a :: r, k => by
    unfold onceI
    by_cases h : a ∈ r
    · rw [if_pos h, once_mem r k]
      constructor
      · intro m; simp [m]
      · intro m
        rcases List.mem_cons.mp m with e | m
        · rw [e]; exact h
        · exact m
    · rw [if_neg h, List.mem_cons, List.mem_cons, once_mem r k]
theorem once_nodup : ∀ l : List Int, (onceI l).Nodup
  | [] => List.nodup_nil
  | a :: r => by
    unfold onceI
    by_cases h : a ∈ r
    · rw [if_pos h]; exact once_nodup r
    · rw [if_neg h, List.nodup_cons, once_mem]
      exact ⟨h, once_nodup r⟩
/-- rising, each once -/
def ssetI (ns : List Int) : List Int := (onceI ns).mergeSort fun a b => decide (a ≤ b)
theorem rise_int_eq : ∀ {a b : List Int}, a.Pairwise (· < ·) → b.Pairwise (· < ·) → (∀ k, k ∈ a ↔ k ∈ b) → a = b
  | [], [], _, _, _ => rfl
  | [], y :: b, _, _, h => by have := (h y).mpr (by simp); simp at this
  | x :: a, [], _, _, h => by have := (h x).mp (by simp); simp at this
  | x :: a, y :: b, ha, hb, h => by
    obtain ⟨a1, a2⟩ := List.pairwise_cons.mp ha
    obtain ⟨b1, b2⟩ := List.pairwise_cons.mp hb
    have hx := (h x).mp (by simp)
    have hy := (h y).mpr (by simp)
    have e : x = y := by
      rcases List.mem_cons.mp hx with e | hx
      · exact e
      · rcases List.mem_cons.mp hy with e | hy
        · exact e.symm
        · have := b1 x hx
          have := a1 y hy
          omega
    subst e
    rw [rise_int_eq a2 b2 fun k => ?_]
    have hk := h k
    constructor
    · intro m
      rcases List.mem_cons.mp (hk.mp (by simp [m])) with e | m'
      · have := a1 k m; omega
      · exact m'
    · intro m
      rcases List.mem_cons.mp (hk.mpr (by simp [m])) with e | m'
      · have := b1 k m; omega
      · exact m'
theorem sset_rise (ns : List Int) : (ssetI ns).Pairwise (· < ·) := by
  have srt : (ssetI ns).Pairwise (· ≤ ·) := by
    refine (List.pairwise_mergeSort (fun a b c h1 h2 => ?_) (fun a b => ?_) _).imp fun {a b} h => of_decide_eq_true h
    · have h1 := of_decide_eq_true h1
      have h2 := of_decide_eq_true h2
      exact decide_eq_true (by omega)
    · rw [Bool.or_eq_true, decide_eq_true_eq, decide_eq_true_eq]; omega
  exact lt_of_le_nodup _ srt ((List.mergeSort_perm _ _).nodup_iff.mpr (once_nodup ns))
theorem sset_mem (ns : List Int) (k : Int) : k ∈ ssetI ns ↔ k ∈ ns := by
  unfold ssetI
  rw [(List.mergeSort_perm _ _).mem_iff, once_mem]
theorem sset_is {ns ms : List Int} (h : ms.Pairwise (· < ·)) (hm : ∀ k, k ∈ ms ↔ k ∈ ns) : ms = ssetI ns := rise_int_eq h (sset_rise ns) fun k => by rw [hm, sset_mem]
def mSortSet (f : FE W) : FE W := fun φ S => (f φ S).bind fun w S1 => match asL S1 w with
  | some l => match intsOf l with
    | some ns => if ns.length < 4000 then .ok (.ref S1.length) (S1 ++ [.lst ((ssetI ns).map W.int)]) else .bad
    | none => .bad
  | none => .bad
section
variable {X : Cx} {Wx : WX} {k : Nat} {e : Expr} {p p2 pos pos2 : Pos} {f : FE W}
theorem se_sortSet (c : Cn X Wx k) (he : SE X Wx e f) (hm : X.mg "sorted" = none) (hm2 : X.mg "set" = none) (hg : Gl X "sorted" := by rfl) (hg2 : Gl X "set" := by rfl)
    (hs : starEach [e] X.env = (false, eval e X.env) :: starEach [] X.env := by rfl) (hs2 : starEach [.Call (.Name "set" p2) [e] [] pos2] X.env = (false, eval (.Call (.Name "set" p2) [e] [] pos2) X.env) :: starEach [] X.env := by rfl) :
    SE X Wx (.Call (.Name "sorted" p) [.Call (.Name "set" p2) [e] [] pos2] [] pos) (mSortSet f) :=
  weakE (pe_callB (cr_sortS c.calm c.u64) hg hm (by decide +kernel) (pa_cons (pe_callTy (cr_setL c.calm) hg2 hm2 (by decide +kernel) (pa_cons he pa_nil hs) (by decide) (by decide) hs rfl) pa_nil hs2) (by decide) (by decide) hs2 rfl) fun σ H Q ⟨ρ, φ, S, F, s, q⟩ =>
  into F s q fun w S1 v ρ1 H1 e1 r1 s1 F1 q1 => by
    split at q1
    · rename_i l g
      split at q1
      · rename_i ns hn
        split at q1
        · rename_i hl
          obtain ⟨a, xs, rfl, hq, rs⟩ := asL_of s1 r1 g
          have ex := rs.ints hn
          subst ex
          refine ⟨a, ns, rfl, hq, Nat.lt_of_le_of_lt hl (by decide), fun p1 c1 fr => ⟨p1, _, _, rfl, upd_same, fun ms p3 h1 h2 fr2 => ?_⟩⟩
          have em : ms = ssetI ns := sset_is h1 fun k => by rw [h2 k]; exact decide_eq_true_iff
          subst em
          have s2 := s1.tup (o := SetO X.w p1 (fun j => decide (j ∈ ns)) c1) fr
          have E := (Ext.new (ρ := ρ1) (o := SetO X.w p1 (fun j => decide (j ∈ ns)) c1) fr).trans (Ext.push (ρ := ρ1) (o := .lst ((ssetI ns).map V.int)) fr2)
          have go : ∀ ms : List Int, RWs X.K (ρ1 ++ [p3]) (upd (upd H1 p1 (SetO X.w p1 (fun j => decide (j ∈ ns)) c1)) p3 (.lst ((ssetI ns).map V.int))) (ms.map V.int) (ms.map W.int) := fun ms => by
            induction ms with
            | nil => exact .nil
            | cons a r ih => exact .cons (.int a) ih
          exact q1 _ (ρ1 ++ [p3]) _ E (.ref (push_at s2 p3)) (s2.push fr2 ⟨_, upd_same, go _⟩)
        · exact q1.elim
      · exact q1.elim
    · exact q1.elim
end
end Wm

set_option Elab.async false
set_option linter.all false
set_option maxRecDepth 100000
set_option maxHeartbeats 3200000
namespace Wm
open PySem PySem.Spec PyProof.Rows L2

/-! ### dict comprehensions -/
def putO (D : Nat) (k v : W) (S : Sto) : Option Sto := oSetD (.ref D) k v S
theorem putO_of {K : PySem.W.Frag} {ρ : List Addr} {H : Hp} {S S' : Sto} {D : Nat} {a : Addr} {y v : V} {k w : W} (s : SW K ρ H S) (ha : ρ[D]? = some a) (rk : RW K ρ H y k) (r : RW K ρ H v w) (h : putO D k w S = some S') :
    ∃ kvs kk, y = kV kk ∧ H a = some (.dK kvs) ∧ kvs.length < sizeLine ∧ Ext ρ H ρ (upd H a (.dK (putK kvs kk v))) ∧ SW K ρ (upd H a (.dK (putK kvs kk v))) S' := by
  unfold putO oSetD at h
  split at h
  · rename_i n kk hn hk
    cases hn
    split at h
    · rename_i kvs g
      split at h
      · rename_i hl
        cases h
        obtain ⟨ks, e1, rs⟩ := s.ob _ a _ ha g
        have E := Ext.upd (u := .dK (putK ks kk v)) s ha g
        exact ⟨ks, kk, key_rel hk rk, e1, bigL_lt (by rw [Paired.length rs]; exact hl), E, s.set ha g ⟨_, upd_same, KWs.put (rs.mono E) hk (rk.mono E) (r.mono E)⟩⟩
      · cases h
    · cases h
  · cases h
def dcM (m : ItM) (T : Tgt) (c : FE Bool) (fk fv : FE W) (φ : Fr) (D : Nat) : Nat → Nat → Sto → Out W
  | 0, _, _ => .bad
  | n + 1, i, S => match m i S with
    | none => .bad
    | some none => .ok (.ref D) S
    | some (some w) => match tgM T w φ with
      | none => .bad
      | some φ1 => bindN (c φ1 S) fun k S1 => if k = true then bindN (fk φ1 S1) fun y S2 => bindN (fv φ1 S2) fun z S3 => match putO D y z S3 with
          | some S4 => dcM m T c fk fv φ D n (i + 1) S4
          | none => .bad
        else dcM m T c fk fv φ D n (i + 1) S1
def mDComp (own : List Nat) (it : FE ItM) (T : Tgt) (c : FE Bool) (fk fv : FE W) : FE W := fun φ S => (it φ S).bind fun m S1 => dcM m T c fk fv (wipeF φ own) S1.length bigT 0 (S1 ++ [.dic []])
section
variable {X : Cx} {Wx : WX} {k : Nat} {kx vx tg iter : Expr} {ifs : List Expr} {scope : Scope} {own : List (Str × Nat)} {pos : Pos} {it : FE ItM} {T : Tgt} {c : FE Bool} {fk fv : FE W}
theorem dcomp_of {vs : List Nat} (hT : ∀ i ∈ T.slots, i ∈ vs) : ∀ σ H Q, tI X.K (RW X.K) Wx (mDComp vs it T c fk fv) σ H Q → tDc (tII X.K Wx it) (gOf X.K T) (tI X.K rB W0 c) (tI X.K (RW X.K) W0 fk) (tI X.K (RW X.K) W0 fv) vs σ H Q := fun σ H Q ⟨ρ, φ, S, F, s, q⟩ =>
  into F s q fun m S1 J ρ1 H1 e1 r1 s1 F1 q1 => by
    intro Da hD
    have s2 : SW X.K (ρ1 ++ [Da]) (upd H1 Da (.dK [])) (S1 ++ [.dic []]) := s1.push hD ⟨[], upd_same, .nil⟩
    have e2 : Ext ρ1 H1 (ρ1 ++ [Da]) (upd H1 Da (.dK [])) := Ext.push hD
    refine ⟨fun i n H => ∃ ρ S, Ext (ρ1 ++ [Da]) (upd H1 Da (.dK [])) ρ H ∧ SW X.K ρ H S ∧ OutR X.K (RW X.K) ρ H Q (fun cls d H' => Wx cls d σ H') (dcM m T c fk fv (wipeF φ vs) S1.length n i S), ⟨bigT, _, _, Ext.refl _ _, s2, OutR.step q1 e2⟩, ?_⟩
    rintro i n H ⟨ρ, S, e, s, q⟩
    have hDa : ρ[S1.length]? = some Da := e.pre _ _ (push_at s1 Da)
    cases n with
    | zero => exact q.elim
    | succ n =>
      simp only [dcM] at q
      have j := r1 i ρ H S (e2.trans e) s
      cases hm : m i S with
      | none => simp only [hm] at q; exact q.elim
      | some o =>
        cases o with
        | none =>
          simp only [hm] at q j
          exact .inl ⟨j, q _ ρ H (Ext.refl _ _) (.ref hDa) s⟩
        | some w =>
          simp only [hm] at q j
          refine .inr ⟨j.1, fun H' => ∃ ρ S, Ext (ρ1 ++ [Da]) (upd H1 Da (.dK [])) ρ H' ∧ SW X.K ρ H' S ∧ OutR X.K (RW X.K) ρ H' Q (fun cls d H' => Wx cls d σ H') (dcM m T c fk fv (wipeF φ vs) S1.length n (i + 1) S), fun H' z => ⟨n, Nat.lt_succ_self n, z⟩, fun x H' y => ?_⟩
          obtain ⟨e3, r3, s3⟩ := j.2 x H' y
          cases ht : tgM T w (wipeF φ vs) with
          | none => simp only [ht] at q; exact q.elim
          | some φ1 =>
            simp only [ht] at q
            refine tg_of ((F1.wipes vs).mono ((e2.trans e).trans e3)) r3 ht fun σ1 F3 hset => ⟨?_, ?_⟩
            · rw [hset vs hT, wipe_wipe fun i hi => hi]
            · refine intoN F3 s3 (OutR.step q e3) fun b S4 v4 ρ4 H4 e4 r4 s4 F4 q4 => ?_
              obtain rfl : v4 = b := r4
              cases v4 with
              | false =>
                rw [if_neg (by decide)] at q4 ⊢
                exact ⟨ρ4, S4, (e.trans e3).trans e4, s4, q4⟩
              | true =>
                rw [if_pos rfl] at q4 ⊢
                refine intoN F4 s4 q4 fun y5 S5 v5 ρ5 H5 e5 r5 s5 F5 q5 => ?_
                refine intoN F5 s5 q5 fun y6 S6 v6 ρ6 H6 e6 r6 s6 F6 q6 => ?_
                have e06 := (((e.trans e3).trans e4).trans e5).trans e6
                have hD6 : ρ6[S1.length]? = some Da := e06.pre _ _ (push_at s1 Da)
                cases ha : putO S1.length y5 y6 S6 with
                | none => simp only [ha] at q6; exact q6.elim
                | some S7 =>
                  simp only [ha] at q6
                  obtain ⟨kvs, kk, g1, g2, g3, g4, g5⟩ := putO_of s6 hD6 (r5.mono e6) r6 ha
                  exact ⟨kvs, kk, g1, g2, g3, ρ6, S7, e06.trans g4, g5, OutR.step q6 g4⟩
theorem se_dc (cn : Cn X Wx k) (hi : SI X Wx tg iter it) (ok : blkC X.N X.env.scope scope own = true)
    (hg : ∀ (s : Shared) (H : Hp) (C : Addr) (cl : List (Str × Addr)) (fp : List Addr), Cn (X.blk s H scope (compEnvC scope cl C X.env) fp) W0 k → SG (X.blk s H scope (compEnvC scope cl C X.env) fp) tg T)
    (ht : ∀ (s : Shared) (H : Hp) (C : Addr) (cl : List (Str × Addr)) (fp : List Addr), Cn (X.blk s H scope (compEnvC scope cl C X.env) fp) W0 k → STs (X.blk s H scope (compEnvC scope cl C X.env) fp) W0 ifs c)
    (hk : ∀ (s : Shared) (H : Hp) (C : Addr) (cl : List (Str × Addr)) (fp : List Addr), Cn (X.blk s H scope (compEnvC scope cl C X.env) fp) W0 k → SE (X.blk s H scope (compEnvC scope cl C X.env) fp) W0 kx fk)
    (hv : ∀ (s : Shared) (H : Hp) (C : Addr) (cl : List (Str × Addr)) (fp : List Addr), Cn (X.blk s H scope (compEnvC scope cl C X.env) fp) W0 k → SE (X.blk s H scope (compEnvC scope cl C X.env) fp) W0 vx fv)
    (hT : ∀ i ∈ T.slots, i ∈ own.map (·.2) := by decide) (hs : ∀ x, foldedSetIterable iter X.env x = pure x := by intro _; rfl) :
    SE X Wx (.DictComp kx vx [⟨tg, iter, ifs, 0⟩] scope pos) (mDComp (own.map (·.2)) it T c fk fv) :=
  weakE (pe_dc cn.calm cn.nd hi (blkOk_by ok) (fun s H C cl fp => hg s H C cl fp (cn.blk ..)) (fun s H C cl fp => ht s H C cl fp (cn.blk ..)) (fun s H C cl fp => hk s H C cl fp (cn.blk ..)) (fun s H C cl fp => hv s H C cl fp (cn.blk ..)) hs) (dcomp_of hT)
end
end Wm

set_option Elab.async false
set_option linter.all false
set_option maxRecDepth 100000
set_option maxHeartbeats 3200000
namespace Wm
open PySem PySem.Spec PyProof.Rows L2

/-! ### dict(pairs) -/
def mergeW (kvs more : List (W × W)) : List (W × W) := more.foldl (fun acc p => putW acc p.1 p.2) kvs
def pairsW : List W → Option (List (W × W))
  | [] => some []
  | .tup [k, v] :: r => match keyW k, pairsW r with
    | some _, some m => some ((k, v) :: m)
    | _, _ => none
  | _ :: _ => none
def oDict : COp
  | [w], S => match asQ S w with
    | some (_, l) => match pairsW l with
      | some ps => if l.length ≤ bigL then some (.ref S.length, S ++ [.dic (mergeW [] ps)]) else none
      | none => none
    | none => none
  | _, _ => none
section
variable {K : PySem.W.Frag} {ρ : List Addr} {H : Hp}
theorem KWs.merge : ∀ {more : List (Key × V)} {ms : List (W × W)} {ks : List (Key × V)} {kvs : List (W × W)}, KWs K ρ H more ms → (∀ p ∈ ms, (keyW p.1).isSome = true) → KWs K ρ H ks kvs → KWs K ρ H (mergeK ks more) (mergeW kvs ms)
  | [], [], _, _, _, _, h => h
  | [], _ :: _, _, _, h, _, _ => nomatch h
  | _ :: _, [], _, _, h, _, _ => nomatch h
  | p :: more, q :: ms, ks, kvs, .cons r t, hk, h => by
    obtain ⟨r1, r2⟩ := r
    have e := rel_key r1
    exact KWs.merge (more := more) (ms := ms) t (fun x hx => hk x (List.mem_cons_of_mem _ hx)) (KWs.put h e r1 r2)
theorem pairsW_of {X : Cx} {pins : List (Addr × Obj)} {σ : L2.St} {s : Shared} (hX : X.K = K) (I : Inv X pins σ H s) : ∀ {l : List W} {ps : List (W × W)} {vs : List V}, pairsW l = some ps → RWs K ρ H vs l →
    ∃ (as : List Addr) (ks : List (Key × V)) (prs : List (Value × Value)) (kps : List (Key × Value)), vs = as.map V.ref ∧ KWs K ρ H ks ps ∧ KV ks kps ∧ prs.length = as.length ∧ kps.length = as.length ∧ (∀ p ∈ ps, (keyW p.1).isSome = true) ∧
      ∀ (j : Nat) (k v : Value), prs[j]? = some (k, v) → ∃ (a : Addr) (kk : Key), as[j]? = some a ∧ s.heap.IsTuple a #[k, v] ∧ kps[j]? = some (kk, v) ∧ keyIs kk k = true
  | [], ps, vs, h, r => by
    cases h
    cases r
    exact ⟨[], [], [], [], rfl, .nil, .nil, rfl, rfl, by simp, by simp⟩
  | w :: l, ps, vs, h, r => by
    unfold pairsW at h
    split at h
    · rename_i h0; cases h0
    · rename_i k v r' h0
      cases h0
      split at h
      · rename_i kk m h1 h2
        cases h
        cases r with
        | cons r1 r2 =>
          obtain ⟨as, ks, prs, kps, i1, i2, i3, i4, i5, i6, i7⟩ := pairsW_of hX I h2 r2
          subst hX
          obtain ⟨a, xs, e1, e2, rs⟩ := asT_of r1
          obtain ⟨its, rv, ht, _⟩ := I.tuple e2
          cases rs with
          | cons rk rs =>
            cases rs with
            | cons rw' rs =>
              cases rs
              obtain ⟨u1, u2, eu, ru, rv'⟩ := vals2 rv
              subst eu
              have ek := key_rel h1 rk
              refine ⟨a :: as, (kk, _) :: ks, (u1, u2) :: prs, (kk, u2) :: kps, by rw [e1, i1]; rfl, .cons ⟨by rw [← ek]; exact rk, rw'⟩ i2, .cons ⟨rfl, rv'⟩ i3, by simp [i4], by simp [i5], fun p hp => ?_, fun j k v e => ?_⟩
              · rcases List.mem_cons.mp hp with z | z
                · rw [z]; show (keyW _).isSome = true; rw [h1]; rfl
                · exact i6 p z
              · cases j with
                | zero =>
                  cases e
                  exact ⟨a, kk, rfl, ht, rfl, kV_is (P := X.prog) (w := X.w) (by rw [← ek]; exact ru)⟩
                | succ j =>
                  obtain ⟨a', kk', f1, f2, f3, f4⟩ := i7 j k v (by simpa using e)
                  exact ⟨a', kk', by simpa using f1, f2, by simpa using f3, f4⟩
      · cases h
    · cases h
theorem mergeW_len : ∀ (ms kvs : List (W × W)), (mergeW kvs ms).length ≤ kvs.length + ms.length
  | [], kvs => by simp [mergeW]
  | p :: ms, kvs => by
    have := mergeW_len ms (putW kvs p.1 p.2)
    have := putW_len (kvs := kvs) (k := p.1) (w := p.2)
    rw [List.length_cons]
    show (mergeW (putW kvs p.1 p.2) ms).length ≤ _
    omega
end
theorem pairsW_len : ∀ {l : List W} {ps : List (W × W)}, pairsW l = some ps → ps.length = l.length
  | [], ps, h => by cases h; rfl
  | w :: l, ps, h => by
    unfold pairsW at h
    split at h
    · rename_i h0; cases h0
    · rename_i k v r' h0
      cases h0
      split at h
      · rename_i kk m h1 h2
        cases h
        rw [List.length_cons, List.length_cons, pairsW_len h2]
      · cases h
    · cases h
section
variable {X : Cx}
theorem cw_dict (hc : X.calm = true) : CallW X (.type "dict") oDict := fun pins s σ H xs us Q I rs ⟨ρ, S, ws, ss, r1, q⟩ => by
  unfold oDict at q
  split at q
  · rename_i w
    split at q
    · rename_i b l g
      split at q
      · rename_i ps hp
        split at q
        · rename_i hlen
          obtain ⟨v, rfl, rv⟩ := r1.of1
          obtain ⟨a, vs, rfl, hq, rws⟩ := asQ_of ss rv g
          rw [Vals.ref1 rs]
          obtain ⟨as, ks, prs, kps, i1, i2, i3, i4, i5, i6, i7⟩ := pairsW_of rfl I hp rws
          subst i1
          have la : as.length = l.length := by have := rws.length; rw [List.length_map] at this; exact this
          have hm : (s.heap.objs.size == sysModules) = false := beq_eq_false_iff_ne.mpr (Nat.ne_of_gt I.big)
          have go : ∀ (h' : Heap) (tk : Nat), h'.DictOf (mixKind X.prog X.w) s.heap.objs.size (merged [] kps) → (∀ b o, s.heap.get? b = some o → h'.get? b = some o) → ∃ v' H', Inv X pins σ H' { s with heap := h', toks := tk } ∧ RelV v' (.ref s.heap.objs.size) ∧ Q v' H' := fun h' tk hd' k => by
            have hl2 : (mergeK [] ks).length ≤ sizeLine := by
              refine Nat.le_trans (length_mergeK ks []) ?_
              rw [List.length_nil, Nat.zero_add, Paired.length i2, pairsW_len hp]
              exact bigL_line hlen
            refine ⟨.ref s.heap.objs.size, upd H s.heap.objs.size (.dK (mergeK [] ks)), I.laid (t' := tk) k (Nat.le_refl _) (show ObjOk X.prog X.w _ _ _ (.dK (mergeK [] ks)) from ⟨hl2, hm, merged [] kps, KV.merge i3 .nil, hd'⟩), rfl, ?_⟩
            have fr := I.fresh
            exact q _ (ρ ++ [s.heap.objs.size]) _ (Ext.push fr) (.ref (push_at ss _)) (ss.push fr ⟨_, upd_same, KWs.merge (i2.mono (Ext.push fr)) i6 .nil⟩)
          have items : ∀ {T : Nat → Addr}, True := trivial
          cases b with
          | true =>
            rw [if_pos rfl] at hq
            cases rv with
            | tup e1 e2 _ =>
              obtain ⟨oget, _, its, rits, oT, hoT, hcT, nT, hdT⟩ := I.hok _ _ e1
              rw [oget] at hoT
              cases hoT
              have er := refs_at (I.tuple_inj hq (.inl (.inr ⟨_, e1⟩)) ▸ rits)
              subst er
              have P := PairArg.tuple (prog := X.prog) (w := X.w) a (as.map Value.ref).toArray (fun j => as.getD j 0) prs
              refine PySem.call_dict_pairs (knd := mixKind X.prog X.w) (kvs := kps) P (I.ok.hd hc) ⟨⟨_, nT, oget, hcT, e2, hdT⟩, by simp [i4], fun j k v e => ?_⟩ ⟨by omega, fun i key v e => ?_⟩ (by rw [i4, la]; exact bigL_line hlen) fun h' tk hd' k => go h' tk hd' fun b o e => k b o (by simp) e
              · obtain ⟨a', kk, f1, f2, f3, f4⟩ := i7 j k v e
                refine ⟨?_, .inl ?_⟩
                · simp [f1]
                · have : as.getD j 0 = a' := by simp [List.getD, f1]
                  show s.heap.IsTuple (as.getD j 0) _
                  rw [this]; exact f2
              · obtain ⟨a', kk, f1, f2, f3, f4⟩ := i7 i key v e
                exact ⟨kk, f3, f4⟩
            | _ => simp [asQ, asL] at g <;> (obtain ⟨_, _, z⟩ := g)
          | false =>
            rw [if_neg (by decide)] at hq
            obtain ⟨its, rits, ⟨o, nn, ho, hcl, hdd, hdat⟩, _⟩ := I.list hq
            have er := refs_at rits
            subst er
            have P := PairArg.list (prog := X.prog) (w := X.w) a (as.map Value.ref).toArray (fun j => as.getD j 0) prs
            refine PySem.call_dict_pairs (knd := mixKind X.prog X.w) (kvs := kps) P (I.ok.hd hc) ⟨⟨o, nn, ho, hcl, hdd, hdat⟩, by simp [i4], fun j k v e => ?_⟩ ⟨by omega, fun i key v e => ?_⟩ (by rw [i4, la]; exact bigL_line hlen) fun h' tk hd' k => go h' tk hd' fun b o e => k b o (by simp) e
            · obtain ⟨a', kk, f1, f2, f3, f4⟩ := i7 j k v e
              refine ⟨?_, .inl ?_⟩
              · simp [f1]
              · have : as.getD j 0 = a' := by simp [List.getD, f1]
                show s.heap.IsTuple (as.getD j 0) _
                rw [this]; exact f2
            · obtain ⟨a', kk, f1, f2, f3, f4⟩ := i7 i key v e
              exact ⟨kk, f3, f4⟩
        · exact q.elim
      · exact q.elim
    · exact q.elim
  · exact q.elim
end
end Wm

set_option Elab.async false
set_option linter.all false
set_option maxRecDepth 100000
set_option maxHeartbeats 3200000
namespace Wm
open PySem PySem.Spec PyProof.Rows L2

/-! ### sorted(d), keys numbers -/
def leI (a b : Int) : Bool := decide (a ≤ b)
def keyInts : List (W × W) → Option (List Int)
  | [] => some []
  | (.int i, _) :: r => (keyInts r).map (i :: ·)
  | _ :: _ => none
def oSortD : COp
  | [.ref n], S => match S[n]? with
    | some (.dic kvs) => match keyInts kvs with
      | some ns => lstO ((ns.mergeSort leI).map .int) S
      | none => none
    | _ => none
  | _, _ => none
def oSort : COp := orC oSortL oSortD
theorem keyInts_of {K : PySem.W.Frag} {ρ : List Addr} {H : Hp} : ∀ {ks : List (Key × V)} {kvs : List (W × W)} {ns : List Int}, KWs K ρ H ks kvs → keyInts kvs = some ns → ks.map (·.1) = ns.map fun i => (Sum.inl i : Key)
  | [], _, _, .nil, h => by cases h; rfl
  | p :: ks, q :: kvs, ns, .cons r t, h => by
    obtain ⟨q1, q2⟩ := q
    obtain ⟨p1, p2⟩ := p
    obtain ⟨r1, r2⟩ := r
    cases q1 with
    | int i =>
      unfold keyInts at h
      obtain ⟨ms, h1, rfl⟩ := Option.map_eq_some_iff.mp h
      have ih := keyInts_of t h1
      simp only at r1
      cases p1 with
      | inl i' =>
        cases r1
        rw [List.map_cons, ih]; rfl
      | inr x => cases r1
    | _ => simp [keyInts] at h
theorem vals_int_list : ∀ {vs : List Value} {ns : List Int}, vs.length = ns.length → (∀ (j : Nat) (v : Value), vs[j]? = some v → ∃ i t, ns[j]? = some i ∧ v = .int i t) → IntsAre vs ns
  | [], [], _, _ => .nil
  | [], _ :: _, h, _ => by cases h
  | _ :: _, [], h, _ => by cases h
  | v :: vs, n :: ns, h, k => by
    obtain ⟨i, t, e1, e2⟩ := k 0 v rfl
    cases e1
    subst e2
    exact .cons _ _ (vals_int_list (Nat.succ.inj h) fun j v e => by
      obtain ⟨i, t, e1, e2⟩ := k (j + 1) v (by simpa using e)
      exact ⟨i, t, by simpa using e1, e2⟩)
section
variable {X : Cx}
theorem cw_sortD (hc : X.calm = true) (hu : X.A.units + 64 < cLine) : CallW X (.builtin "sorted") oSortD := fun pins s σ H xs us Q I rs ⟨ρ, S, ws, ss, r1, q⟩ => by
  unfold oSortD at q
  split at q
  · rename_i n
    split at q
    · rename_i kvs g
      split at q
      · rename_i ns hk
        obtain ⟨v, rfl, rv⟩ := r1.of1
        obtain ⟨d, rfl, hd⟩ := rv.isRef
        obtain ⟨ks, e2, r2⟩ := ss.ob n d _ hd g
        have hl := lstO_len q
        rw [List.length_map, List.length_mergeSort] at hl
        have ek := keyInts_of r2 hk
        have lks : ks.length = ns.length := by have := congrArg List.length ek; simpa using this
        rw [Vals.ref1 rs]
        obtain ⟨_, hs0, vs, kv, hdo⟩ := I.hok d _ e2
        obtain ⟨ep, hat⟩ := hdo.dictAt
        have lvs : ks.length = vs.length := Paired.length kv
        refine PySem.Calls.call_function_entry PyProof.Rows.kind_sorted PyProof.Rows.plain_sorted PyProof.Rows.entry_sorted (PyProof.Rows.args_sorted1 _) ?_
        unfold Builtin.«sorted»
        refine wpAny_bind (m := checkCount "sorted" 1 1 _) (wpAny_pure ?_)
        refine wpAny_bind (PySem.W.kdu_collect (A := X.A.in1) (PySem.W.kdl_dict (prog := X.prog) (w := X.w) (knd := mixKind X.prog X.w) (kvs := vs) (ep := ep) hs0) (I.ok.hd hc) hat (by have := bigL_line hl; omega) fun h' tk acc hkp hacc => ?_)
        have al : acc.toList.length = ns.length := by rw [Array.length_toList, hacc.1]; omega
        have iv : IntsAre acc.toList ns := vals_int_list al fun j v e => by
          obtain ⟨k, x, f1, f2⟩ := hacc.2 j v (by rw [← Array.getElem?_toList]; exact e)
          have hj : j < ns.length := by
            have := (List.getElem?_eq_some_iff.mp e).1
            omega
          have e3 : (ks.map (·.1))[j]? = some (Sum.inl ns[j] : Key) := by rw [ek, List.getElem?_map, List.getElem?_eq_getElem hj]; rfl
          rw [List.getElem?_map] at e3
          obtain ⟨pk, g1, g2⟩ := Option.map_eq_some_iff.mp e3
          obtain ⟨qv, g3, g4, g5⟩ := LiI.paired_get kv g1
          rw [f1] at g3
          cases g3
          have rk : RelV (kV pk.1) v := by
            rw [g4]
            exact relV_key (show keyIs k v = true from f2)
          rw [g2] at rk
          obtain ⟨t, e⟩ := rk
          exact ⟨ns[j], t, List.getElem?_eq_getElem hj, e⟩
        refine wpAny_bind (wpAny_newList ?_ (by rw [al]; exact bigL_line hl))
        have ol : (h'.push { cls := .type "list", data := .seq acc.toList.toArray }).get? h'.objs.size = some (seqObj "list" acc.toList.toArray 0) := Heap.get?_push_size _ rfl
        have er : ∀ {us : List Value} {ms : List Int}, IntsAre us ms → PySem.W.EachIs (fun (v : Value) (b : Int) => ∃ t, v = Value.int b t) us ms ∧ PySem.W.EachIs (fun (v : Value) (b : Int) => ∃ as, Reads (h'.push { cls := .type "list", data := .seq acc.toList.toArray }) v (PyData.int b) as ∧ h'.objs.size ∉ as) us ms := by
          intro us ms h
          induction h with
          | nil => exact ⟨.nil, .nil⟩
          | cons i t h ih => exact ⟨.cons ⟨t, rfl⟩ ih.1, .cons ⟨_, .int i t, by simp⟩ ih.2⟩
        obtain ⟨e3, e4⟩ := er iv
        refine wpAny_bind (wpAny_holding (PySem.W.list_sort_data (bs := ns) (enc := fun b : Int => PyData.int b) (s := { s with heap := h'.push { cls := .type "list", data := .seq acc.toList.toArray }, toks := tk }) ol e3 e4 (PySem.W.AllAlike.of fun b b' => by simp [PySem.W.alike]) (PySem.W.Sortable.others fun b => ⟨by simp, by simp⟩) (bigL_line hl) (fun b hb => ?_) fun out ho hE => ?_))
        · show X.A.units + 1 + 1 + _ < cLine
          simp only [PyData.depth]
          omega
        · have hle : PySem.W.dataLe false (fun b : Int => PyData.int b) = leI := PySem.W.dataLe_int (β := Int) fun b => b
          rw [hle] at hE
          have back : ∀ {us : List Value} {ms : List Int}, PySem.W.EachIs (fun (v : Value) (b : Int) => ∃ t, v = Value.int b t) us ms → IntsAre us ms := by
            intro us ms h
            induction h with
            | nil => exact .nil
            | cons h t ih =>
              obtain ⟨tk, rfl⟩ := h
              exact .cons _ tk ih
          have bi := back hE
          obtain ⟨c, hcc⟩ := PyProof.Rows.sortedHeap_at (vs := acc.toList) (out := List.toArray out) ol
          have I2 : Inv X pins σ H { s with heap := h', toks := tk } := I.kept (t' := tk) hkp
          have vv := vals_of_ints iv
          have I3 := I2.lnew (t' := tk) vv (by rw [List.length_map]; exact bigL_line hl)
          have fr : H h'.objs.size = none := I2.fresh
          have oo := vals_of_ints bi
          refine wpAny_pure ⟨_, rfl, ?_⟩
          have wr := I3.write (x := h'.objs.size) (e := h'.objs.size) (o := .lst ((ns.mergeSort leI).map V.int)) (t' := tk) (h' := PyProof.Rows.sortedHeap (h'.push { cls := .type "list", data := .seq acc.toList.toArray }) h'.objs.size acc.toList (List.toArray out)) (by rw [upd_same]; trivial) (.inl rfl) (fun b u hb hu => by rw [PyProof.Rows.sortedHeap_old hb (Heap.lt_size hu)]; exact hu) ⟨_, hcc⟩ ⟨by rw [List.length_map, List.length_mergeSort]; exact bigL_line hl, out, c, oo, hcc⟩
          have eu : upd (upd H h'.objs.size (.lst (ns.map V.int))) h'.objs.size (.lst ((ns.mergeSort leI).map V.int)) = upd H h'.objs.size (.lst ((ns.mergeSort leI).map V.int)) := by
            funext b
            by_cases hb : b = h'.objs.size
            · subst hb; rw [upd_same, upd_same]
            · rw [upd_ne hb, upd_ne hb, upd_ne hb]
          rw [eu] at wr
          refine ⟨.ref _, _, wr, rfl, ?_⟩
          have go : ∀ (ρ2 : List Addr) (H2 : Hp) (ms : List Int), RWs X.K ρ2 H2 (ms.map V.int) (ms.map W.int) := fun ρ2 H2 ms => by
            induction ms with
            | nil => exact .nil
            | cons a r ih => exact .cons (.int a) ih
          exact (lst_new ss (go ρ H _) q).2 _ fr
      · exact q.elim
    · exact q.elim
  · exact q.elim
theorem cw_sort (hc : X.calm = true) (hu : X.A.units + 64 < cLine) : CallW X (.builtin "sorted") oSort := cw_or (cw_sortL hu) (cw_sortD hc hu)
end
end Wm

set_option Elab.async false
set_option linter.all false
set_option maxRecDepth 100000
set_option maxHeartbeats 3200000
namespace Wm
open PySem PySem.Spec PyProof.Rows L2

/-! ### dict comprehensions of two clauses -/
section
variable {prog : Program} {w : World} {A : Around} {R : Result → Shared → Prop} {kx vx t0 i0 t1 i1 : Expr} {f0 f1 : List Expr} {scope : Scope} {pos : Pos} {it : Value} {D : Addr} {env : Env}
abbrev dE (kx vx t0 i0 t1 i1 : Expr) (f0 f1 : List Expr) (scope : Scope) (pos : Pos) : Expr := .DictComp kx vx [⟨t0, i0, f0, 0⟩, ⟨t1, i1, f1, 0⟩] scope pos
abbrev tests (fs : List Expr) (env : Env) : Sem Bool := forIn fs true fun c r => if r = true then do let ok ← isTrue c env (eval c env); pure (ForInStep.yield ok) else pure (ForInStep.yield r)
abbrev nB (prog : Program) (w : World) (A : Around) (env : Env) (R : Result → Shared → Prop) : Value → Shared → Prop := notedBy (model prog w) A env fun e z => R (.error e) z
theorem dturn0 : compTurn (dE kx vx t0 i0 t1 i1 f0 f1 scope pos) 0 it (.ref D) env = (do
    standAt i0.pos
    match ← pyNext it with
    | none => pure (.done .next)
    | some v =>
      letOwnedTupleGo t0 it v
      assign t0 env v
      let mut ok := true
      for c in f0 do
        if ok then ok ← isTrue c env (eval c env)
      if ok then
        let x ← eval i1 env
        standAt i1.pos
        let x ← foldedSetIterable i1 env x
        let _ ← runOwn (.compStart (dE kx vx t0 i0 t1 i1 f0 f1 scope pos) 1 (← holding [x] (pyIter x)) (.ref D) env) env
      again (.compLoop (dE kx vx t0 i0 t1 i1 f0 f1 scope pos) 0 it (.ref D) env)) := by rfl
theorem dturn1 : compTurn (dE kx vx t0 i0 t1 i1 f0 f1 scope pos) 1 it (.ref D) env = (do
    standAt i1.pos
    match ← pyNext it with
    | none => pure (.done .next)
    | some v =>
      letOwnedTupleGo t1 it v
      assign t1 env v
      let mut ok := true
      for c in f1 do
        if ok then ok ← isTrue c env (eval c env)
      if ok then
        (do
          let kv ← eval kx env
          let vv ← holding [kv] (eval vx env)
          standAt { kx.pos with endLine := vx.pos.endLine, endCol := vx.pos.endCol }
          holding [kv, vv] (dictSet D kv vv))
      again (.compLoop (dE kx vx t0 i0 t1 i1 f0 f1 scope pos) 1 it (.ref D) env)) := by rfl
/-- the first clause, turn by turn -/
theorem dloop0 (fold : ∀ x, foldedSetIterable i1 env x = pure x) (I : Nat → Shared → Prop)
    (one : ∀ n s, I n s → wpAny (model prog w) A (pyNext it) (fun r z => match r with
      | none => R (.ok .next) z
      | some v => wpAny (model prog w) A (letOwnedTupleGo t0 it v) (fun _ z1 => wpAny (model prog w) A (assign t0 env v) (fun _ z2 => wpAny (model prog w) A (tests f0 env) (fun ok z3 =>
          if ok = true then wpAny (model prog w) A (eval i1 env) (fun x z4 => wpAny (model prog w) A (pyIter x) (fun j z5 =>
              codeAny (model prog w) A (.compStart (dE kx vx t0 i0 t1 i1 f0 f1 scope pos) 1 j (.ref D) env) (fun r z => match r with
                | .ok _ => ∃ m, m < n ∧ I m z
                | .error _ => False) z5) (nB prog w A env R) z4) (nB prog w A env R) z3
          else ∃ m, m < n ∧ I m z3) (nB prog w A env R) z2) (nB prog w A env R) z1) (nB prog w A env R) z) (nB prog w A env R) s)
    (n : Nat) {s : Shared} (h : I n s) : codeAny (model prog w) A (.compLoop (dE kx vx t0 i0 t1 i1 f0 f1 scope pos) 0 it (.ref D) env) R s := by
  refine codeAny_loop rfl I (fun n s hI => ?_) n h
  show wpAny _ A ((compTurn (dE kx vx t0 i0 t1 i1 f0 f1 scope pos) 0 it (.ref D) env).onRaise (fun x => do noteFrame x env; theTreesLotGoes x)) _ _ s
  refine wpAny_noted ?_
  rw [dturn0]
  refine wpAny_bind (wpAny_standAt (wpAny_bind (wpAny_mono (one n s hI) (fun r z hr => ?_) fun _ _ y => y)))
  cases r with
  | none => exact wpAny_pure hr
  | some v =>
    refine wpAny_bind (wpAny_mono hr (fun _ z1 h1 => ?_) fun _ _ y => y)
    refine wpAny_bind (wpAny_mono h1 (fun _ z2 h2 => ?_) fun _ _ y => y)
    refine wpAny_bind (wpAny_mono h2 (fun ok z3 h3 => ?_) fun _ _ y => y)
    cases ok with
    | false => exact wpAny_pure ⟨rfl, h3⟩
    | true =>
      refine wpAny_bind (wpAny_mono h3 (fun x z4 h4 => ?_) fun _ _ y => y)
      refine wpAny_bind (wpAny_standAt (wpAny_bind (wpAny_of_eq (fold x) (wpAny_bind (wpAny_holding (wpAny_mono h4 (fun j z5 h5 => ?_) fun _ _ y => y))))))
      refine wpAny_bind (wpAny_runOwn ?_)
      rw [Around.mark_none]
      refine codeAny_mono h5 fun r z hz => ?_
      cases r with
      | ok f => first
        | exact wpAny_pure ⟨rfl, hz⟩
        | exact wpAny_bind (wpAny_pure (wpAny_pure ⟨rfl, hz⟩))
      | error e => exact hz.elim
/-- the second -/
theorem dloop1 (I : Nat → Shared → Prop)
    (one : ∀ n s, I n s → wpAny (model prog w) A (pyNext it) (fun r z => match r with
      | none => R (.ok .next) z
      | some v => wpAny (model prog w) A (letOwnedTupleGo t1 it v) (fun _ z1 => wpAny (model prog w) A (assign t1 env v) (fun _ z2 => wpAny (model prog w) A (tests f1 env) (fun ok z3 =>
          if ok = true then wpAny (model prog w) A (eval kx env) (fun y z4 => wpAny (model prog w) A (eval vx env) (fun u z5 =>
              wpAny (model prog w) A (dictSet D y u) (fun _ z6 => ∃ m, m < n ∧ I m z6) (nB prog w A env R) z5) (nB prog w A env R) z4) (nB prog w A env R) z3
          else ∃ m, m < n ∧ I m z3) (nB prog w A env R) z2) (nB prog w A env R) z1) (nB prog w A env R) z) (nB prog w A env R) s)
    (n : Nat) {s : Shared} (h : I n s) : codeAny (model prog w) A (.compLoop (dE kx vx t0 i0 t1 i1 f0 f1 scope pos) 1 it (.ref D) env) R s := by
  refine codeAny_loop rfl I (fun n s hI => ?_) n h
  show wpAny _ A ((compTurn (dE kx vx t0 i0 t1 i1 f0 f1 scope pos) 1 it (.ref D) env).onRaise (fun x => do noteFrame x env; theTreesLotGoes x)) _ _ s
  refine wpAny_noted ?_
  rw [dturn1]
  refine wpAny_bind (wpAny_standAt (wpAny_bind (wpAny_mono (one n s hI) (fun r z hr => ?_) fun _ _ y => y)))
  cases r with
  | none => exact wpAny_pure hr
  | some v =>
    refine wpAny_bind (wpAny_mono hr (fun _ z1 h1 => ?_) fun _ _ y => y)
    refine wpAny_bind (wpAny_mono h1 (fun _ z2 h2 => ?_) fun _ _ y => y)
    refine wpAny_bind (wpAny_mono h2 (fun ok z3 h3 => ?_) fun _ _ y => y)
    cases ok with
    | false => exact wpAny_pure ⟨rfl, h3⟩
    | true =>
      refine wpAny_bind (wpAny_bind (wpAny_mono h3 (fun y z4 h4 => ?_) fun _ _ y => y))
      refine wpAny_bind (wpAny_holding (wpAny_mono h4 (fun u z5 h5 => ?_) fun _ _ y => y))
      exact wpAny_bind (wpAny_standAt (wpAny_holding (wpAny_mono h5 (fun _ z6 h6 => wpAny_pure ⟨rfl, h6⟩) fun _ _ y => y)))
theorem dstart1 {s : Shared} (h0 : codeAny (model prog w) A (.compLoop (dE kx vx t0 i0 t1 i1 f0 f1 scope pos) 1 it (.ref D) env) R s)
    (h : wpAny (model prog w) A (pyIter it) (fun j z => codeAny (model prog w) A (.compLoop (dE kx vx t0 i0 t1 i1 f0 f1 scope pos) 1 j (.ref D) env) R z) (nB prog w A env R) s) :
    codeAny (model prog w) A (.compStart (dE kx vx t0 i0 t1 i1 f0 f1 scope pos) 1 it (.ref D) env) R s := by
  refine codeAny_of_tree ?_
  show wpAny _ _ ((compStart (dE kx vx t0 i0 t1 i1 f0 f1 scope pos) 1 it (.ref D) env).onRaise (fun x => do noteFrame x env; standAt theWindowsPlace)) _ _ s
  refine wpAny_notedAt ?_
  unfold compStart
  show wpAny _ _ (ask >>= _) _ _ s
  refine wpAny_bind (wpAny_askSetting (wpAny_ite ?_))
  split
  · first
    | exact wpAny_bind (wpAny_pure (wpAny_pure (And.intro rfl h0)))
    | exact wpAny_pure (And.intro rfl h0)
  · first
    | exact wpAny_bind (wpAny_rule (wpAny_bind (wpAny_standAt (wpAny_bind (wpAny_mono h (fun j z k => wpAny_pure (And.intro rfl k)) fun _ _ y => y)))))
    | (refine wpAny_bind (wpAny_rule ?_)
       show wpAny _ _ (standAt i1.pos >>= _) _ _ s
       exact wpAny_bind (wpAny_standAt (wpAny_bind (wpAny_mono h (fun j z k => wpAny_pure (And.intro rfl k)) fun _ _ y => y))))
end
section
variable {X : Cx}
/-- what is asked ahead of {k: v for .. for ..} -/
def tDc2 (wi : TI) (g : TG) (tt : TT) (wi1 : TI) (g1 : TG) (tt1 : TT) (tk tv : TE) (vs vs1 : List Nat) : TE := fun σ H Q => wi σ H fun J H1 => ∀ D, H1 D = none → ∃ W : Nat → Nat → Hp → Prop, (∃ m, W 0 m (upd H1 D (.dK []))) ∧ ∀ i m H, W i m H →
  (J.stop i H ∧ Q (.ref D) H) ∨ (J.go i H ∧ ∃ Nx : Hp → Prop, (∀ H', Nx H' → ∃ m', m' < m ∧ W (i + 1) m' H') ∧ ∀ x H', J.yld i H x H' → g x (wipe σ vs) H' fun σ2 H2 => wipe σ2 vs = wipe σ vs ∧ tt σ2 H2 fun b H3 =>
    if b = true then wi1 σ2 H3 fun J1 H4 => ∃ W1 : Nat → Nat → Hp → Prop, (∃ m, W1 0 m H4) ∧ ∀ j k H, W1 j k H →
      (J1.stop j H ∧ Nx H) ∨ (J1.go j H ∧ ∃ Nx1 : Hp → Prop, (∀ H', Nx1 H' → ∃ k', k' < k ∧ W1 (j + 1) k' H') ∧ ∀ x H', J1.yld j H x H' → g1 x (wipe σ2 vs1) H' fun σ3 H5 => wipe σ3 vs1 = wipe σ2 vs1 ∧ tt1 σ3 H5 fun b H6 =>
        if b = true then tk σ3 H6 fun y H7 => tv σ3 H7 fun z H8 => ∃ kvs kk, y = kV kk ∧ H8 D = some (.dK kvs) ∧ kvs.length < sizeLine ∧ Nx1 (upd H8 D (.dK (putK kvs kk z))) else Nx1 H6)
    else Nx H3)
abbrev BlkA (X : Cx) (scope : Scope) (P : Cx → Prop) : Prop := ∀ (s : Shared) (H : Hp) (C : Addr) (cl : List (Str × Addr)) (fp : List Addr), P (X.blk s H scope (compEnvC scope cl C X.env) fp)
theorem dc2_core {pins : List (Addr × Obj)} {s : Shared} {σ : L2.St} {H : Hp} {Q : VK} {kx vx tg iter tg1 iter1 : Expr} {ifs ifs1 : List Expr} {scope : Scope} {own : List (Str × Nat)} {vs1 : List Nat} {pos pos' : Pos} {wi wi1 : TI} {g g1 : TG} {tt tt1 : TT} {tk tv : TE} {use : Option (Value → Sem Unit)} {Qf : Value → Shared → Prop}
    (hc : X.calm = true) (hN : X.N.Nodup) (I : Inv X pins σ H s) (hi : PI X tg iter wi) (ok : BlkOk X.N X.env.scope scope own) (hv : ∀ i ∈ vs1, i ∈ own.map (·.2))
    (hg : BlkA X scope fun Y => PG Y tg g) (ht : BlkA X scope fun Y => PTs Y ifs tt) (hk : BlkA X scope fun Y => PE Y kx tk) (he : BlkA X scope fun Y => PE Y vx tv) (hs : ∀ x, foldedSetIterable iter X.env x = pure x)
    (hi1 : BlkA X scope fun Y => PI Y tg1 iter1 wi1) (hg1 : BlkA X scope fun Y => PG Y tg1 g1) (ht1 : BlkA X scope fun Y => PTs Y ifs1 tt1) (hs1 : ∀ env x, foldedSetIterable iter1 env x = pure x)
    (h : tDc2 wi g tt wi1 g1 tt1 tk tv (own.map (·.2)) vs1 σ H Q)
    (back : ∀ D C z m H', Inv X pins σ H' z → Q (.ref D) H' → z.heap.Ns C m → FpOk X pins H' C → compPost (model X.prog X.w) X.A X.xe use Qf (.ref D) C (.ok .next) z) :
    wpAny (model X.prog X.w) X.A (comprehension (dE kx vx tg iter tg1 iter1 ifs ifs1 scope pos) scope X.env pos' newDict false (eval iter X.env) use) Qf X.xe s := by
  have clo : ∀ y ∈ scope.names, y.2 = .free → ∃ c, X.env.cells.lookup y.1 = some c := fun y hy e => (ok.free y hy e).elim (fun k => I.ok.has _ (.inl k)) fun k => I.ok.has _ (.inr k)
  refine wpAny_comprehension_free (use := use) rfl hs (closure_ok clo) ok.kind (fun y hy e => by rw [ok.uniq y hy, e]) (thn (hi.run pins s σ H _ I h) fun xv s1 hx => thn hx fun iv s2 h2 => ?_)
  obtain ⟨it, fp, tn, J, H2, e0, I2, T, st2, f2, q⟩ := h2
  subst e0
  refine wpAny_newObj_type (newEnv_comp ?_)
  generalize hD : s2.heap.objs.size = D
  obtain ⟨W, ⟨m0, w0⟩, turn⟩ := q D (I2.hok.fresh (Nat.le_of_eq hD))
  generalize hs3 : ({ s2 with heap := s2.heap.push { cls := .type "dict", data := .dict #[] } } : Shared) = s3
  have I3 : Inv X pins σ (upd H2 D (.dK [])) s3 := by
    rw [← hs3]
    refine I2.laid (t' := s2.toks) (fun b o e => Heap.get?_push_of_some _ e) (Nat.le_of_eq hD) ?_
    rw [← hD]
    exact dk_empty s2.heap I2.big
  have h3 : s3.heap = s2.heap.push { cls := .type "dict", data := .dict #[] } := by rw [← hs3]
  have f3 : ∀ b ∈ fp, FpOk X pins (upd H2 D (.dK [])) b ∧ b < s3.heap.objs.size := fun b hb => by
    obtain ⟨o, e, _⟩ := T.obj _ _ st2 b hb
    have lt := Heap.lt_size e
    refine ⟨⟨?_, (f2 b hb).2⟩, by rw [h3, Heap.size_push]; exact Nat.lt_succ_of_lt lt⟩
    rw [upd_ne (by rw [← hD]; exact Nat.ne_of_lt lt)]
    exact (f2 b hb).1
  have st3 : tn 0 s3.heap := T.keep _ _ _ st2 fun b _ o e => by rw [h3]; exact Heap.get?_push_of_some _ e
  have I4 := block_start I3 ok hN f3
  have pg := hg s3 (upd H2 D (.dK [])) s3.heap.objs.size (cellsFrom (s3.heap.objs.size + 1) scope.names (cloFrom X.env.cells scope.names [])) fp
  have pt := ht s3 (upd H2 D (.dK [])) s3.heap.objs.size (cellsFrom (s3.heap.objs.size + 1) scope.names (cloFrom X.env.cells scope.names [])) fp
  have pk := hk s3 (upd H2 D (.dK [])) s3.heap.objs.size (cellsFrom (s3.heap.objs.size + 1) scope.names (cloFrom X.env.cells scope.names [])) fp
  have pv := he s3 (upd H2 D (.dK [])) s3.heap.objs.size (cellsFrom (s3.heap.objs.size + 1) scope.names (cloFrom X.env.cells scope.names [])) fp
  have pi1 := hi1 s3 (upd H2 D (.dK [])) s3.heap.objs.size (cellsFrom (s3.heap.objs.size + 1) scope.names (cloFrom X.env.cells scope.names [])) fp
  have pg1 := hg1 s3 (upd H2 D (.dK [])) s3.heap.objs.size (cellsFrom (s3.heap.objs.size + 1) scope.names (cloFrom X.env.cells scope.names [])) fp
  have pt1 := ht1 s3 (upd H2 D (.dK [])) s3.heap.objs.size (cellsFrom (s3.heap.objs.size + 1) scope.names (cloFrom X.env.cells scope.names [])) fp
  show codeAny _ _ (.compStart (dE kx vx tg iter tg1 iter1 ifs ifs1 scope pos) 0 (.ref it) (.ref D) (compEnvC scope (cellsFrom (s3.heap.objs.size + 1) scope.names (cloFrom X.env.cells scope.names [])) s3.heap.objs.size X.env)) (compPost (model X.prog X.w) X.A X.xe use Qf (.ref D) s3.heap.objs.size)
    { s3 with heap := pushCells (s3.heap.push { cls := .type "dict", data := .dict #[] }) scope.names }
  have nfp : ∀ b ∈ fp, (upd H2 D (.dK [])) b = none := fun b hb => (f3 b hb).1.1
  generalize hce : compEnvC scope (cellsFrom (s3.heap.objs.size + 1) scope.names (cloFrom X.env.cells scope.names [])) s3.heap.objs.size X.env = ce at I4 pg pt pk pv pi1 pg1 pt1 ⊢
  have cL : ce.locals = s3.heap.objs.size := by subst hce; rfl
  generalize hH3 : upd H2 D (.dK []) = H3 at I3 I4 pg pt pk pv pi1 pg1 pt1 w0 nfp f3
  generalize hs4 : ({ s3 with heap := pushCells (s3.heap.push { cls := .type "dict", data := .dict #[] }) scope.names } : Shared) = s4 at I4 ⊢
  have st4 : tn 0 s4.heap := T.keep _ _ _ st3 fun b _ o e => by rw [← hs4]; exact pushCells_keeps _ _ _ _ (Heap.get?_push_of_some _ e)
  generalize hY : X.blk s3 H3 scope ce fp = Y at I4 pg pt pk pv pi1 pg1 pt1
  have yp : Y.prog = X.prog := by subst hY; rfl
  subst hY
  have stat : ∀ {σ' : L2.St} {H' : Hp} {z : Shared}, Inv (X.blk s3 H3 scope ce fp) [] σ' H' z → (∀ b ∈ fp, H' b = none) → ∀ b ∈ fp, FpOk (X.blk s3 H3 scope ce fp) [] H' b := fun {σ' H' z} I' hn b hb =>
    ⟨hn b hb, (I'.ok.exf b hb).1, I'.ok.exfs b hb, .inl hb, fun x c e => (I'.ok.exf b hb).2 x c e, fun p hp => absurd (show p ∈ ([] : List (Addr × Obj)) ++ [] from hp) (by simp)⟩
  have loop : codeAny (model X.prog X.w) X.A (.compLoop (dE kx vx tg iter tg1 iter1 ifs ifs1 scope pos) 0 (.ref it) (.ref D) ce) (compPost (model X.prog X.w) X.A X.xe use Qf (.ref D) s3.heap.objs.size) s4 := by
    refine dloop0 (hs1 ce) (fun n z => ∃ i H', Inv (X.blk s3 H3 scope ce fp) [] (wipe σ (own.map (·.2))) H' z ∧ tn i z.heap ∧ (∀ b ∈ fp, H' b = none) ∧ W i n H') ?_ m0 ⟨0, H3, I4, st4, nfp, w0⟩
    rintro n s5 ⟨i, H5, I5, st5, n5, w5⟩
    rcases turn i n H5 w5 with ⟨stop, fin⟩ | ⟨go, Nx, hNx, step⟩
    · refine thnF (T.done (X.blk s3 H3 scope ce fp) rfl rfl rfl hc i [] s5 _ H5 (fun _ _ => False) I5 (stat I5 n5) st5 stop) fun r s6 ⟨hr, I6⟩ => ?_
      subst hr
      have I7 : Inv X pins σ H5 s6 := I3.call' (ch := fp) I6.os I6.base I6.hok I6.bare fun b hb => ⟨(f3 b hb).1.2.2.2.1, (f3 b hb).1.2.1, (f3 b hb).1.2.2.2.2.1, (f3 b hb).1.2.2.2.2.2⟩
      have nC : H5 s3.heap.objs.size = none := by rw [← cL]; exact I6.free
      obtain ⟨m, hn, _⟩ := I6.loc
      have hn : s6.heap.Ns ce.locals m := hn
      rw [cL] at hn
      exact back D s3.heap.objs.size s6 m H5 I7 fin hn (I3.fpOk (Nat.le_refl _) nC)
    · refine thnF (T.item (X.blk s3 H3 scope ce fp) rfl rfl rfl hc i [] s5 _ H5 (fun _ _ => False) I5 (stat I5 n5) st5 go) fun r s6 ⟨u, hr, h6⟩ => ?_
      subst hr
      refine thnF h6 fun _ s7 ⟨x, H7, I7, r7, y7, st7, n7⟩ => ?_
      refine thnF (pg.run _ s7 _ H7 x u _ (I7.pinned (stat I7 n7) (T.obj _ _ st7)) r7 (step x H7 y7)) fun _ s8 ⟨σ8, H8, I8, hw8, q8⟩ => ?_
      refine thnF (pt.run _ s8 σ8 H8 _ I8 q8) fun b s9 ⟨H9, I9, q9⟩ => ?_
      have fin : ∀ {σ9 : L2.St} {z : Shared} {H' : Hp}, Inv (X.blk s3 H3 scope ce fp) ([] ++ pinsAt fp s7.heap) σ9 H' z → (wipe σ (own.map (·.2))).length = σ9.length → (∀ (j : Nat) v, (wipe σ (own.map (·.2)))[j]? = some (some v) → σ9[j]? = some (some v)) → Nx H' →
          ∃ m, m < n ∧ ∃ i H', Inv (X.blk s3 H3 scope ce fp) [] (wipe σ (own.map (·.2))) H' z ∧ tn i z.heap ∧ (∀ b ∈ fp, H' b = none) ∧ W i m H' := fun {σ9 z H'} I' hl hkk nx => by
        obtain ⟨m', hm, w'⟩ := hNx H' nx
        have pin : ∀ b ∈ fp, ∀ o, s7.heap.get? b = some o → z.heap.get? b = some o ∧ H' b = none := fun b hb o e => by
          obtain ⟨z1, z2, _⟩ := I'.pin (b, o) (List.mem_append_right _ (List.mem_append_right _ (mem_pinsAt hb e)))
          exact ⟨z1, z2⟩
        refine ⟨m', hm, i + 1, H', (I'.unpinned (pins := [])).weak hl hkk, T.keep _ _ _ st7 fun b hb o e => (pin b hb o e).1, fun b hb => ?_, w'⟩
        obtain ⟨o, e, _⟩ := T.obj _ _ st7 b hb
        exact (pin b hb o e).2
      have l8 : (wipe σ (own.map (·.2))).length = σ8.length := by rw [← hw8, wipe_length]
      have k8 : ∀ (j : Nat) v, (wipe σ (own.map (·.2)))[j]? = some (some v) → σ8[j]? = some (some v) := fun j v e => by
        rw [← hw8] at e
        exact (wipe_some e).1
      have k9 : ∀ (j : Nat) v, (wipe σ (own.map (·.2)))[j]? = some (some v) → (wipe σ8 vs1)[j]? = some (some v) := fun j v e => by
        rw [← hw8] at e
        obtain ⟨e1, e2⟩ := wipe_some e
        rw [wipe_out fun z => e2 (hv j z)]
        exact e1
      cases b with
      | false =>
        simp only [Bool.false_eq_true, if_false] at q9 ⊢
        exact fin I9 l8 k8 q9
      | true =>
        simp only [if_true] at q9 ⊢
        refine thnF (pi1.run _ s9 σ8 H9 _ I9 q9) fun xv s10 hx => thnF hx fun iv s11 h11 => ?_
        obtain ⟨it1, fp1, tn1, J1, H11, e1, I11, T1, st11, f11, W1, ⟨m1, w1⟩, turn1⟩ := h11
        subst e1
        have stat1 : ∀ {H' : Hp}, (∀ b ∈ fp1, H' b = none) → ∀ b ∈ fp1, FpOk (X.blk s3 H3 scope ce fp) ([] ++ pinsAt fp s7.heap) H' b := fun hn b hb => ⟨hn b hb, (f11 b hb).2⟩
        have loop1 : codeAny (model X.prog X.w) X.A (.compLoop (dE kx vx tg iter tg1 iter1 ifs ifs1 scope pos) 1 (.ref it1) (.ref D) ce) (fun r z => match r with
            | .ok _ => ∃ m, m < n ∧ ∃ i H', Inv (X.blk s3 H3 scope ce fp) [] (wipe σ (own.map (·.2))) H' z ∧ tn i z.heap ∧ (∀ b ∈ fp, H' b = none) ∧ W i m H'
            | .error _ => False) s11 := by
          refine dloop1 (fun k z => ∃ j H', Inv (X.blk s3 H3 scope ce fp) ([] ++ pinsAt fp s7.heap) (wipe σ8 vs1) H' z ∧ tn1 j z.heap ∧ (∀ b ∈ fp1, H' b = none) ∧ W1 j k H') ?_ m1 ⟨0, H11, I11.weak (wipe_length _ _) (fun j v e => (wipe_some e).1), st11, fun b hb => (f11 b hb).1, w1⟩
          rintro k s12 ⟨j, H12, I12, st12, n12, w12⟩
          rcases turn1 j k H12 w12 with ⟨stop1, nx1⟩ | ⟨go1, Nx1, hNx1, step1⟩
          · refine thnF (T1.done (X.blk s3 H3 scope ce fp) rfl rfl rfl hc j _ s12 (wipe σ8 vs1) H12 (fun _ _ => False) I12 (stat1 n12) st12 stop1) fun r s13 ⟨hr, I13⟩ => ?_
            subst hr
            exact fin I13 (l8.trans (wipe_length σ8 vs1).symm) k9 nx1
          · refine thnF (T1.item (X.blk s3 H3 scope ce fp) rfl rfl rfl hc j _ s12 (wipe σ8 vs1) H12 (fun _ _ => False) I12 (stat1 n12) st12 go1) fun r s13 ⟨u1, hr, h13⟩ => ?_
            subst hr
            refine thnF h13 fun _ s14 ⟨x1, H14, I14, r14, y14, st14, n14⟩ => ?_
            refine thnF (pg1.run _ s14 (wipe σ8 vs1) H14 x1 u1 _ (I14.pinned (stat1 n14) (T1.obj _ _ st14)) r14 (step1 x1 H14 y14)) fun _ s15 ⟨σ15, H15, I15, hw15, q15⟩ => ?_
            refine thnF (pt1.run _ s15 σ15 H15 _ I15 q15) fun b1 s16 ⟨H16, I16, q16⟩ => ?_
            have fin1 : ∀ {z : Shared} {H' : Hp}, Inv (X.blk s3 H3 scope ce fp) (([] ++ pinsAt fp s7.heap) ++ pinsAt fp1 s14.heap) σ15 H' z → Nx1 H' → ∃ m, m < k ∧ ∃ j H', Inv (X.blk s3 H3 scope ce fp) ([] ++ pinsAt fp s7.heap) (wipe σ8 vs1) H' z ∧ tn1 j z.heap ∧ (∀ b ∈ fp1, H' b = none) ∧ W1 j m H' := fun {z H'} I' nx => by
              obtain ⟨m', hm, w'⟩ := hNx1 H' nx
              have pin : ∀ b ∈ fp1, ∀ o, s14.heap.get? b = some o → z.heap.get? b = some o ∧ H' b = none := fun b hb o e => by
                obtain ⟨z1, z2, _⟩ := I'.pin (b, o) (List.mem_append_right _ (List.mem_append_right _ (mem_pinsAt hb e)))
                exact ⟨z1, z2⟩
              refine ⟨m', hm, j + 1, H', I'.unpinned.weak (by rw [← hw15, wipe_length]) (fun j v e => by rw [← hw15] at e; exact (wipe_some e).1), T1.keep _ _ _ st14 fun b hb o e => (pin b hb o e).1, fun b hb => ?_, w'⟩
              obtain ⟨o, e, _⟩ := T1.obj _ _ st14 b hb
              exact (pin b hb o e).2
            cases b1 with
            | false =>
              simp only [Bool.false_eq_true, if_false] at q16 ⊢
              exact fin1 I16 q16
            | true =>
              simp only [if_true] at q16 ⊢
              refine thnF (pk.run _ s16 σ15 H16 _ I16 q16) fun z s17 ⟨yk, H17, I17, r17, q17⟩ => ?_
              refine thnF (pv.run _ s17 σ15 H17 _ I17 q17) fun z2 s18 ⟨yv, H18, I18, r18, kvs, kk, ek, hD18, hz18, nx⟩ => ?_
              subst ek
              exact d_dictSet (X := X.blk s3 H3 scope ce fp) I18 hD18 hz18 r17 r18 fun s19 I19 => fin1 I19 nx
        exact dstart1 loop1 (T1.self X.A 0 _ _ _ st11 loop1)
  exact codeAny_compStart_dict loop (T.self X.A 0 _ _ _ st4 loop)
theorem pe_dc2 {kx vx tg iter tg1 iter1 : Expr} {ifs ifs1 : List Expr} {scope : Scope} {own : List (Str × Nat)} {vs1 : List Nat} {pos : Pos} {wi wi1 : TI} {g g1 : TG} {tt tt1 : TT} {tk tv : TE}
    (hc : X.calm = true) (hN : X.N.Nodup) (hi : PI X tg iter wi) (ok : BlkOk X.N X.env.scope scope own) (hv : ∀ i ∈ vs1, i ∈ own.map (·.2))
    (hg : BlkA X scope fun Y => PG Y tg g) (ht : BlkA X scope fun Y => PTs Y ifs tt) (hk : BlkA X scope fun Y => PE Y kx tk) (he : BlkA X scope fun Y => PE Y vx tv) (hs : ∀ x, foldedSetIterable iter X.env x = pure x)
    (hi1 : BlkA X scope fun Y => PI Y tg1 iter1 wi1) (hg1 : BlkA X scope fun Y => PG Y tg1 g1) (ht1 : BlkA X scope fun Y => PTs Y ifs1 tt1) (hs1 : ∀ env x, foldedSetIterable iter1 env x = pure x) :
    PE X (dE kx vx tg iter tg1 iter1 ifs ifs1 scope pos) (tDc2 wi g tt wi1 g1 tt1 tk tv (own.map (·.2)) vs1) := by
  refine ⟨fun pins s σ H Q I h => ?_⟩
  rw [arm_eval_DictComp]
  refine dc2_core hc hN I hi ok hv hg ht hk he hs hi1 hg1 ht1 hs1 h fun D C z m H' I' q hn f => ⟨m, hn, fun h'' sb => ?_⟩
  obtain ⟨f0, f1, f2, f3, f4, f5⟩ := f
  exact ⟨.ref D, H', I'.turned (t' := z.toks) (fun b o hb e => (sb.2 b hb).trans e) f0 f1 f3 f4 f5, rfl, q⟩
end
end Wm

set_option Elab.async false
set_option linter.all false
set_option maxRecDepth 100000
set_option maxHeartbeats 3200000
namespace Wm
open PySem PySem.Spec PyProof.Rows L2

def dcIn (m : ItM) (T : Tgt) (c : FE Bool) (fk fv : FE W) (φ : Fr) (D : Nat) : Nat → Nat → Sto → Out Unit
  | 0, _, _ => .bad
  | n + 1, i, S => match m i S with
    | none => .bad
    | some none => .ok () S
    | some (some w) => match tgM T w φ with
      | none => .bad
      | some φ1 => bindN (c φ1 S) fun k S1 => if k = true then bindN (fk φ1 S1) fun y S2 => bindN (fv φ1 S2) fun z S3 => match putO D y z S3 with
          | some S4 => dcIn m T c fk fv φ D n (i + 1) S4
          | none => .bad
        else dcIn m T c fk fv φ D n (i + 1) S1
def dcM2 (m : ItM) (T : Tgt) (c : FE Bool) (own1 : List Nat) (it1 : FE ItM) (T1 : Tgt) (c1 : FE Bool) (fk fv : FE W) (φ : Fr) (D : Nat) : Nat → Nat → Sto → Out W
  | 0, _, _ => .bad
  | n + 1, i, S => match m i S with
    | none => .bad
    | some none => .ok (.ref D) S
    | some (some w) => match tgM T w φ with
      | none => .bad
      | some φ1 => bindN (c φ1 S) fun k S1 => if k = true then bindN (it1 φ1 S1) fun m1 S2 => bindN (dcIn m1 T1 c1 fk fv (wipeF φ1 own1) D bigT 0 S2) fun _ S3 => dcM2 m T c own1 it1 T1 c1 fk fv φ D n (i + 1) S3
        else dcM2 m T c own1 it1 T1 c1 fk fv φ D n (i + 1) S1
def mDComp2 (own own1 : List Nat) (it : FE ItM) (T : Tgt) (c : FE Bool) (it1 : FE ItM) (T1 : Tgt) (c1 : FE Bool) (fk fv : FE W) : FE W := fun φ S => (it φ S).bind fun m S1 => dcM2 m T c own1 it1 T1 c1 fk fv (wipeF φ own) S1.length bigT 0 (S1 ++ [.dic []])
theorem bindN_assoc {α β γ : Type} (o : Out α) (k : α → Sto → Out β) (l : β → Sto → Out γ) : bindN (bindN o k) l = bindN o fun a S => bindN (k a S) l := by cases o <;> rfl
theorem bindN_ite {β γ : Type} (b : Bool) (x y : Out β) (l : β → Sto → Out γ) : bindN (if b = true then x else y) l = if b = true then bindN x l else bindN y l := by cases b <;> rfl
section
variable {X : Cx} {Wx : WX} {k : Nat} {kx vx tg iter tg1 iter1 : Expr} {ifs ifs1 : List Expr} {scope : Scope} {own : List (Str × Nat)} {pos : Pos} {it it1 : FE ItM} {T T1 : Tgt} {c c1 : FE Bool} {fk fv : FE W}
theorem dcomp2_of {vs vs1 : List Nat} (hT : ∀ i ∈ T.slots, i ∈ vs) (hT1 : ∀ i ∈ T1.slots, i ∈ vs1) : ∀ σ H Q, tI X.K (RW X.K) Wx (mDComp2 vs vs1 it T c it1 T1 c1 fk fv) σ H Q → tDc2 (tII X.K Wx it) (gOf X.K T) (tI X.K rB W0 c) (tII X.K W0 it1) (gOf X.K T1) (tI X.K rB W0 c1) (tI X.K (RW X.K) W0 fk) (tI X.K (RW X.K) W0 fv) vs vs1 σ H Q := fun σ H Q ⟨ρ, φ, S, F, s, q⟩ =>
  into F s q fun m S1 J ρ1 H1 e1 r1 s1 F1 q1 => by
    intro Da hD
    have s2 : SW X.K (ρ1 ++ [Da]) (upd H1 Da (.dK [])) (S1 ++ [.dic []]) := s1.push hD ⟨[], upd_same, .nil⟩
    have e2 : Ext ρ1 H1 (ρ1 ++ [Da]) (upd H1 Da (.dK [])) := Ext.push hD
    refine ⟨fun i n H => ∃ ρ S, Ext (ρ1 ++ [Da]) (upd H1 Da (.dK [])) ρ H ∧ SW X.K ρ H S ∧ OutR X.K (RW X.K) ρ H Q (fun cls d H' => Wx cls d σ H') (dcM2 m T c vs1 it1 T1 c1 fk fv (wipeF φ vs) S1.length n i S), ⟨bigT, _, _, Ext.refl _ _, s2, OutR.step q1 e2⟩, ?_⟩
    rintro i n H ⟨ρ, S, e, s, q⟩
    have hDa : ρ[S1.length]? = some Da := e.pre _ _ (push_at s1 Da)
    cases n with
    | zero => exact q.elim
    | succ n =>
      simp only [dcM2] at q
      have j := r1 i ρ H S (e2.trans e) s
      cases hm : m i S with
      | none => simp only [hm] at q; exact q.elim
      | some o =>
        cases o with
        | none =>
          simp only [hm] at q j
          exact .inl ⟨j, q _ ρ H (Ext.refl _ _) (.ref hDa) s⟩
        | some w =>
          simp only [hm] at q j
          refine .inr ⟨j.1, fun H' => ∃ ρ S, Ext (ρ1 ++ [Da]) (upd H1 Da (.dK [])) ρ H' ∧ SW X.K ρ H' S ∧ OutR X.K (RW X.K) ρ H' Q (fun cls d H' => Wx cls d σ H') (dcM2 m T c vs1 it1 T1 c1 fk fv (wipeF φ vs) S1.length n (i + 1) S), fun H' z => ⟨n, Nat.lt_succ_self n, z⟩, fun x H' y => ?_⟩
          obtain ⟨e3, r3, s3⟩ := j.2 x H' y
          cases ht : tgM T w (wipeF φ vs) with
          | none => simp only [ht] at q; exact q.elim
          | some φ1 =>
            simp only [ht] at q
            refine tg_of ((F1.wipes vs).mono ((e2.trans e).trans e3)) r3 ht fun σ1 F3 hset => ⟨?_, ?_⟩
            · rw [hset vs hT, wipe_wipe fun i hi => hi]
            · refine intoN F3 s3 (OutR.step q e3) fun b S4 v4 ρ4 H4 e4 r4 s4 F4 q4 => ?_
              obtain rfl : v4 = b := r4
              cases v4 with
              | false =>
                rw [if_neg (by decide)] at q4 ⊢
                exact ⟨ρ4, S4, (e.trans e3).trans e4, s4, q4⟩
              | true =>
                rw [if_pos rfl] at q4 ⊢
                refine intoN F4 s4 q4 fun m1 S5 J1 ρ5 H5 e5 r5 s5 F5 q5 => ?_
                have e05 := ((e.trans e3).trans e4).trans e5
                refine ⟨fun j n1 H => ∃ ρ S, Ext ρ5 H5 ρ H ∧ SW X.K ρ H S ∧ OutR X.K (RW X.K) ρ H Q (fun cls d H' => Wx cls d σ H') (bindN (dcIn m1 T1 c1 fk fv (wipeF φ1 vs1) S1.length n1 j S) fun _ S3 => dcM2 m T c vs1 it1 T1 c1 fk fv (wipeF φ vs) S1.length n (i + 1) S3), ⟨bigT, ρ5, S5, Ext.refl _ _, s5, q5⟩, ?_⟩
                rintro j1 n1 H6 ⟨ρ6, S6, e6, s6, q6⟩
                cases n1 with
                | zero => exact q6.elim
                | succ n1 =>
                  simp only [dcIn] at q6
                  have j2 := r5 j1 ρ6 H6 S6 e6 s6
                  cases hm1 : m1 j1 S6 with
                  | none => simp only [hm1] at q6; exact q6.elim
                  | some o1 =>
                    cases o1 with
                    | none =>
                      simp only [hm1] at q6 j2
                      exact .inl ⟨j2, ρ6, S6, e05.trans e6, s6, q6⟩
                    | some w1 =>
                      simp only [hm1] at q6 j2
                      refine .inr ⟨j2.1, fun H => ∃ ρ S, Ext ρ5 H5 ρ H ∧ SW X.K ρ H S ∧ OutR X.K (RW X.K) ρ H Q (fun cls d H' => Wx cls d σ H') (bindN (dcIn m1 T1 c1 fk fv (wipeF φ1 vs1) S1.length n1 (j1 + 1) S) fun _ S3 => dcM2 m T c vs1 it1 T1 c1 fk fv (wipeF φ vs) S1.length n (i + 1) S3), fun H' z => ⟨n1, Nat.lt_succ_self n1, z⟩, fun x7 H7 y7 => ?_⟩
                      obtain ⟨e7, r7, s7⟩ := j2.2 x7 H7 y7
                      cases ht1 : tgM T1 w1 (wipeF φ1 vs1) with
                      | none => simp only [ht1] at q6; exact q6.elim
                      | some φ2 =>
                        simp only [ht1, bindN_assoc, bindN_ite] at q6
                        refine tg_of ((F5.wipes vs1).mono (e6.trans e7)) r7 ht1 fun σ2 F8 hset1 => ⟨?_, ?_⟩
                        · rw [hset1 vs1 hT1, wipe_wipe fun i hi => hi]
                        · refine intoN F8 s7 (OutR.step q6 e7) fun b S9 v9 ρ9 H9 e9 r9 s9 F9 q9 => ?_
                          obtain rfl : v9 = b := r9
                          cases v9 with
                          | false =>
                            rw [if_neg (by decide)] at q9 ⊢
                            exact ⟨ρ9, S9, (e6.trans e7).trans e9, s9, q9⟩
                          | true =>
                            rw [if_pos rfl] at q9 ⊢
                            refine intoN F9 s9 q9 fun y5 S10 v5 ρ10 H10 e10 r10 s10 F10 q10 => ?_
                            refine intoN F10 s10 q10 fun y6 S11 v6 ρ11 H11 e11 r11 s11 F11 q11 => ?_
                            have e12 := (((e6.trans e7).trans e9).trans e10).trans e11
                            have hD5 : ρ11[S1.length]? = some Da := (e05.trans e12).pre _ _ (push_at s1 Da)
                            cases ha : putO S1.length y5 y6 S11 with
                            | none => simp only [ha] at q11; exact q11.elim
                            | some S12 =>
                              simp only [ha] at q11
                              obtain ⟨kvs, kk, g1, g2, g3, g4, g5⟩ := putO_of s11 hD5 (r10.mono e11) r11 ha
                              exact ⟨kvs, kk, g1, g2, g3, ρ11, S12, e12.trans g4, g5, OutR.step q11 g4⟩
theorem se_dc2 (cn : Cn X Wx k) (hi : SI X Wx tg iter it) (ok : blkC X.N X.env.scope scope own = true) (vs1 : List Nat)
    (hg : BlkA X scope fun Y => Cn Y W0 k → SG Y tg T) (ht : BlkA X scope fun Y => Cn Y W0 k → STs Y W0 ifs c) (hi1 : BlkA X scope fun Y => Cn Y W0 k → SI Y W0 tg1 iter1 it1)
    (hg1 : BlkA X scope fun Y => Cn Y W0 k → SG Y tg1 T1) (ht1 : BlkA X scope fun Y => Cn Y W0 k → STs Y W0 ifs1 c1) (hk : BlkA X scope fun Y => Cn Y W0 k → SE Y W0 kx fk) (he : BlkA X scope fun Y => Cn Y W0 k → SE Y W0 vx fv)
    (hv : ∀ i ∈ vs1, i ∈ own.map (·.2) := by decide) (hT : ∀ i ∈ T.slots, i ∈ own.map (·.2) := by decide) (hT1 : ∀ i ∈ T1.slots, i ∈ vs1 := by decide)
    (hs : ∀ x, foldedSetIterable iter X.env x = pure x := by intro _; rfl) (hs1 : ∀ env x, foldedSetIterable iter1 env x = pure x := by intro _ _; rfl) :
    SE X Wx (.DictComp kx vx [⟨tg, iter, ifs, 0⟩, ⟨tg1, iter1, ifs1, 0⟩] scope pos) (mDComp2 (own.map (·.2)) vs1 it T c it1 T1 c1 fk fv) :=
  weakE (pe_dc2 cn.calm cn.nd hi (blkOk_by ok) hv (fun s H C cl fp => hg s H C cl fp (cn.blk ..)) (fun s H C cl fp => ht s H C cl fp (cn.blk ..)) (fun s H C cl fp => hk s H C cl fp (cn.blk ..)) (fun s H C cl fp => he s H C cl fp (cn.blk ..)) hs
    (fun s H C cl fp => hi1 s H C cl fp (cn.blk ..)) (fun s H C cl fp => hg1 s H C cl fp (cn.blk ..)) (fun s H C cl fp => ht1 s H C cl fp (cn.blk ..)) hs1) (dcomp2_of hT hT1)
end
end Wm

set_option Elab.async false
set_option linter.all false
set_option maxRecDepth 100000
set_option maxHeartbeats 3200000
namespace Wm
open PySem PySem.Spec PyProof.Rows L2

/-! ### more operators -/
section
variable {X : Cx} {Wx : WX} {k : Nat}
theorem ow_iaddI : OpW X (inplaceOp .Add) oAddI := ow_int0 iop_add fun _ _ _ _ => .int _
theorem ow_idivI : OpW X (inplaceOp .FloorDiv) oDivI := ow_int iop_fdivW (fun i j h => by
  unfold cDiv at h
  rw [Bool.and_eq_true] at h
  exact wide_div (of_decide_eq_true h.1) (smallN_of h.2) (by decide) (by decide)) fun _ _ _ _ => .int _
/-- xs += ys -/
def oExt : BOp
  | .ref n, .ref m, S => match S[n]?, S[m]? with
    | some (.lst l), some (.lst r) => if l.length + r.length ≤ bigL then some (.ref n, S.set n (.lst (l ++ r))) else none
    | _, _ => none
  | _, _, _ => none
theorem ow_ext : OpW X (inplaceOp .Add) oExt := opw iop_ext fun ρ H S x y w1 w2 Q s r1 r2 q => by
  unfold oExt at q
  split at q
  · rename_i n m
    split at q
    · rename_i l r g1 g2
      split at q
      · rename_i hl
        obtain ⟨a, rfl, ha⟩ := r1.isRef
        obtain ⟨b, rfl, hb⟩ := r2.isRef
        obtain ⟨xs, e1, q1⟩ := s.ob n a _ ha g1
        obtain ⟨ys, e2, q2⟩ := s.ob m b _ hb g2
        have E := Ext.upd (u := .lst (xs ++ ys)) s ha g1
        exact ⟨a, b, xs, ys, rfl, rfl, e1, e2, by rw [q1.length, q2.length]; exact bigL_line hl, q _ ρ _ E (.ref ha) (s.set ha g1 ⟨_, upd_same, (q1.mono E).append (q2.mono E)⟩)⟩
      · exact q.elim
    · exact q.elim
  · exact q.elim
def oAugAdd : BOp := orOp oAddI oExt
theorem ow_iadd : OpW X (inplaceOp .Add) oAugAdd := opw_or ow_iaddI ow_ext
/-! x in a list, a tuple of numbers -/
def oInI : BOp
  | .int i, w, S => match asQ S w with
    | some (_, l) => match intsOf l with
      | some ns => some (.bl (decide (i ∈ ns)), S)
      | none => none
    | none => none
  | _, _, _ => none
def oNotInI : BOp
  | .int i, w, S => match asQ S w with
    | some (_, l) => match intsOf l with
      | some ns => some (.bl (!decide (i ∈ ns)), S)
      | none => none
    | none => none
  | _, _, _ => none
theorem inV_ints (i : Int) (ns : List Int) : inV (.int i) (ns.map V.int) = decide (i ∈ ns) := by
  unfold inV
  induction ns with
  | nil => simp
  | cons a r ih =>
    rw [List.map_cons, List.any_cons, ih]
    have : eqV (.int a) (.int i) = decide (a = i) := by
      show (a == i) = _
      by_cases h : a = i
      · simp [h]
      · simp [h]
    rw [this]
    by_cases h : a = i
    · subst h; simp
    · have h2 : ¬ i = a := fun z => h z.symm
      simp [h, h2]
theorem flat_ints (ns : List Int) : (ns.map V.int).all flatV = true := by
  induction ns with
  | nil => rfl
  | cons a r ih => rw [List.map_cons, List.all_cons, ih]; rfl
theorem ow_inI : OpW X (compareOp .In) oInI := opw op_in_seq fun ρ H S x y w1 w2 Q s r1 r2 q => by
  unfold oInI at q
  split at q
  · split at q
    · rename_i b l h
      split at q
      · rename_i ns hn
        cases r1
        obtain ⟨a, vs, rfl, hq, rs⟩ := asQ_of s r2 h
        have e := rs.ints hn
        subst e
        refine ⟨a, _, rfl, ?_, rfl, flat_ints ns, ?_⟩
        · cases b with
          | true => rw [if_pos rfl] at hq; exact .inr hq
          | false => rw [if_neg (by decide)] at hq; exact .inl hq
        · rw [if_neg (by decide), inV_ints]
          exact q _ ρ H (Ext.refl _ _) (.bl _) s
      · exact q.elim
    · exact q.elim
  · exact q.elim
theorem ow_notInI : OpW X (compareOp .NotIn) oNotInI := opw op_notIn_seq fun ρ H S x y w1 w2 Q s r1 r2 q => by
  unfold oNotInI at q
  split at q
  · split at q
    · rename_i b l h
      split at q
      · rename_i ns hn
        cases r1
        obtain ⟨a, vs, rfl, hq, rs⟩ := asQ_of s r2 h
        have e := rs.ints hn
        subst e
        refine ⟨a, _, rfl, ?_, rfl, flat_ints ns, ?_⟩
        · cases b with
          | true => rw [if_pos rfl] at hq; exact .inr hq
          | false => rw [if_neg (by decide)] at hq; exact .inl hq
        · rw [if_pos rfl, inV_ints]
          exact q _ ρ H (Ext.refl _ _) (.bl _) s
      · exact q.elim
    · exact q.elim
  · exact q.elim
def oIn : BOp := orOp oInD oInI
def oNotIn : BOp := orOp oNotInD oNotInI
theorem ow_in (c : Cn X Wx k) : OpW X (compareOp .In) oIn := opw_or (ow_inD c.hu) ow_inI
theorem ow_notIn (c : Cn X Wx k) : OpW X (compareOp .NotIn) oNotIn := opw_or (ow_notInD c.hu) ow_notInI
/-! list(range(..)) -/
def rgW (a b : Int) : List W := (List.range (b - a).toNat).map fun i => .int (a + (i : Nat))
theorem rg_rws {K : PySem.W.Frag} {ρ : List Addr} {H : Hp} (a b : Int) : RWs K ρ H (rgV a b) (rgW a b) := by
  unfold rgV rgW
  generalize (b - a).toNat = n
  have : ∀ l : List Nat, RWs K ρ H (l.map fun i => V.int (a + (i : Nat))) (l.map fun i => W.int (a + (i : Nat))) := fun l => by
    induction l with
    | nil => exact .nil
    | cons x l ih => exact .cons (.int _) ih
  exact this _
def mListR2 (fa fb : FE W) : FE W := fun φ S => (fa φ S).bind fun a S1 => (fb φ S1).bind fun b S2 => match a, b with
  | .int i, .int j => if 0 ≤ i ∧ i ≤ 100000 ∧ 0 ≤ j ∧ j ≤ 100000 then ofO (lstO (rgW i j) S2) else .bad
  | _, _ => .bad
theorem se_listR2 {a b : Expr} {p p2 pos pos2 : Pos} {fa fb : FE W} (c : Cn X Wx k) (ha : SE X Wx a fa) (hb : SE X Wx b fb) (hl : X.mg "list" = none) (hr : X.mg "range" = none) (hg : Gl X "list" := by rfl) (hg2 : Gl X "range" := by rfl)
    (na : starEach [a, b] X.env = (false, eval a X.env) :: starEach [b] X.env := by rfl) (nb : starEach [b] X.env = (false, eval b X.env) :: starEach [] X.env := by rfl) (hp : (backTo pos2 (starEach [b] X.env)).any (·.1) = false := by rfl)
    (nc : starEach [.Call (.Name "range" p2) [a, b] [] pos2] X.env = (false, eval (.Call (.Name "range" p2) [a, b] [] pos2) X.env) :: starEach [] X.env := by rfl) :
    SE X Wx (.Call (.Name "list" p) [.Call (.Name "range" p2) [a, b] [] pos2] [] pos) (mListR2 fa fb) := weakE (pe_listRg c.calm hg hl (prg_2 hg2 hr ha hb na nb hp) nc) fun σ H Q ⟨ρ, φ, S, F, s, q⟩ =>
  into F s q fun w1 S1 v1 ρ1 H1 e1 r1 s1 F1 q1 => into F1 s1 q1 fun w2 S2 v2 ρ2 H2 e2 r2 s2 F2 q2 => by
    split at q2
    · rename_i i j
      split at q2
      · rename_i h
        cases r1
        cases r2
        exact ⟨i, j, rfl, rfl, ⟨by omega, by omega, by omega, by omega, by omega⟩, (lst_new s2 (rg_rws i j) (PosR.of q2)).2⟩
      · exact q2.elim
    · exact q2.elim
end
end Wm

set_option Elab.async false
set_option linter.all false
set_option maxRecDepth 100000
set_option maxHeartbeats 3200000
namespace Wm
open PySem PySem.Spec PyProof.Rows L2

/-! ### sum(lists, []) -/
section
variable {prog : Program} {w : World} {A : Around} {s : Shared}
theorem cat_raw {E : Value → Shared → Prop} {l b : Addr} {vs ws : List Value} {Q : Value → Shared → Prop} (hl : s.heap.IsList l vs.toArray) (hb : s.heap.IsList b ws.toArray) (hsz : vs.length + ws.length ≤ sizeLine)
    (h : Q (.ref s.heap.objs.size) { s with heap := s.heap.push { cls := .type "list", data := .seq (vs ++ ws).toArray } }) :
    wpAny (model prog w) A (binaryOp .Add (.ref l) (.ref b)) Q E s := by
  obtain ⟨⟨cls, dd, data, sl⟩, ho, hc, n, hd⟩ := id hl
  obtain ⟨⟨cls2, dd2, data2, sl2⟩, ho2, hc2, n2, hd2⟩ := id hb
  simp only at hc hd hc2 hd2
  subst hc hd hc2 hd2
  have e : vs.toArray ++ ws.toArray = (vs ++ ws).toArray := by simp
  refine concat_meets ⟨_, ho, rfl⟩ ⟨_, ho2, rfl⟩ noFill_list_add seq_list_add PySem.F.slot_list_add PySem.F.entry_list_add (PySem.F.args_list_add_2 _ _) (list_addW l b vs.toArray ws.toArray n n2 dd dd2 sl sl2 (by simpa using hsz)) ⟨ho, ho2, ?_⟩
  rw [e]
  exact h
theorem code_sumL {R : Result → Shared → Prop} {I ax : Addr} (hh : A.handled = none) (hne : ax ≠ I) (items : List Value) (a : Nat → Addr) (vals : Nat → List Value) (hi : ∀ i, i < items.length → items[i]? = some (.ref (a i))) (S : Addr) (hS1 : S ≠ I) (hS2 : S ≠ ax) :
    ∀ (k i : Nat) (s : Shared) (T : Addr) (tot : List Value), items.length - i = k → i ≤ items.length → s.heap.IsListIter I ax i → s.heap.IsList ax items.toArray → s.heap.get? S = some { cls := .type "list", dict := none, data := .seq #[.ref T] } → s.heap.IsList T tot.toArray → T ≠ I → T ≠ S →
      (∀ j, i ≤ j → j < items.length → s.heap.IsList (a j) (vals j).toArray ∧ a j ≠ I ∧ a j ≠ S) → tot.length + (((List.range k).map fun j => (vals (i + j)).length).sum) ≤ sizeLine →
      (∀ h' tk T', (∀ b o, b ≠ I → b ≠ S → s.heap.get? b = some o → h'.get? b = some o) → h'.IsList T' (tot ++ (List.range k).flatMap fun j => vals (i + j)).toArray → ((k = 0 ∧ T' = T) ∨ (S < T' ∧ h'.get? T' = some { cls := .type "list", data := .seq (tot ++ (List.range k).flatMap fun j => vals (i + j)).toArray })) → R (.ok (.ret (.ref T'))) { s with heap := h', toks := tk }) →
      codeAny (model prog w) A (.builtin "sum.loop" ⟨[.ref I, .ref S, rawInt 2, rawInt 0], []⟩) R s := by
  have W := Walks.list (prog := prog) (w := w) (A := A.in1) hh I ax hne items.toArray
  intro k
  induction k with
  | zero =>
    intro i s T tot hk hi' hst hax hS hT hTI hTS hv hsz hR
    have hin : i = items.length := by omega
    subst hin
    refine codeAny_builtin F.entry_sum_loop ?_
    rw [Around.under_plainId F.plain_sum_loop _]
    show wpAny _ A.in1 (seqItems? (.ref S) >>= _) _ _ s
    refine wpAny_bind (wpAny_seqItems hS rfl ?_)
    show wpAny _ A.in1 (tryCatch (pyNext (.ref I)) _ >>= _) _ _ s
    refine wpAny_bind (wpAny_tryCatch (W.done s _ _ ⟨by simpa using hst, hax⟩ fun h' tk hk' => ?_))
    refine wpAny_pure (hR h' tk T (fun b o hbw _ e => hk' b o (by simpa using hbw) e) ?_ (.inl ⟨rfl, rfl⟩))
    rw [List.range_zero, List.flatMap_nil, List.append_nil]
    exact hT.at fun o e => hk' T o (by simpa using hTI) e
  | succ k ih =>
    intro i s T tot hk hi' hst hax hS hT hTI hTS hv hsz hR
    have hlt : i < items.length := by omega
    refine codeAny_builtin F.entry_sum_loop ?_
    rw [Around.under_plainId F.plain_sum_loop _]
    show wpAny _ A.in1 (seqItems? (.ref S) >>= _) _ _ s
    refine wpAny_bind (wpAny_seqItems hS rfl ?_)
    show wpAny _ A.in1 (tryCatch (pyNext (.ref I)) _ >>= _) _ _ s
    refine wpAny_bind (wpAny_tryCatch (W.item i s _ _ (by simpa using hlt) ⟨hst, hax⟩ fun v h' tk hP hst' hk' => ?_))
    obtain rfl : v = .ref (a i) := by
      have h1 := hi i hlt
      have h2 : items[i]? = some v := by simpa using hP
      rw [h1] at h2
      exact (Option.some.inj h2).symm
    have hS' := hk' S _ (by simpa using hS1) hS
    have hT' : h'.IsList T tot.toArray := hT.at fun o e => hk' T o (by simpa using hTI) e
    obtain ⟨v1, v2, v3⟩ := hv i (Nat.le_refl _) hlt
    have hV' : h'.IsList (a i) (vals i).toArray := v1.at fun o e => hk' (a i) o (by simpa using v2) e
    rw [List.range_succ_eq_map, List.map_cons, List.map_map, List.sum_cons, Nat.add_zero] at hsz
    show wpAny _ A.in1 ((holding [Value.ref (a i)] (binaryOp .Add (.ref T) (.ref (a i)))).attempt >>= _) _ _ _
    refine wpAny_bind (wpAny_attempt (wpAny_holding (cat_raw hT' hV' (by omega) ?_)))
    show wpAny _ A.in1 (updateSeq S (fun _ => #[.ref h'.objs.size]) >>= _) _ _ _
    have hG2 := Heap.get?_push_of_some { cls := .type "list", data := .seq (tot ++ vals i).toArray } hS'
    refine wpAny_bind ?_
    refine wpAny_updateSeq hG2 rfl ?_
    have hS3 := Heap.get?_update_self (Obj.mapSeq fun _ => #[Value.ref h'.objs.size]) hG2 rfl
    refine wpAny_bind (wpAny_letGo ?_)
    refine wpAny_bind ?_
    have keep : ∀ b o, b ≠ S → h'.get? b = some o → (((h'.push { cls := .type "list", data := .seq (tot ++ vals i).toArray }).update S (Obj.mapSeq fun _ => #[Value.ref h'.objs.size])).update S (Obj.mapSeq fun _ => #[Value.ref h'.objs.size])).get? b = some o := fun b o hb e =>
      (Heap.get?_update_other _ _ (Ne.symm hb)).trans ((Heap.get?_update_other _ _ (Ne.symm hb)).trans (Heap.get?_push_of_some _ e))
    have hSl : S < h'.objs.size := Heap.lt_size hS'
    have newT : (((h'.push { cls := .type "list", data := .seq (tot ++ vals i).toArray }).update S (Obj.mapSeq fun _ => #[Value.ref h'.objs.size])).update S (Obj.mapSeq fun _ => #[Value.ref h'.objs.size])).get? h'.objs.size = some { cls := .type "list", data := .seq (tot ++ vals i).toArray } :=
      (Heap.get?_update_other _ _ (Nat.ne_of_lt hSl)).trans ((Heap.get?_update_other _ _ (Nat.ne_of_lt hSl)).trans (Heap.get?_push_size _ rfl))
    have hIl : I < h'.objs.size := by
      obtain ⟨_, e, _⟩ := hst'.1
      exact Heap.lt_size e
    refine wpAny_updateSeq hS3 rfl (wpAny_pure ⟨plainId_quiet F.plain_sum_loop _, ih (i + 1) _ h'.objs.size (tot ++ vals i) (by omega) hlt (hst'.1.at fun o e => keep I o (Ne.symm hS1) e) (hst'.2.at fun o e => keep ax o (Ne.symm hS2) e) (Heap.get?_update_self _ hS3 rfl) ⟨_, newT, rfl, _, rfl⟩ (Ne.symm (Nat.ne_of_lt hIl)) (Ne.symm (Nat.ne_of_lt hSl)) (fun j hj hjl => ?_) ?_ fun h'' tk'' T'' hk'' hT'' hsT => ?_⟩)
    · obtain ⟨w1, w2, w3⟩ := hv j (by omega) hjl
      exact ⟨w1.at fun o e => keep (a j) o w3 (hk' (a j) o (by simpa using w2) e), w2, w3⟩
    · rw [List.length_append]
      have : (List.range k).map (fun j => (vals (i + 1 + j)).length) = (List.range k).map ((fun j => (vals (i + j)).length) ∘ Nat.succ) := List.map_congr_left fun j _ => by
        show _ = (vals (i + (j + 1))).length
        rw [Nat.add_assoc, Nat.add_comm 1 j]
      rw [this]
      omega
    · have fl : tot ++ (List.range (k + 1)).flatMap (fun j => vals (i + j)) = (tot ++ vals i) ++ (List.range k).flatMap fun j => vals (i + 1 + j) := by
        have : (fun j => vals (i + 1 + j)) = fun j => vals (i + Nat.succ j) := funext fun j => by
          show _ = vals (i + (j + 1))
          rw [Nat.add_assoc, Nat.add_comm 1 j]
        rw [this, List.range_succ_eq_map, List.flatMap_cons, List.flatMap_map, Nat.add_zero, List.append_assoc]
      refine hR h'' tk'' T'' (fun b o hbI hbS e => hk'' b o hbI hbS (keep b o hbS (hk' b o (by simpa using hbI) e))) ?_ (.inr ?_)
      · rw [fl]
        exact hT''
      · rw [fl]
        rcases hsT with ⟨hk0, e⟩ | e
        · subst hk0
          rw [e]
          refine ⟨hSl, ?_⟩
          rw [List.range_zero, List.flatMap_nil, List.append_nil]
          exact hk'' h'.objs.size _ (Ne.symm (Nat.ne_of_lt hIl)) (Ne.symm (Nat.ne_of_lt hSl)) newT
        · exact e
theorem args_sum2 (a b : Value) : argsOk "sum" ⟨[a, b], []⟩ := by unfold argsOk; kernel_rfl
theorem sub_l1 : isSubtype (.type "list") (.type "str") = pure false := by rw [isSubtype_type]; kernel_rfl
theorem sub_l2 : isSubtype (.type "list") (.type "bytes") = pure false := by rw [isSubtype_type]; kernel_rfl
theorem sub_l3 : isSubtype (.type "list") (.type "bytearray") = pure false := by rw [isSubtype_type]; kernel_rfl
theorem call_sumL {E : Value → Shared → Prop} {Q : Value → Shared → Prop} (hh : A.handled = none) {l st : Addr} {items tot : List Value} (a : Nat → Addr) (vals : Nat → List Value) (hl : s.heap.IsList l items.toArray) (hst : s.heap.IsList st tot.toArray)
    (hi : ∀ i, i < items.length → items[i]? = some (.ref (a i))) (hv : ∀ j, j < items.length → s.heap.IsList (a j) (vals j).toArray) (hsz : tot.length + (((List.range items.length).map fun j => (vals j).length).sum) ≤ sizeLine) (hpos : 0 < items.length)
    (h : ∀ h' tk T', (∀ b o, s.heap.get? b = some o → h'.get? b = some o) → h'.get? T' = some { cls := .type "list", data := .seq (tot ++ (List.range items.length).flatMap vals).toArray } → s.heap.objs.size ≤ T' → Q (.ref T') { s with heap := h', toks := tk }) :
    wpAny (model prog w) A (call (.builtin "sum") [.ref l, .ref st]) Q E s := by
  have hlt : l < s.heap.objs.size := by obtain ⟨_, e, _⟩ := hl; exact Heap.lt_size e
  refine call_function_tree F.kind_sum F.plain_sum F.entry_sum (args_sum2 _ _) ?_
  unfold Builtin.«sum»
  simp only [List.length_cons, List.length_nil]
  rw [if_neg (by decide)]
  refine wpAny_bind (wpAny_of_eq (show Builtin.Builtins.bindParams "sum" ["start"] 0 ⟨[.ref st], []⟩ = pure [some (.ref st)] from rfl) ?_)
  refine wpAny_bind (wpAny_pyIter_list hl ?_)
  refine wpAny_bind (wpAny_pure ?_)
  simp only [List.forIn_cons, List.forIn_nil]
  have hst1 := hst.push { cls := .type "list_iterator", data := .fields #[.ref l, .int 0 0] }
  refine wpAny_bind (wpAny_bind (wpAny_bind (wpAny_isInstance (T := "list") (b := false) hst1.typeIs sub_l1 ?_)))
  simp only [Bool.false_eq_true, if_false]
  refine wpAny_pure (wpAny_bind (wpAny_bind (wpAny_isInstance (T := "list") (b := false) hst1.typeIs sub_l2 ?_)))
  simp only [Bool.false_eq_true, if_false]
  refine wpAny_pure (wpAny_bind (wpAny_bind (wpAny_isInstance (T := "list") (b := false) hst1.typeIs sub_l3 ?_)))
  simp only [Bool.false_eq_true, if_false]
  refine wpAny_pure (wpAny_pure ?_)
  refine wpAny_bind (wpAny_newObj_type ?_)
  have n1 : ∀ b o, s.heap.get? b = some o → ((s.heap.push { cls := .type "list_iterator", data := .fields #[.ref l, .int 0 0] }).push { cls := .type "list", data := .seq #[.ref st] }).get? b = some o := fun b o e => Heap.get?_push_of_some _ (Heap.get?_push_of_some _ e)
  have sz : (s.heap.push { cls := .type "list_iterator", data := .fields #[.ref l, .int 0 0] }).objs.size = s.heap.objs.size + 1 := Heap.size_push _ _
  have lt : ∀ {x : Addr} {xs : Array Value}, s.heap.IsList x xs → x < s.heap.objs.size := fun z => by obtain ⟨_, e, _⟩ := z; exact Heap.lt_size e
  have hlt2 := lt hst
  refine wpAny_pure ⟨plainId_quiet F.plain_sum_loop _, code_sumL (I := s.heap.objs.size) (ax := l) hh (Nat.ne_of_lt hlt) items a vals hi _ (by rw [sz]; exact Nat.succ_ne_self _) (by rw [sz]; exact Nat.ne_of_gt (Nat.lt_succ_of_lt hlt)) items.length 0 _ st tot (by omega) (Nat.zero_le _) ⟨_, Heap.get?_push_of_some _ (Heap.get?_push_size _ rfl), rfl, rfl⟩ ((hl.push _).push _) (Heap.get?_push_size _ rfl) ((hst.push _).push _) (Nat.ne_of_lt hlt2) (by rw [sz]; exact Nat.ne_of_lt (Nat.lt_succ_of_lt hlt2)) (fun j _ hj => ?_) ?_ fun h' tk T' hk hT hsT => ?_⟩
  · have hj' := lt (hv j hj)
    exact ⟨((hv j hj).push _).push _, Nat.ne_of_lt hj', by rw [sz]; exact Nat.ne_of_lt (Nat.lt_succ_of_lt hj')⟩
  · simpa using hsz
  · rcases hsT with ⟨z, _⟩ | z
    · omega
    · obtain ⟨z, z2⟩ := z
      rw [sz] at z
      exact h h' tk T' (fun b o e => hk b o (Nat.ne_of_lt (Heap.lt_size e)) (by rw [sz]; exact Nat.ne_of_lt (Nat.lt_succ_of_lt (Heap.lt_size e))) (n1 b o e)) (by simpa using z2) (Nat.le_of_lt (Nat.lt_of_succ_lt z))
end
end Wm

set_option Elab.async false
set_option linter.all false
set_option maxRecDepth 100000
set_option maxHeartbeats 3200000
namespace Wm
open PySem PySem.Spec PyProof.Rows L2

def rSumL (K : PySem.W.Frag) : List V → Hp → VK → Prop := fun vs H Q => ∃ (l st : Addr) (as : List Addr) (ys : Nat → List V) (tot : List V), vs = [.ref l, .ref st] ∧ SqL K H l (as.map V.ref) ∧ SqL K H st tot ∧ 0 < as.length ∧
  (∀ j a, as[j]? = some a → SqL K H a (ys j)) ∧ tot.length + ((List.range as.length).map fun j => (ys j).length).sum ≤ sizeLine ∧ ∀ p, H p = none → Q (.ref p) (upd H p (.lst (tot ++ (List.range as.length).flatMap ys)))
theorem vals_at {vs : List V} {us : List Value} (r : Vals vs us) : ∀ {i : Nat} {v : V}, vs[i]? = some v → ∃ u, us[i]? = some u ∧ RelV v u := by
  induction r with
  | nil => intro i v e; simp at e
  | cons h t ih =>
    intro i v e
    cases i with
    | zero => simp at e; subst e; exact ⟨_, rfl, h⟩
    | succ i => exact ih (by simpa using e)
theorem Vals.flat {ys : Nat → List V} {us : Nat → List Value} : ∀ l : List Nat, (∀ j ∈ l, Vals (ys j) (us j)) → Vals (l.flatMap ys) (l.flatMap us)
  | [], _ => .nil
  | j :: l, h => by
    rw [List.flatMap_cons, List.flatMap_cons]
    exact (h j (by simp)).append (Vals.flat l fun k hk => h k (by simp [hk]))
theorem cr_sumL {X : Cx} (hc : X.calm = true) : CallR X (.builtin "sum") (rSumL X.K) := by
  intro pins s σ H vs us Q I r h
  obtain ⟨l, st, as, ys, tot, rfl, hs, hst, hpos, hv, hsz, q⟩ := h
  obtain ⟨its, rv, hl, _⟩ := I.list hs
  obtain ⟨itt, rt, hlt, _⟩ := I.list hst
  cases r with
  | cons r1 r2 =>
  cases r2 with
  | cons r2 r3 =>
  cases r3
  cases r1
  cases r2
  have elen : its.length = as.length := by
    have := rv.length
    rw [List.length_map] at this
    exact this.symm
  have ex : ∀ j, ∃ u : List Value, j < as.length → ∃ a, as[j]? = some a ∧ Vals (ys j) u ∧ s.heap.IsList a u.toArray := fun j => by
    by_cases hj : j < as.length
    · have e := List.getElem?_eq_getElem hj
      obtain ⟨u, ru, hu, _⟩ := I.list (hv j _ e)
      exact ⟨u, fun _ => ⟨_, e, ru, hu.isList⟩⟩
    · exact ⟨[], fun z => absurd z hj⟩
  let vals : Nat → List Value := fun j => Classical.choose (ex j)
  have hvals : ∀ j, j < as.length → ∃ a, as[j]? = some a ∧ Vals (ys j) (vals j) ∧ s.heap.IsList a (vals j).toArray := fun j => Classical.choose_spec (ex j)
  have vl : ∀ j, j < as.length → (vals j).length = (ys j).length := fun j hj => by
    obtain ⟨a, _, h, _⟩ := hvals j hj
    exact h.length.symm
  have fl : Vals ((List.range as.length).flatMap ys) ((List.range as.length).flatMap vals) := Vals.flat _ fun j hj => by
    obtain ⟨a, _, h, _⟩ := hvals j (List.mem_range.mp hj)
    exact h
  have suml : ((List.range as.length).map fun j => (vals j).length).sum = ((List.range as.length).map fun j => (ys j).length).sum := by
    congr 1
    exact List.map_congr_left fun j hj => vl j (List.mem_range.mp hj)
  have tl := rt.length
  have lenF : (tot ++ (List.range as.length).flatMap ys).length ≤ sizeLine := by
    rw [List.length_append, List.length_flatMap]
    exact hsz
  refine call_sumL (I.ok.hd hc) (fun j => (as[j]?).getD 0) vals hl.isList hlt.isList (fun i hi => ?_) (fun j hj => ?_) ?_ (by rw [elen]; exact hpos) fun h' tk T' hk hT hge => ?_
  · rw [elen] at hi
    have e := List.getElem?_eq_getElem hi
    obtain ⟨u, e2, r2⟩ := vals_at rv (i := i) (v := .ref as[i]) (by rw [List.getElem?_map, e]; rfl)
    cases r2
    rw [e2, e]
    rfl
  · rw [elen] at hj
    obtain ⟨a, e, _, h⟩ := hvals j hj
    rw [e]
    exact h
  · rw [elen, suml, ← tl]
    exact hsz
  · rw [elen] at hT
    exact ⟨.ref T', _, I.laid (o := .lst (tot ++ (List.range as.length).flatMap ys)) hk hge ⟨lenF, _, 0, rt.append fl, hT⟩, rfl, q T' (I.hok.fresh hge)⟩

/-! sum of lists, by values -/
def oSumL : COp
  | [x, y], S => match asL S x, asL S y with
    | some l, some t => match mapO (asL S) l with
      | some ls => if l.isEmpty = true then none else lstO (t ++ ls.flatten) S
      | none => none
    | _, _ => none
  | _, _ => none
section
variable {K : PySem.W.Frag} {ρ : List Addr} {H : Hp} {S : Sto}
theorem mapO_asL (s : SW K ρ H S) : ∀ {l : List W} {ls : List (List W)} {xs : List V}, RWs K ρ H xs l → mapO (asL S) l = some ls →
    ∃ (as : List Addr) (yss : List (List V)), xs = as.map V.ref ∧ as.length = yss.length ∧ as.length = l.length ∧ (∀ j a, as[j]? = some a → SqL K H a (yss.getD j [])) ∧ RWs K ρ H yss.flatten ls.flatten
  | [], ls, xs, r, h => by
    cases r
    cases h
    exact ⟨[], [], rfl, rfl, rfl, fun j a e => by simp at e, .nil⟩
  | w :: l, ls, xs, r, h => by
    cases r with
    | cons r1 r2 =>
    unfold mapO at h
    cases e : asL S w with
    | none => rw [e] at h; cases h
    | some ws =>
      rw [e] at h
      cases e2 : mapO (asL S) l with
      | none => rw [e2] at h; cases h
      | some ls2 =>
        rw [e2] at h
        cases h
        obtain ⟨a, vs, rfl, hq, rs⟩ := asL_of s r1 e
        obtain ⟨as, yss, rfl, h1, h2, h3, h4⟩ := mapO_asL s r2 e2
        refine ⟨a :: as, vs :: yss, rfl, by simp [h1], by simp [h2], fun j b hb => ?_, ?_⟩
        · cases j with
          | zero => simp at hb; subst hb; exact hq
          | succ j => exact h3 j b (by simpa using hb)
        · rw [List.flatten_cons, List.flatten_cons]
          exact rs.append h4
end
theorem range_getD (yss : List (List V)) : (List.range yss.length).flatMap (fun j => yss.getD j []) = yss.flatten := by
  induction yss with
  | nil => rfl
  | cons y yss ih =>
    rw [List.length_cons, List.range_succ_eq_map, List.flatMap_cons, List.flatMap_map, List.flatten_cons]
    rw [← ih]
    rfl
theorem cw_sumL {X : Cx} (hc : X.calm = true) : CallW X (.builtin "sum") oSumL := cw (cr_sumL hc) fun ρ H S vs ws Q s r q => by
  unfold oSumL at q
  split at q
  · rename_i x y
    split at q
    · rename_i l t h1 h2
      split at q
      · rename_i ls h3
        split at q
        · exact q.elim
        · rename_i hne
          obtain ⟨v, v', rfl, r1, r2⟩ := r.of2
          obtain ⟨a, xs, rfl, hq, rs⟩ := asL_of s r1 h1
          obtain ⟨b, zs, rfl, hq2, rs2⟩ := asL_of s r2 h2
          obtain ⟨as, yss, rfl, g1, g2, g3, g4⟩ := mapO_asL s rs h3
          obtain ⟨z, k⟩ := lst_new s (rs2.append g4) q
          refine ⟨a, b, as, fun j => yss.getD j [], zs, rfl, hq, hq2, ?_, g3, ?_, ?_⟩
          · rw [g2]
            cases l with
            | nil => simp at hne
            | cons w l => simp
          · rw [List.length_append] at z
            rw [g1, ← List.length_flatMap, range_getD]
            exact z
          · rw [g1, range_getD]
            exact k
      · exact q.elim
    · exact q.elim
  · exact q.elim
def oSum2 : COp := orC oSum oSumL
theorem cw_sum2 {X : Cx} (hc : X.calm = true) : CallW X (.builtin "sum") oSum2 := cw_or (cw_sum hc) (cw_sumL hc)
end Wm

set_option Elab.async false
set_option linter.all false
set_option maxRecDepth 100000
set_option maxHeartbeats 3200000
namespace Wm
open PySem PySem.Spec PyProof.Rows L2 HotX

/-! ### iterators that end while an exception is handled -/
section
variable {prog : Program} {w : World} {A : Around} {E : Value → Shared → Prop} {s : Shared} {x1 : Addr}
theorem HotAt.keeps {h h' : Heap} (hot : HotAt A x1 h) (k : ∀ o, h.get? x1 = some o → h'.get? x1 = some o) : HotAt A x1 h' := by
  obtain ⟨a, o, vs, b, c⟩ := hot
  exact ⟨a, o, vs, k o b, c⟩
theorem HotAt.in1 {h : Heap} (hot : HotAt A x1 h) : HotAt A.in1 x1 h := hot
/-- StopIteration is made and raised -/
theorem hot_stop {α : Type} {Q : α → Shared → Prop} (hot : HotAt A x1 s.heap)
    (hE : ∀ h' e, (∀ b o, s.heap.get? b = some o → h'.get? b = some o) → (∃ o, h'.get? e = some o ∧ o.cls = .type "StopIteration") → E (.ref e) { s with heap := h' }) :
    wpAny (model prog w) A (newExc (.type "StopIteration") [] >>= fun e => (raiseNew e : Sem α)) Q E s := by
  obtain ⟨hh, o1, vs1, h1, d1, c1⟩ := hot
  refine wpAny_bind ?_
  simp only [newExc, newTuple]
  refine wpAny_bind (wpAny_newObj_type ?_ (by size_fits))
  refine wpAny_bind (m := firstArgMember _ _) (wpAny_of_eq (a := Value.none) (by first | rfl | (simp only [firstArgMember]; rfl)) ?_)
  refine wpAny_newObj_type ?_ (by size_fits)
  have up : ∀ {o2 o3 : Obj} (b : Addr) (o : Obj), s.heap.get? b = some o → ((s.heap.push o2).push o3).get? b = some o := fun b o e => Heap.get?_push_of_some _ (Heap.get?_push_of_some _ e)
  refine raiseNew_hot ⟨hh, o1, vs1, up _ _ h1, d1, c1⟩ (Nat.ne_of_lt (Heap.lt_size (Heap.get?_push_of_some _ h1))) (Heap.get?_push_size _ rfl) rfl (by first | (simp; done) | (simp; omega) | (simp only [Array.size_append]; simp; omega)) ?_
  refine hE _ _ (fun b o e => ?_) ⟨_, Heap.get?_update_self _ (Heap.get?_push_size _ rfl) rfl, rfl⟩
  rw [Heap.get?_update_other _ _ (Nat.ne_of_gt (Heap.lt_size (Heap.get?_push_of_some _ e)))]
  exact up b o e
theorem nextOf_list_hot {it l : Addr} {i : Nat} {items : Array Value} {Q : Value → Shared → Prop} (hot : HotAt A x1 s.heap) (hne : x1 ≠ it) (hit : s.heap.IsListIter it l i) (hl : s.heap.IsList l items) (hx : items[i]? = none)
    (hE : ∀ h' e, Heap.ExtBut it s.heap h' → (∃ o, h'.get? e = some o ∧ o.cls = .type "StopIteration") → E (.ref e) { s with heap := h' }) : wpAny (model prog w) A (Builtin.SmallTypes.nextOf (.ref it)) Q E s := by
  obtain ⟨ol, hol, _, nl, hdl⟩ := hl
  obtain ⟨o, ho, hc, hd⟩ := id hit
  unfold Builtin.SmallTypes.nextOf
  refine wpAny_bind (wpAny_callSpecial?_slot (name := Str.ofString "__next__") hit.typeIs slot_listiter_next (wpAny_call_entry slot_listiter_next hit.typeIs entry_listiter_next ?_ (args_listiter_next _)))
  show wpAny _ _ (field (.ref it) 0 >>= _) _ _ s
  refine wpAny_bind (wpAny_field ho hd (x := .ref l) rfl ?_)
  show wpAny _ _ (if (Value.ref l == Value.none) = true then _ else _) _ _ s
  rw [if_neg (fun z : (Value.ref l == Value.none) = true => Bool.false_ne_true z)]
  show wpAny _ _ (field (.ref it) 1 >>= _) _ _ s
  refine wpAny_bind (wpAny_field ho hd (x := .int i 0) rfl ?_)
  show wpAny _ _ (seqItems? (.ref l) >>= _) _ _ s
  refine wpAny_bind (wpAny_seqItems hol hdl ?_)
  simp only [Int.toNat_natCast, hx]
  refine wpAny_bind (wpAny_rule (wpAny_bind (wpAny_setField ho hd (by simp) ?_)))
  refine hot_stop (A := A.in1) (HotAt.keeps hot fun o e => (Heap.SameBut.update ..).extBut _ _ hne e) fun h' e k hs => hE h' e (fun b o hb e => k b o ((Heap.SameBut.update ..).extBut _ _ hb e)) hs
theorem next_tuple_hot {it t : Addr} {i : Nat} {items : Array Value} {Q : Option Value → Shared → Prop} (hot : HotAt A x1 s.heap) (hne : x1 ≠ it) (hit : s.heap.IsTupleIter it t i) (ht : s.heap.IsTuple t items) (hx : items[i]? = none)
    (hQ : ∀ h', Heap.ExtBut it s.heap h' → Q none { s with heap := h' }) : wpAny (model prog w) A (pyNext (.ref it)) Q E s := by
  obtain ⟨ol, hol, _, nl, hdl⟩ := ht
  obtain ⟨o, ho, hc, hd⟩ := id hit
  unfold pyNext
  refine wpAny_bind (wpAny_attempt (wpAny_callSpecial?_slot (name := Str.ofString "__next__") hit.typeIs F.slot_tuple_iterator_next (wpAny_call_entry F.slot_tuple_iterator_next hit.typeIs F.entry_tuple_iterator_next ?_ (F.args_tuple_iterator_next_1 _))))
  show wpAny _ _ (field (.ref it) 0 >>= _) _ _ s
  refine wpAny_bind (wpAny_field ho hd (x := .ref t) rfl ?_)
  show wpAny _ _ (if (Value.ref t == Value.none) = true then _ else _) _ _ s
  rw [if_neg (fun z : (Value.ref t == Value.none) = true => Bool.false_ne_true z)]
  show wpAny _ _ (field (.ref it) 1 >>= _) _ _ s
  refine wpAny_bind (wpAny_field ho hd (x := .int i 0) rfl ?_)
  show wpAny _ _ (seqItems? (.ref t) >>= _) _ _ s
  refine wpAny_bind (wpAny_seqItems hol hdl ?_)
  simp only [Int.toNat_natCast, hx]
  refine wpAny_bind (wpAny_rule (wpAny_bind (wpAny_setField ho hd (by simp) ?_)))
  refine hot_stop (A := A.in1) (HotAt.keeps hot fun o e => (Heap.SameBut.update ..).extBut _ _ hne e) fun h' e k ⟨os, h1, h2⟩ => ?_
  refine wpAny_bind (wpAny_isInstance (T := "StopIteration") (b := true) ⟨os, h1, h2⟩ isSubtype_stop ?_)
  exact wpAny_pure (hQ h' fun b o hb e => k b o ((Heap.SameBut.update ..).extBut _ _ hb e))
theorem unpack_tuple_hot {t : Addr} {items : Array Value} {targets : List (Bool × (Value → Sem Unit))} {Q : Unit → Shared → Prop} (hot : HotAt A x1 s.heap) (ht : s.heap.IsTuple t items) (hn : targets.length = items.size) (hstar : targets.findIdx? (·.1) = none)
    (h : ∀ h', Heap.ExtBut s.heap.objs.size s.heap h' → wpAny (model prog w) A (assignInOrder (targets.map (·.2)) items.toList) Q E { s with heap := h' }) : wpAny (model prog w) A (unpack (.ref t) targets) Q E s := by
  have hx1 : x1 ≠ s.heap.objs.size := by obtain ⟨_, o, _, e, _⟩ := hot; exact Nat.ne_of_lt (Heap.lt_size e)
  have hlt : t ≠ s.heap.objs.size := by obtain ⟨o, ho, _⟩ := ht; exact Nat.ne_of_lt (Heap.lt_size ho)
  unfold unpack
  rw [hn, hstar]
  refine wpAny_bind (wpAny_holding ?_)
  unfold unpackItems
  refine wpAny_bind ?_
  unfold notIterableAtAll
  refine wpAny_bind (wpAny_specialOf ht.typeIs F.slot_tuple_iter.lookup (wpAny_pure ?_))
  simp only [Bool.false_eq_true, if_false]
  refine wpAny_bind (wpAny_holding (wpAny_pyIter_tuple ht ?_))
  refine wpAny_bind (wpAny_holding (wpAny_draw_tuple hlt items.size 0 _ _ ⟨_, Heap.get?_push_size _ rfl, rfl, rfl⟩ (ht.push _) (by omega) fun h₁ hit₁ hs₁ => ?_))
  have hall : List.take items.size (List.drop 0 items.toList) = items.toList := by rw [List.drop_zero]; exact List.take_of_length_le (by simp)
  rw [hall, if_neg (by simp)]
  have ht₁ : h₁.IsTuple t items := (ht.push _).extBut hs₁.extBut hlt
  have hot₁ : HotAt A x1 h₁ := HotAt.keeps hot fun o e => hs₁.extBut _ _ hx1 (Heap.get?_push_of_some _ e)
  refine wpAny_bind (wpAny_holding (next_tuple_hot hot₁ hx1 hit₁ ht₁ (by simp) fun h₂ he₂ => ?_))
  simp only [Option.isSome_none, Bool.false_eq_true, if_false]
  exact wpAny_pure (h h₂ fun b o hb e => he₂ b o hb (hs₁.extBut b o hb (Heap.get?_push_of_some _ e)))
theorem assign_tuple_hot {env : Env} {elts : List Expr} {k : Nat} {pos : Pos} {t : Addr} {items : Array Value} {Q : Unit → Shared → Prop} (hot : HotAt A x1 s.heap) (ht : s.heap.IsTuple t items) (hn : (assignEach elts env).length = items.size) (hstar : (assignEach elts env).findIdx? (·.1) = none)
    (h : ∀ h', Heap.ExtBut s.heap.objs.size s.heap h' → wpAny (model prog w) A (assignInOrder ((assignEach elts env).map (·.2)) items.toList) Q E { s with heap := h' }) : wpAny (model prog w) A (assign (.Tuple elts k pos) env (.ref t)) Q E s := by
  rw [arm_assign_Tuple]
  exact wpAny_bind (wpAny_standAt (unpack_tuple_hot hot ht hn hstar h))
theorem draws_hot (hA : ∃ x, A.handled = some x) (it l : Addr) (hne : l ≠ it) (hx : x1 ≠ it) (items : Array Value) :
    Draws prog w A it [it, l, x1] items.size (fun i v => items[i]? = some v) (fun i h => (h.IsListIter it l i ∧ h.IsList l items) ∧ HotAt A x1 h) where
  live := fun _ _ st => by obtain ⟨⟨⟨o, ho, _⟩, _⟩, _⟩ := st; exact ⟨o, ho⟩
  frame := fun _ _ _ st hk => ⟨⟨st.1.1.at fun o e => hk it (by simp) o e, st.1.2.at fun o e => hk l (by simp) o e⟩, HotAt.keeps st.2 fun o e => hk x1 (by simp) o e⟩
  item := fun i s Q E hi st hQ => by
    refine wpAny_nextOf_list_item st.1.1 st.1.2 (x := items[i]) (by simp [hi]) fun h' hit' hs' => ?_
    exact hQ _ h' s.toks (by simp [hi]) ⟨⟨hit', st.1.2.extBut hs'.extBut hne⟩, HotAt.keeps st.2 fun o e => hs'.extBut _ _ hx e⟩ hs'
  done := fun s Q E st hE => nextOf_list_hot st.2 hx st.1.1 st.1.2 (by simp) hE
end
end Wm

set_option Elab.async false
set_option linter.all false
set_option maxRecDepth 100000
set_option maxHeartbeats 3200000
namespace Wm
open PySem PySem.Spec PyProof.Rows L2 HotX

/-! ### [name for name, good in zip(names, kinds) if good], while an exception is handled -/
theorem far5 {b N C D : Nat} (hb : b < N ∨ b = C) (hC : N + 5 ≤ C) (hD : N + 5 ≤ D) (h : D ≠ C) : ¬ (b = D ∨ b = N + 4 ∨ b = N + 3 ∨ b = N ∨ b = N + 1) := by omega
theorem apart5 {b N C : Nat} (hb : b < N + 5) (hC : N + 5 ≤ C) : b ≠ C := by omega
theorem below5 {b N l1 l2 x : Nat} (h1 : l1 < N) (h2 : l2 < N) (hx : x < N) (hb : b = N + 4 ∨ b = N + 2 ∨ b = N + 3 ∨ b = N ∨ b = l1 ∨ b = x ∨ b = N + 1 ∨ b = l2 ∨ b = x) : b < N + 5 := by omega
def pick {α : Type} (xs : List α) (bs : List Bool) : List α := ((xs.zip bs).filter (·.2)).map (·.1)
theorem pick_succ {α : Type} {xs : List α} {bs : List Bool} {i : Nat} {x : α} {b : Bool} (hx : xs[i]? = some x) (hb : bs[i]? = some b) : (((xs.zip bs).take (i + 1)).filter (·.2)).map (·.1) = (((xs.zip bs).take i).filter (·.2)).map (·.1) ++ if b = true then [x] else [] := by
  have e : (xs.zip bs)[i]? = some (x, b) := by rw [List.getElem?_zip_eq_some]; exact ⟨hx, hb⟩
  rw [List.take_succ, e, List.filter_append, List.map_append]
  cases b <;> rfl
section
variable {prog : Program} {w : World} {A : Around} {E : Value → Shared → Prop} {env : Env} {s : Shared}
theorem pick_zip {scope : Scope} {cl : List (Str × Addr)} {x1 l1 l2 : Addr} {xs : List Value} {bs : List Bool} {n g : Str} {pa pb pt pe pg : Pos} {k : Nat} {Q : Value → Shared → Prop} (hot : HotAt A x1 s.heap)
    (hkind : scope.kind = .function) (ha : scope.names.lookup n = some .local) (hb : scope.names.lookup g = some .local) (hng : (g == n) = false) (hdn : (n == ("__debug__" : Str)) = false) (hdg : (g == ("__debug__" : Str)) = false)
    (hl1 : s.heap.IsList l1 xs.toArray) (hl2 : s.heap.IsList l2 (bs.map Value.bool).toArray) (hlen : xs.length = bs.length) (hsz : xs.length ≤ sizeLine)
    (h : ∀ D h' tk, s.heap.objs.size ≤ D → h'.PlainList D (pick xs bs).toArray → (∀ b o, s.heap.get? b = some o → h'.get? b = some o) → Q (.ref D) { s with heap := h', toks := tk }) :
    wpAny (model prog w) A (call (.type "zip") [.ref l1, .ref l2]) (fun xv s₁ => wpAny (model prog w) A (pyIter xv) (LcGoes prog w A E env scope cl (.Tuple [.Name n pa, .Name g pb] k pt) [.Name g pg] (.Name n pe) none Q) E s₁) E s := by
  have hlt1 : l1 < s.heap.objs.size := by obtain ⟨o, ho, _⟩ := hl1; exact Heap.lt_size ho
  have hlt2 : l2 < s.heap.objs.size := by obtain ⟨o, ho, _⟩ := hl2; exact Heap.lt_size ho
  have hltx : x1 < s.heap.objs.size := by obtain ⟨_, o, _, ho, _⟩ := hot; exact Heap.lt_size ho
  have hA : ∃ x, A.handled = some x := ⟨_, hot.1⟩
  refine zip_begins2 (begins_list l1 xs.toArray) (begins_list l2 (bs.map Value.bool).toArray) hl1 hl2 fun h₁ hZ hTI hTO hi1 hi2 hz5 hk₁ => ?_
  refine wpAny_pyIter_zip hZ ?_
  refine ⟨_, _, _, _, _, _, rfl, Goes.zip2 (zip_sep2 (N := s.heap.objs.size) (fp1 := [l1, x1]) (fp2 := [l2, x1]) (fun b hb => ?_) (fun b hb => ?_))
      (draws_hot (A := A.in1) hA s.heap.objs.size l1 (Nat.ne_of_lt hlt1) (Nat.ne_of_lt hltx) xs.toArray) (draws_hot (A := A.in1) hA (s.heap.objs.size + 1) l2 (Nat.ne_of_lt (Nat.lt_succ_of_lt hlt2)) (Nat.ne_of_lt (Nat.lt_succ_of_lt hltx)) (bs.map Value.bool).toArray), Nat.le_trans (Nat.min_le_left ..) (by simpa using hsz),
    ⟨hZ, hTI, ⟨_, _, hTO⟩, ⟨⟨⟨_, hi1, rfl, rfl⟩, hl1.at fun o e => hk₁ _ o e⟩, HotAt.keeps hot fun o e => hk₁ _ o e⟩, ⟨⟨⟨_, hi2, rfl, rfl⟩, hl2.at fun o e => hk₁ _ o e⟩, HotAt.keeps hot fun o e => hk₁ _ o e⟩⟩, ?_, fun D C s₃ hB => ?_⟩
  · rcases List.mem_cons.mp hb with e | hb
    · rw [e]; exact hlt1
    · rw [List.mem_singleton.mp hb]; exact hltx
  · rcases List.mem_cons.mp hb with e | hb
    · rw [e]; exact hlt2
    · rw [List.mem_singleton.mp hb]; exact hltx
  · intro b hb
    show b < h₁.objs.size
    rw [hz5]
    exact below5 hlt1 hlt2 hltx (by simpa using hb)
  · obtain ⟨⟨h₃, tk₃, rfl⟩, old, nD, nC, hDC, hnm⟩ := hB
    have nC' : (s.heap.objs.size + 5 : Nat) ≤ C := by rw [← hz5]; exact nC
    have nD' : (s.heap.objs.size + 5 : Nat) ≤ D := by rw [← hz5]; exact nD
    have hDC' : (D : Nat) ≠ C := hDC
    have kinds : ∀ y, scope.names.lookup y = some .local → (compEnvC scope cl C env).kindOf y = some .local := fun y hy => lookup_relabel_local hy
    have hp : ((compEnvC scope cl C env).scope.kind == .class || ((compEnvC scope cl C env).scope.kind == .module && (compEnvC scope cl C env).locals != (compEnvC scope cl C env).globals)) = false := by
      show (scope.kind == .class || (scope.kind == .module && _)) = false
      rw [hkind]; rfl
    refine ⟨fun i vs s₁ => ∃ h' tk m, s₁ = { s with heap := h', toks := tk } ∧ h'.Ns C m ∧ vs = (((xs.zip bs).take i).filter (·.2)).map (·.1) ∧ ∀ b o, s.heap.get? b = some o → h'.get? b = some o, ⟨h₃, tk₃, _, rfl, hnm, by simp, fun b o e => old b o (hk₁ b o e)⟩, ?_, ?_, ?_⟩
    · rintro i vs s₁ h' tk ⟨h₄, tk₄, m, rfl, n₄, e₄, k₄⟩ hk' _
      have off : ∀ b : Addr, (b < s.heap.objs.size ∨ b = C) → b ∉ D :: [s.heap.objs.size + 4, s.heap.objs.size + 3, s.heap.objs.size, s.heap.objs.size + 1] := fun b hb hm => far5 hb nC' nD' hDC' (by simpa using hm)
      exact ⟨h', tk, m, rfl, n₄.at' fun o e => hk' _ o (off _ (.inr rfl)) e, e₄, fun b o e => hk' b o (off _ (.inl (Heap.lt_size e))) (k₄ b o e)⟩
    · rintro i v vs s₁ hi ⟨T, x, y, rfl, hx, hy, hT⟩ st ⟨h₄, tk₄, m, rfl, n₄, e₄, k₄⟩ hpl
      have hxi : xs[i]? = some x := by simpa using hx
      obtain ⟨bi, hbi, rfl⟩ : ∃ bi, bs[i]? = some bi ∧ y = .bool bi := by
        have : (bs.map Value.bool)[i]? = some y := by simpa using hy
        rw [List.getElem?_map] at this
        obtain ⟨bi, q1, q2⟩ := Option.map_eq_some_iff.mp this
        exact ⟨bi, q1, q2.symm⟩
      obtain ⟨oT, hoT, _⟩ := id hT
      have hCs : C < h₄.objs.size := by obtain ⟨o, _, _, ho, _⟩ := n₄; exact Heap.lt_size ho
      obtain ⟨z1, z2, ⟨a1, a2, z3⟩, ⟨⟨z4, z5⟩, z45⟩, ⟨⟨z6, z7⟩, z67⟩⟩ := st
      refine assign_tuple_hot z45 hT rfl rfl fun h₅ hs₅ => ?_
      have up₅ : ∀ b o, h₄.get? b = some o → h₅.get? b = some o := fun b o e => hs₅ b o (Nat.ne_of_lt (Heap.lt_size e)) e
      show wpAny _ _ (assignInOrder [assign (.Name n pa) _, assign (.Name g pb) _] [x, .bool bi]) _ _ _
      refine wpAny_assignInOrder_more (wpAny_assign_Name (wpAny_storeName_local (kinds _ ha) (n₄.at' fun o e => up₅ _ o e) (fun h₆ n₆ s₆ => ?_) hp))
      refine wpAny_assignInOrder_more (wpAny_assign_Name (wpAny_storeName_local (kinds _ hb) n₆ (fun h₇ n₇ s₇ => wpAny_assignInOrder_none ?_) hp))
      have up₇ : ∀ b o, b ≠ C → h₄.get? b = some o → h₇.get? b = some o := fun b o hb e => s₇.extBut _ _ hb (s₆.extBut _ _ hb (up₅ b o e))
      have offC : ∀ b : Addr, b < s.heap.objs.size + 5 → b ≠ C := fun b hb => apart5 hb nC'
      have st7 : ∀ tk : Nat, (IsZip h₇ (s.heap.objs.size + 4) (s.heap.objs.size + 2) (s.heap.objs.size + 3) .none ∧ IsTupOf2 h₇ (s.heap.objs.size + 2) (.ref s.heap.objs.size) (.ref (s.heap.objs.size + 1)) ∧ (∃ a1 a2, IsTupOf2 h₇ (s.heap.objs.size + 3) a1 a2) ∧ ((h₇.IsListIter s.heap.objs.size l1 (i + 1) ∧ h₇.IsList l1 xs.toArray) ∧ HotAt A.in1 x1 h₇) ∧ ((h₇.IsListIter (s.heap.objs.size + 1) l2 (i + 1) ∧ h₇.IsList l2 (bs.map Value.bool).toArray) ∧ HotAt A.in1 x1 h₇)) := fun _ =>
        ⟨up₇ _ _ (offC _ (Nat.add_lt_add_left (by decide) _)) z1, up₇ _ _ (offC _ (Nat.add_lt_add_left (by decide) _)) z2, ⟨a1, a2, up₇ _ _ (offC _ (Nat.add_lt_add_left (by decide) _)) z3⟩, ⟨⟨z4.at fun o e => up₇ _ o (offC _ (Nat.lt_add_of_pos_right (by decide))) e, z5.at fun o e => up₇ _ o (offC _ (Nat.lt_add_right 5 hlt1)) e⟩, HotAt.keeps z45 fun o e => up₇ _ o (offC _ (Nat.lt_add_right 5 hltx)) e⟩,
          ⟨⟨z6.at fun o e => up₇ _ o (offC _ (Nat.add_lt_add_left (by decide) _)) e, z7.at fun o e => up₇ _ o (offC _ (Nat.lt_add_right 5 hlt2)) e⟩, HotAt.keeps z67 fun o e => up₇ _ o (offC _ (Nat.lt_add_right 5 hltx)) e⟩⟩
      have look_n : (fun y => if y = g then some (Value.bool bi) else (if y = n then some x else m y)) n = some x := by
        have : ¬ n = g := fun z => by rw [z] at hng; simp at hng
        simp [this]
      refine wpAny_tests_one ?_
      show wpAny _ _ (do let v ← eval (.Name g pg) _; standAt pg; holding [v] (truthy v)) _ _ _
      rw [eval_Name _ _ _ hdg]
      refine wpAny_bind (wpAny_bind (wpAny_standAt (wpAny_loadName_local hkind (kinds _ hb) n₇ (v := .bool bi) (by simp) ?_)))
      refine wpAny_bind (wpAny_standAt (wpAny_holding (wpAny_truthy_bool ?_)))
      cases bi with
      | false =>
        simp only [Bool.false_eq_true, if_false]
        refine ⟨⟨h₇, _, _, rfl, n₇, ?_, fun b o e => up₇ b o (offC b (Nat.lt_add_right 5 (Heap.lt_size e))) (k₄ b o e)⟩, st7 0, hpl.at fun o e => up₇ _ o hDC e⟩
        rw [pick_succ hxi hbi, e₄]
        simp
      | true =>
        simp only [if_true]
        rw [eval_Name _ _ _ hdn]
        refine wpAny_bind (wpAny_standAt (wpAny_loadName_local hkind (kinds _ ha) n₇ (v := x) ?_ ?_))
        · have : ¬ n = g := fun z => by rw [z] at hng; simp at hng
          simp [this]
        · refine ⟨⟨h₇, _, _, rfl, n₇, ?_, fun b o e => up₇ b o (offC b (Nat.lt_add_right 5 (Heap.lt_size e))) (k₄ b o e)⟩, st7 0, hpl.at fun o e => up₇ _ o hDC e⟩
          rw [pick_succ hxi hbi, e₄]
          simp
    · rintro vs s₁ ⟨h₄, tk₄, m, rfl, n₄, e₄, k₄⟩ hpl
      have nD'' : s.heap.objs.size ≤ D := Nat.le_trans (Nat.le_add_right _ 5) nD'
      have ez : (xs.zip bs).take (min xs.toArray.size (bs.map Value.bool).toArray.size) = xs.zip bs := List.take_of_length_le (by simp)
      rw [ez] at e₄
      refine ⟨m, n₄, fun h' hs' => h D h' tk₄ nD'' ?_ fun b o e => hs'.extBut b o (apart5 (Nat.lt_add_right 5 (Heap.lt_size e)) nC') (k₄ b o e)⟩
      rw [e₄] at hpl
      exact hpl.extBut hs'.extBut hDC
end
end Wm

set_option Elab.async false
set_option linter.all false
set_option maxRecDepth 100000
set_option maxHeartbeats 3200000
namespace Wm
open PySem PySem.Spec PyProof.Rows L2 HotX

theorem pick_cons {α : Type} (x : α) (xs : List α) (b : Bool) (bs : List Bool) : pick (x :: xs) (b :: bs) = if b = true then x :: pick xs bs else pick xs bs := by
  unfold pick
  rw [List.zip_cons_cons, List.filter_cons]
  cases b <;> simp
theorem pick_nil {α : Type} (bs : List Bool) : pick ([] : List α) bs = [] := by unfold pick; simp
theorem pick_nil2 {α : Type} (xs : List α) : pick xs [] = [] := by unfold pick; simp
theorem pick_len {α : Type} : ∀ (xs : List α) (bs : List Bool), (pick xs bs).length ≤ xs.length
  | [], bs => by rw [pick_nil]; exact Nat.le_refl _
  | x :: xs, [] => by rw [pick_nil2]; exact Nat.zero_le _
  | x :: xs, b :: bs => by
    rw [pick_cons]
    have := pick_len xs bs
    split
    · rw [List.length_cons, List.length_cons]; omega
    · rw [List.length_cons]; omega
theorem Vals.pick : ∀ {vs : List V} {us : List Value} (bs : List Bool), Vals vs us → Vals (Wm.pick vs bs) (Wm.pick us bs)
  | _, _, bs, .nil => by rw [pick_nil, pick_nil]; exact .nil
  | _, _, [], .cons r t => by rw [pick_nil2, pick_nil2]; exact .nil
  | _, _, b :: bs, .cons r t => by
    rw [pick_cons, pick_cons]
    split
    · exact .cons r (Vals.pick bs t)
    · exact Vals.pick bs t
theorem RWs.pick {K : PySem.W.Frag} {ρ : List Addr} {H : Hp} : ∀ {vs : List V} {ws : List W} (bs : List Bool), RWs K ρ H vs ws → RWs K ρ H (Wm.pick vs bs) (Wm.pick ws bs)
  | _, _, bs, .nil => by rw [pick_nil, pick_nil]; exact .nil
  | _, _, [], .cons r t => by rw [pick_nil2, pick_nil2]; exact .nil
  | _, _, b :: bs, .cons r t => by
    rw [pick_cons, pick_cons]
    split
    · exact .cons r (RWs.pick bs t)
    · exact RWs.pick bs t
theorem vals_bools : ∀ {bs : List Bool} {us : List Value}, Vals (bs.map V.bl) us → us = bs.map Value.bool
  | [], _, .nil => rfl
  | b :: bs, _, .cons r t => by
    rw [List.map_cons, vals_bools t]
    cases r
    rfl
/-- the context bears an exception that is handled, its context None -/
def HotP (X : Cx) (p : Addr × Obj) : Prop := L2H.Hot1 X.A p ∧ p ∈ X.pn
theorem HotP.at {X : Cx} {p : Addr × Obj} {pins : List (Addr × Obj)} {σ : L2.St} {H : Hp} {s : Shared} (h : HotP X p) (I : Inv X pins σ H s) : HotAt X.A p.1 s.heap := by
  obtain ⟨⟨hh, v1, e1, c1⟩, hp⟩ := h
  exact ⟨hh, p.2, v1, (I.pin p (List.mem_append_left _ hp)).1, e1, c1⟩
def mPick (fr : FE (List W)) : FE W := fun φ S => (fr φ S).bind fun ws S1 => match ws with
  | [x, y] => match asL S1 x, asL S1 y with
    | some l, some m => match blsOf m with
      | some bs => if l.length = bs.length then ofO (lstO (pick l bs) S1) else .bad
      | none => .bad
    | _, _ => .bad
  | _ => .bad
section
variable {X : Cx} {Wx : WX} {p : Addr × Obj}
theorem se_pick {e1 e2 : Expr} {fr : FE (List W)} {scope : Scope} {n g : Str} {pa pb pt pe pg pz p1 pos : Pos} {k : Nat} (hot : HotP X p) (hg : Gl X "zip") (hm : X.mg "zip" = none) (ha : SA X Wx [e1, e2] fr)
    (hkind : scope.kind = .function) (hn : scope.names.lookup n = some .local) (hb : scope.names.lookup g = some .local) (hng : (g == n) = false) (hdn : (n == ("__debug__" : Str)) = false) (hdg : (g == ("__debug__" : Str)) = false)
    (hcell : ∀ y ∈ scope.names, y.2 ≠ .cell) (hfree : ∀ y ∈ scope.names, y.2 ≠ .free) (hnames : ∀ y ∈ scope.names, y.2 = .local → scope.names.lookup y.1 = some .local)
    (hs : starEach [e1, e2] X.env = (false, eval e1 X.env) :: starEach [e2] X.env := by rfl) (hpl : (backTo p1 (starEach [e2] X.env)).any (·.1) = false := by rfl) (hf : ∀ x, foldedSetIterable (.Call (.Name "zip" pz) [e1, e2] [] p1) X.env x = pure x := by intro _; rfl) :
    SE X Wx (.ListComp (.Name n pe) [⟨.Tuple [.Name n pa, .Name g pb] k pt, .Call (.Name "zip" pz) [e1, e2] [] p1, [.Name g pg], 0⟩] scope pos) (mPick fr) := by
  refine ⟨fun pins s σ H Q I ⟨ρ, φ, S, F, ss, q⟩ => ?_⟩
  refine ListComp_goes (closure_ok (fun y hy e => absurd e (hfree y hy))) hcell hkind hnames ?_ hf
  have hq : tI X.K (RWs X.K) Wx fr σ H fun vs H1 => ∃ ρ1 S1 ws, SW X.K ρ1 H1 S1 ∧ RWs X.K ρ1 H1 vs ws ∧ OutR X.K (RW X.K) ρ1 H1 Q (fun cls d H' => Wx cls d σ H') (match ws with
      | [x, y] => match asL S1 x, asL S1 y with
        | some l, some m => match blsOf m with
          | some bs => if l.length = bs.length then ofO (lstO (Wm.pick l bs) S1) else .bad
          | none => .bad
        | _, _ => .bad
      | _ => .bad) := into F ss q fun ws S1 vs ρ1 H1 e1 r1 s1 F1 q1 => ⟨ρ1, S1, ws, s1, r1, q1⟩
  refine Call_ (ld_blt I hg hm PyProof.Rows.boot_zip (PyProof.Rows.callWith_type1 (thn (ha.run p1 pins s σ H _ I hq) fun us s1 ⟨vs, H1, I1, r1, q1⟩ => ?_) hs hpl))
  obtain ⟨ρ1, S1, ws, sw, rws, q2⟩ := q1
  split at q2
  · rename_i x y
    split at q2
    · rename_i l m h1 h2
      split at q2
      · rename_i bs h3
        split at q2
        · rename_i hlen
          obtain ⟨v, v', rfl, ra, rb⟩ := rws.of2
          obtain ⟨a, xs, rfl, hqa, rxs⟩ := asL_of sw ra h1
          obtain ⟨b, ys, rfl, hqb, rys⟩ := asL_of sw rb h2
          have eys := rys.bls h3
          subst eys
          cases r1 with
          | cons r r1 =>
          cases r1 with
          | cons r' r1 =>
          cases r1
          cases r
          cases r'
          obtain ⟨its, rv, p1, hz⟩ := I1.list hqa
          obtain ⟨its2, rv2, p2, _⟩ := I1.list hqb
          have e2 := vals_bools rv2
          subst e2
          have l1 := rv.length
          have l2 := rxs.length
          refine pick_zip (hot.at I1) hkind hn hb hng hdn hdg p1.isList p2.isList (by omega) (by omega) fun D h' tk hge hpl hk => ?_
          obtain ⟨no, hD⟩ := hpl
          obtain ⟨z, kq⟩ := lst_new sw (rxs.pick bs) (PosR.of q2)
          exact ⟨.ref D, _, I1.laid (o := .lst (Wm.pick xs bs)) hk hge ⟨z, _, no, Wm.Vals.pick bs rv, hD⟩, rfl, kq D (I1.hok.fresh hge)⟩
        · exact q2.elim
      · exact q2.elim
    · exact q2.elim
  · exact q2.elim
end
end Wm

set_option Elab.async false
set_option linter.all false
set_option maxRecDepth 100000
set_option maxHeartbeats 3200000
namespace Wm
open PySem PySem.Spec PyProof.Rows L2 HotX

/-! ### of what class a refusal is -/
/-- the error classes: JoinError, NoStand, NoCount, NoHerds, NoFirst, NoWish, NotSmall, Full, TooMany -/
structure XCn (K : PySem.W.Frag) (mg : Str → Option Value) (E : Nat → Addr) : Prop where
  n0 : mg "JoinError" = some (.ref (E 0))
  n1 : mg "NoStand" = some (.ref (E 1))
  n2 : mg "NoCount" = some (.ref (E 2))
  n3 : mg "NoHerds" = some (.ref (E 3))
  n4 : mg "NoFirst" = some (.ref (E 4))
  n5 : mg "NoWish" = some (.ref (E 5))
  n6 : mg "NotSmall" = some (.ref (E 6))
  n7 : mg "Full" = some (.ref (E 7))
  n8 : mg "TooMany" = some (.ref (E 8))
  nv : mg "ValueError" = none
  ni : mg "isinstance" = none
  nz : mg "zip" = none
  ex : ∀ i, 1 ≤ i → i ≤ 7 → ExcC K (E i)
  kit : ∀ i j, 1 ≤ i → i ≤ 7 → 1 ≤ j → j ≤ 8 → PySem.W.kitOne K (.ref (E i)) (.ref (E j)) = some (decide (i = j))
  kitV : ∀ i, 1 ≤ i → i ≤ 7 → PySem.W.kitOne K (.ref (E i)) (.type "ValueError") = some true
  exm8 : ∀ i, 1 ≤ i → i ≤ 7 → PySem.W.exmOne K (.ref (E i)) (.ref (E 8)) = some false
  exm0 : ∀ i, 1 ≤ i → i ≤ 7 → PySem.W.exmOne K (.ref (E i)) (.ref (E 0)) = some true
section
variable {X : Cx} {Wx : WX} {a D : Addr} {oe : Obj}
theorem call_isP (C : ExcC X.K D) (hz : Zc (.ref D) none oe) (hf : ∃ vs, oe.data = .fields vs) (hp : (a, oe) ∈ X.pn) : CallR X (.builtin "isinstance") (rIsE X.K D a) := by
  intro pins s σ H xs us Q I r h
  obtain ⟨c, cv, b, rfl, hcv, e, q⟩ := h
  cases r with
  | cons rx rr =>
  cases rr with
  | cons rt rr =>
  cases rr
  cases rx
  obtain rfl := hcv _ rt
  have hget := (I.pin (a, oe) (List.mem_append_left _ hp)).1
  obtain ⟨vs, hv⟩ := hf
  have J : PySem.W.InstAt s.heap a oe D none := by
    obtain ⟨oc, od, oda, osl⟩ := oe
    obtain ⟨h1, h2⟩ := hz
    dsimp only at h1 h2 hv
    subst h1 h2 hv
    exact ⟨hget, rfl, rfl, trivial⟩
  exact PySem.W.kia_one (PySem.W.handS_kitx_exc C.hg C.hk C.hs C.hd C.ha C.hn C.ht C.hm) I.kIn J e (fun z => nomatch z) fun tk => ⟨.bl b, H, I.kept (t' := tk) fun _ _ z => z, rfl, q⟩
def mIsE (i : Nat) (a : Addr) (b : Bool) : FE W := fun φ S => match φ[i]? with
  | some (some (.fn a')) => if a' = a then .ok (.bl b) S else .bad
  | _ => .bad
theorem se_isE {y x : Str} {cv : Value} {c : V} {b : Bool} {i : Nat} {q q1 q2 pos : Pos} (C : ExcC X.K D) (hz : Zc (.ref D) none oe) (hf : ∃ vs, oe.data = .fields vs) (hp : (a, oe) ∈ X.pn) (hc : PE X (.Name x q2) (tC c)) (hcv : ∀ u, RelV c u → u = cv) (hk : PySem.W.kitOne X.K (.ref D) cv = some b)
    (hi : X.mg "isinstance" = none) (hv : bootBuiltins "isinstance" = some (.builtin "isinstance")) (hg : Gl X "isinstance" := by rfl) (hN : X.N[i]? = some y := by rfl) (hvis : Vis X.env.scope y := by first | exact Or.inl rfl | exact Or.inr (Or.inl rfl) | exact Or.inr (Or.inr rfl))
    (hd : (y == ("__debug__" : Str)) = false := by decide) (hcd : (y == ("__classdict__" : Str)) = false := by decide)
    (hs1 : starEach [.Name y q1, .Name x q2] X.env = (false, eval (.Name y q1) X.env) :: starEach [.Name x q2] X.env := by rfl) (hs2 : starEach [.Name x q2] X.env = (false, eval (.Name x q2) X.env) :: starEach [] X.env := by rfl)
    (hpl : (backTo pos (starEach [.Name x q2] X.env)).any (·.1) = false := by rfl) :
    SE X Wx (.Call (.Name "isinstance" q) [.Name y q1, .Name x q2] [] pos) (mIsE i a b) :=
  weakE (pe_callB (call_isP C hz hf hp) hg hi hv (pa_cons (pe_var hN hvis hd hcd) (pa_cons hc pa_nil hs2) hs1) (he := hs1) (hpl := hpl)) fun σ H Q ⟨ρ, φ, S, F, s, q⟩ => by
    unfold mIsE at q
    split at q
    · rename_i a' g
      split at q
      · rename_i e
        subst e
        obtain ⟨v, h1, h2⟩ := F.get i _ g
        cases h2
        exact ⟨.ref a', h1, c, cv, b, rfl, hcv, hk, q _ ρ H (Ext.refl _ _) (.bl b) s⟩
      · exact q.elim
    · exact q.elim
/-! "".join(xs) -/
def strsOf : List W → Option (List Str)
  | [] => some []
  | .str x :: r => (strsOf r).map (x :: ·)
  | _ :: _ => none
theorem RWs.strs {K : PySem.W.Frag} {ρ : List Addr} {H : Hp} : ∀ {vs : List V} {ws : List W} {xs : List Str}, RWs K ρ H vs ws → strsOf ws = some xs → vs = xs.map V.str
  | _, _, _, .nil, h => by cases h; rfl
  | _, _, _, .cons r t, h => by
    cases r <;> simp only [strsOf] at h
    case str =>
      obtain ⟨ms, h1, rfl⟩ := Option.map_eq_some_iff.mp h
      rw [RWs.strs t h1]; rfl
    all_goals cases h
def mJoin (x : Str) (f : FE W) : FE W := fun φ S => (f φ S).bind fun w S1 => match asL S1 w with
  | some l => match strsOf l with
    | some ys => if (ys.map (·.length)).sum + ys.length * x.length ≤ 16777216 then .ok (.str (Txt.join x ys)) S1 else .bad
    | none => .bad
  | none => .bad
theorem se_join {x : Str} {j : Nat} {e : Expr} {f : FE W} {po apos pos : Pos} (he : SE X Wx e f) (hs : starEach [e] X.env = [(false, eval e X.env)] := by rfl) (hbase : attributeBase (.Constant (.str x) j po) "join" X.env (eval (.Constant (.str x) j po) X.env) = eval (.Constant (.str x) j po) X.env := by rfl) (hline : (apos.endLine == pos.line) = true := by rfl) :
    SE X Wx (.Call (.Attribute (.Constant (.str x) j po) "join" apos) [e] [] pos) (mJoin x f) :=
  weakE (pe_join pe_str he hs hbase hline) fun σ H Q ⟨ρ, φ, S, F, s, q⟩ => ⟨⟨x, rfl⟩, into F s q fun w S1 v ρ1 H1 e1 r1 s1 F1 q1 => by
    split at q1
    · rename_i l h1
      split at q1
      · rename_i ys h2
        split at q1
        · rename_i hz
          obtain ⟨b, xs, rfl, hq, rs⟩ := asL_of s1 r1 h1
          have e := rs.strs h2
          subst e
          exact ⟨x, b, ys, rfl, rfl, .inl hq, hz, q1 _ ρ1 H1 (Ext.refl _ _) (.str _) s1⟩
        · exact q1.elim
      · exact q1.elim
    · exact q1.elim⟩
end
end Wm

set_option Elab.async false
set_option linter.all false
set_option maxRecDepth 100000
set_option maxHeartbeats 2000000
namespace Wm
open PySem PySem.Spec PyProof.Rows L2

/-! ## plain lemmas over the machine -/
/-- all but the places d stay -/
structure Kp (d : List Nat) (S S' : Sto) : Prop where
  le : S.length ≤ S'.length
  at' : ∀ (m : Nat) (o : Ob), m ∉ d → S[m]? = some o → S'[m]? = some o
theorem Kp.refl (d : List Nat) (S : Sto) : Kp d S S := ⟨Nat.le_refl _, fun _ _ _ h => h⟩
theorem Kp.trans {d : List Nat} {S S1 S2 : Sto} (a : Kp d S S1) (b : Kp d S1 S2) : Kp d S S2 := ⟨Nat.le_trans a.le b.le, fun m o h e => b.at' m o h (a.at' m o h e)⟩
theorem Kp.mono {d d' : List Nat} {S S' : Sto} (a : Kp d S S') (h : ∀ m ∈ d, m ∈ d') : Kp d' S S' := ⟨a.le, fun m o hm e => a.at' m o (fun z => hm (h m z)) e⟩
theorem Kp.push (d : List Nat) (S T : Sto) : Kp d S (S ++ T) := ⟨by rw [List.length_append]; omega, fun m o _ e => by
  obtain ⟨hl, _⟩ := List.getElem?_eq_some_iff.mp e
  rw [List.getElem?_append_left hl]; exact e⟩
theorem Kp.set {d : List Nat} {S : Sto} {n : Nat} {o : Ob} (h : n ∈ d) : Kp d S (S.set n o) := ⟨by rw [List.length_set]; omega, fun m o' hm e => by
  rw [List.getElem?_set_ne (fun z => hm (by rw [← z]; exact h))]; exact e⟩
/-- what is new may be written -/
theorem Kp.fresh {d d' : List Nat} {S S1 S2 : Sto} (a : Kp d S S1) (b : Kp d' S1 S2) (h : ∀ m ∈ d', m ∈ d ∨ S.length ≤ m) : Kp d S S2 := ⟨Nat.le_trans a.le b.le, fun m o hm e => b.at' m o (fun z => by
  obtain ⟨hl, _⟩ := List.getElem?_eq_some_iff.mp e
  rcases h m z with q | q
  · exact hm q
  · omega) (a.at' m o hm e)⟩
theorem Kp.new {d : List Nat} {S S2 : Sto} {o : Ob} (b : Kp (S.length :: d) (S ++ [o]) S2) : Kp d S S2 := (Kp.push d S [o]).fresh b fun m hm => by
  rcases List.mem_cons.mp hm with e | e
  · exact .inr (by omega)
  · exact .inl e
theorem at_new (S : Sto) (o : Ob) : (S ++ [o])[S.length]? = some o := by simp
theorem Kp.q {d : List Nat} {S S' : Sto} (k : Kp d S S') {w : W} {b : Bool} {l : List W} (h : asQ S w = some (b, l)) (hd : ∀ n, w = .ref n → n ∉ d) : asQ S' w = some (b, l) := by
  cases w with
  | ref n =>
    have hn := hd n rfl
    simp only [asQ, asL] at h ⊢
    cases e : S[n]? with
    | none => rw [e] at h; cases h
    | some o => rw [k.at' n o hn e]; rw [e] at h; exact h
  | _ => exact h
theorem Kp.qn {S S' : Sto} (k : Kp [] S S') {w : W} {b : Bool} {l : List W} (h : asQ S w = some (b, l)) : asQ S' w = some (b, l) := k.q h fun _ _ z => nomatch z
/-- m walks over l while the places d are written -/
def Wk (m : ItM) (l : List W) (d : List Nat) (S : Sto) : Prop := ∀ S', Kp d S S' → ∀ i, m i S' = some (l[i]?)
theorem wk_l {S : Sto} {w : W} {b : Bool} {l : List W} {d : List Nat} (h : asQ S w = some (b, l)) (hd : ∀ n, w = .ref n → n ∉ d) : Wk (itL w) l d S := fun S' k i => by
  unfold itL
  rw [k.q h hd]
def enumW (l : List W) : List W := l.zipIdx.map fun p => .tuw [.int (p.2 : Nat), p.1]
theorem wk_e {S : Sto} {w : W} {b : Bool} {l : List W} {d : List Nat} (h : asQ S w = some (b, l)) (hd : ∀ n, w = .ref n → n ∉ d) : Wk (itE w) (enumW l) d S := fun S' k i => by
  unfold itE enumW
  rw [k.q h hd]
  simp only [List.getElem?_map, List.getElem?_zipIdx]
  cases l[i]? with
  | none => rfl
  | some x => simp
theorem wk_z {S : Sto} {w w2 : W} {b b2 : Bool} {l l2 : List W} {d : List Nat} (h : asQ S w = some (b, l)) (hd : ∀ n, w = .ref n → n ∉ d) (h2 : asQ S w2 = some (b2, l2)) (hd2 : ∀ n, w2 = .ref n → n ∉ d) : Wk (itZ w w2) (List.zipWith (fun x y => .tuw [x, y]) l l2) d S := fun S' k i => by
  unfold itZ
  rw [k.q h hd, k.q h2 hd2]
  simp only [List.getElem?_zipWith]
  cases l[i]? <;> cases l2[i]? <;> rfl
def rangeW (a j : Int) : List W := (List.range (j - a).toNat).map fun i => .int (a + (i : Nat))
theorem wk_r {S : Sto} {a j : Int} {d : List Nat} : Wk (fun i _ => some (if a + (i : Int) < j then some (.int (a + (i : Int))) else none)) (rangeW a j) d S := fun S' k i => by
  unfold rangeW
  dsimp only
  rw [List.getElem?_map]
  by_cases h : a + (i : Int) < j
  · rw [if_pos h, List.getElem?_range (by omega)]
    rfl
  · rw [if_neg h, List.getElem?_eq_none (by rw [List.length_range]; omega)]
    rfl
theorem wk_r1 {S : Sto} {j : Int} {d : List Nat} : Wk (fun i _ => some (if (i : Int) < j then some (.int (i : Int)) else none)) (rangeW 0 j) d S := fun S' k i => by
  have := wk_r (S := S) (a := 0) (j := j) (d := d) S' k i
  simpa using this
theorem rangeW_len (a j : Int) : (rangeW a j).length = (j - a).toNat := by unfold rangeW; simp


/-! ### comprehensions -/
section
variable {m : ItM} {T : Tgt} {c : FE Bool} {f : FE W} {l : List W} {d own : List Nat} {S S1 : Sto} {φ : Fr}
theorem comp_go {D : Nat} (I : Nat → List W → Sto → Prop) (hD : S1.length = D) (hw : Wk m l d S1) (hl : l.length ≤ bigL)
    (step : ∀ i x acc S', l[i]? = some x → Kp d S1 S' → S'[D]? = some (.lst acc) → I i acc S' → ∃ φ', tgM T x φ = some φ' ∧ ∃ k S2, c φ' S' = .ok k S2 ∧ (k = false → Kp d S1 S2 ∧ S2[D]? = some (.lst acc) ∧ I (i + 1) acc S2) ∧
      (k = true → ∃ y S3, f φ' S2 = .ok y S3 ∧ Kp d S1 S3 ∧ S3[D]? = some (.lst acc) ∧ I (i + 1) (acc ++ [y]) (S3.set D (.lst (acc ++ [y]))))) (hd : D ∉ d) :
    ∀ (n i : Nat) (acc : List W) (S' : Sto), l.length - i < n → acc.length ≤ i → i ≤ l.length → Kp d S1 S' → S'[D]? = some (.lst acc) → I i acc S' → ∃ acc' S'', compM m T c f φ D n i S' = .ok (.ref D) S'' ∧ Kp d S1 S'' ∧ S''[D]? = some (.lst acc') ∧ I l.length acc' S''
  | 0, i, acc, S', hn, _, _, _, _, _ => absurd hn (Nat.not_lt_zero _)
  | n + 1, i, acc, S', hn, ha, hi, k, hat, hI => by
    unfold compM
    rw [hw S' k i]
    cases e : l[i]? with
    | none =>
      have : i = l.length := by
        have := List.getElem?_eq_none_iff.mp e
        omega
      subst this
      exact ⟨acc, S', rfl, k, hat, hI⟩
    | some x =>
      obtain ⟨hil, _⟩ := List.getElem?_eq_some_iff.mp e
      obtain ⟨φ', h1, k', S2, h2, h3, h4⟩ := step i x acc S' e k hat hI
      simp only [h1, h2, bindN_ok]
      cases k' with
      | false =>
        obtain ⟨g1, g2, g3⟩ := h3 rfl
        rw [if_neg (by decide)]
        exact comp_go I hD hw hl step hd n (i + 1) acc S2 (by omega) (by omega) (by omega) g1 g2 g3
      | true =>
        obtain ⟨y, S3, g0, g1, g2, g3⟩ := h4 rfl
        rw [if_pos rfl]
        simp only [g0, bindN_ok, appO, g2]
        rw [if_pos (by omega)]
        have hl3 : D < S3.length := (List.getElem?_eq_some_iff.mp g2).1
        refine comp_go I hD hw hl step hd n (i + 1) (acc ++ [y]) _ (by omega) (by simp; omega) (by omega) ?_ (List.getElem?_set_self hl3) g3
        exact g1.fresh (Kp.set (d := [D]) (by simp)) fun m hm => .inr (by simp at hm; omega)
theorem comp_inv {it : FE ItM} (I : Nat → List W → Sto → Prop) (hit : it φ S = .ok m S1) (hw : Wk m l d S1) (hl : l.length < bigT) (hd : ∀ n ∈ d, n < S1.length) (h0 : I 0 [] (S1 ++ [.lst []]))
    (step : ∀ i x acc S', l[i]? = some x → Kp d S1 S' → S'[S1.length]? = some (.lst acc) → I i acc S' → ∃ φ', tgM T x (wipeF φ own) = some φ' ∧ ∃ k S2, c φ' S' = .ok k S2 ∧ (k = false → Kp d S1 S2 ∧ S2[S1.length]? = some (.lst acc) ∧ I (i + 1) acc S2) ∧
      (k = true → ∃ y S3, f φ' S2 = .ok y S3 ∧ Kp d S1 S3 ∧ S3[S1.length]? = some (.lst acc) ∧ I (i + 1) (acc ++ [y]) (S3.set S1.length (.lst (acc ++ [y]))))) :
    ∃ acc S', mComp own it T c f φ S = .ok (.ref S1.length) S' ∧ Kp d S1 S' ∧ S'[S1.length]? = some (.lst acc) ∧ I l.length acc S' := by
  unfold mComp
  rw [hit, Out.bind_ok]
  have hl2 : l.length ≤ bigL := Nat.le_of_lt hl
  exact comp_go I rfl hw hl2 step (fun z => Nat.lt_irrefl _ (hd _ z)) bigT 0 [] _ (by omega) (by simp) (Nat.zero_le _) (Kp.push d S1 _) (at_new _ _) h0
/-- a comprehension whose pieces write nothing that was there -/
theorem comp_grow {α : Type} {it : FE ItM} (enc : α → W) (xs : List α) (p : α → Bool) (g : α → W) (hit : it φ S = .ok m S1) (hw : Wk m (xs.map enc) [] S1) (hl : xs.length < bigT)
    (h : ∀ x ∈ xs, ∀ S2, Kp [] S1 S2 → ∃ φ', tgM T (enc x) (wipeF φ own) = some φ' ∧ ∃ S3, c φ' S2 = .ok (p x) S3 ∧ Kp [] S2 S3 ∧ (p x = true → ∃ S4, f φ' S3 = .ok (g x) S4 ∧ Kp [] S3 S4)) :
    ∃ S', mComp own it T c f φ S = .ok (.ref S1.length) S' ∧ Kp [] S1 S' ∧ S'[S1.length]? = some (.lst ((xs.filter p).map g)) := by
  obtain ⟨acc, S', h1, h2, h3, h4⟩ := comp_inv (own := own) (T := T) (c := c) (f := f) (φ := φ) (fun i acc _ => acc = ((xs.take i).filter p).map g) hit hw (by rw [List.length_map]; exact hl) (by simp) (by simp) (fun i y acc S' e k hat hI => by
    rw [List.getElem?_map] at e
    obtain ⟨x, e2, ey⟩ := Option.map_eq_some_iff.mp e
    subst ey
    clear e
    have e := e2
    obtain ⟨φ', a1, S3, a2, a3, a4⟩ := h x (List.mem_of_getElem? e) S' k
    refine ⟨φ', a1, p x, S3, a2, fun hp => ⟨k.trans a3, a3.at' _ _ (by simp) hat, ?_⟩, fun hp => ?_⟩
    · rw [List.take_succ, e, List.filter_append, List.map_append, ← hI]
      simp [hp]
    · obtain ⟨S4, b1, b2⟩ := a4 hp
      refine ⟨g x, S4, b1, k.trans (a3.trans b2), b2.at' _ _ (by simp) (a3.at' _ _ (by simp) hat), ?_⟩
      rw [List.take_succ, e, List.filter_append, List.map_append, ← hI]
      simp [hp])
  rw [List.length_map, List.take_length] at h4
  subst h4
  exact ⟨S', h1, h2, h3⟩
theorem comp_all {α : Type} {it : FE ItM} (enc : α → W) (xs : List α) (g : α → W) (hit : it φ S = .ok m S1) (hw : Wk m (xs.map enc) [] S1) (hl : xs.length < bigT)
    (h : ∀ x ∈ xs, ∀ S2, Kp [] S1 S2 → ∃ φ', tgM T (enc x) (wipeF φ own) = some φ' ∧ ∃ S4, f φ' S2 = .ok (g x) S4 ∧ Kp [] S2 S4) :
    ∃ S', mComp own it T mYes f φ S = .ok (.ref S1.length) S' ∧ Kp [] S1 S' ∧ S'[S1.length]? = some (.lst (xs.map g)) := by
  obtain ⟨S', h1, h2, h3⟩ := comp_grow (own := own) (T := T) (c := mYes) (f := f) (φ := φ) enc xs (fun _ => true) g hit hw hl fun x hx S2 k => by
    obtain ⟨φ', a1, S4, a2, a3⟩ := h x hx S2 k
    exact ⟨φ', a1, S2, rfl, Kp.refl _ _, fun _ => ⟨S4, a2, a3⟩⟩
  rw [List.filter_eq_self.mpr (by simp)] at h3
  exact ⟨S', h1, h2, h3⟩
/-! ### for, while -/
def LoopR (I : Fr → Sto → Prop) (P : SO → Prop) : SO → Prop
  | .nx φ S => I φ S
  | .ct φ S => I φ S
  | .bk φ S => P (.nx φ S)
  | o => P o
theorem for_go {P : SO → Prop} {b : SM} (I : Nat → Fr → Sto → Prop) (hw : Wk m l d S1) (hk : ∀ i φ S, I i φ S → Kp d S1 S)
    (step : ∀ i x φ S, l[i]? = some x → I i φ S → ∃ φ1, tgM T x φ = some φ1 ∧ LoopR (I (i + 1)) P (b φ1 S)) (fin : ∀ φ S, I l.length φ S → P (.nx φ S)) :
    ∀ (n i : Nat) (φ : Fr) (S : Sto), l.length - i < n → i ≤ l.length → I i φ S → P (forM m T b n i φ S)
  | 0, i, φ, S, hn, _, _ => absurd hn (Nat.not_lt_zero _)
  | n + 1, i, φ, S, hn, hi, hI => by
    unfold forM
    rw [hw S (hk i φ S hI) i]
    cases e : l[i]? with
    | none =>
      have : i = l.length := by
        have := List.getElem?_eq_none_iff.mp e
        omega
      subst this
      exact fin φ S hI
    | some x =>
      obtain ⟨hil, _⟩ := List.getElem?_eq_some_iff.mp e
      obtain ⟨φ1, h1, h2⟩ := step i x φ S e hI
      simp only [h1]
      cases o : b φ1 S with
      | nx φ' S' => rw [o] at h2; exact for_go I hw hk step fin n (i + 1) φ' S' (by omega) (by omega) h2
      | ct φ' S' => rw [o] at h2; exact for_go I hw hk step fin n (i + 1) φ' S' (by omega) (by omega) h2
      | bk φ' S' => rw [o] at h2; exact h2
      | rt w S' => rw [o] at h2; exact h2
      | ex x φ' S' => rw [o] at h2; exact h2
      | bad => rw [o] at h2; exact h2
theorem for_ind {P : SO → Prop} {b : SM} {it : FE ItM} (I : Nat → Fr → Sto → Prop) (hit : it φ S = .ok m S1) (hw : Wk m l d S1) (hl : l.length < bigT) (h0 : I 0 φ S1) (hk : ∀ i φ S, I i φ S → Kp d S1 S)
    (step : ∀ i x φ S, l[i]? = some x → I i φ S → ∃ φ1, tgM T x φ = some φ1 ∧ LoopR (I (i + 1)) P (b φ1 S)) (fin : ∀ φ S, I l.length φ S → P (.nx φ S)) : P (mFor it T b φ S) := by
  unfold mFor
  rw [hit, bindS_ok]
  exact for_go I hw hk step fin bigT 0 φ S1 (by omega) (Nat.zero_le _) h0
theorem while_go {P : SO → Prop} {t : FE Bool} {b : SM} (I : Nat → Fr → Sto → Prop)
    (step : ∀ n φ S, I n φ S → ∃ k S1, t φ S = .ok k S1 ∧ (k = true → LoopR (fun φ' S' => ∃ n', n' < n ∧ I n' φ' S') P (b φ S1)) ∧ (k = false → P (.nx φ S1))) : ∀ (N n : Nat) (φ : Fr) (S : Sto), n < N → I n φ S → P (whileM t b N φ S)
  | 0, n, _, _, hn, _ => absurd hn (Nat.not_lt_zero _)
  | N + 1, n, φ, S, hn, hI => by
    unfold whileM
    obtain ⟨k, S1, h1, h2, h3⟩ := step n φ S hI
    rw [h1, bindS_ok]
    cases k with
    | false => rw [if_neg (by decide)]; exact h3 rfl
    | true =>
      rw [if_pos rfl]
      have h2 := h2 rfl
      cases o : b φ S1 with
      | nx φ' S' => rw [o] at h2; obtain ⟨n', a, q⟩ := h2; exact while_go I step N n' φ' S' (by omega) q
      | ct φ' S' => rw [o] at h2; obtain ⟨n', a, q⟩ := h2; exact while_go I step N n' φ' S' (by omega) q
      | bk φ' S' => rw [o] at h2; exact h2
      | rt w S' => rw [o] at h2; exact h2
      | ex x φ' S' => rw [o] at h2; exact h2
      | bad => rw [o] at h2; exact h2
theorem while_ind {P : SO → Prop} {t : FE Bool} {b : SM} (I : Nat → Fr → Sto → Prop) (n : Nat) (hn : n < bigT) (h0 : I n φ S)
    (step : ∀ n φ S, I n φ S → ∃ k S1, t φ S = .ok k S1 ∧ (k = true → LoopR (fun φ' S' => ∃ n', n' < n ∧ I n' φ' S') P (b φ S1)) ∧ (k = false → P (.nx φ S1))) : P (mWhile t b φ S) := while_go I step bigT n φ S hn h0
theorem seq_nx {g h : SM} {φ φ' : Fr} {S S' : Sto} (e : g φ S = .nx φ' S') : mSeq g h φ S = h φ' S' := by unfold mSeq; rw [e]
theorem seq_rt {g h : SM} {φ : Fr} {S S' : Sto} {w : W} (e : g φ S = .rt w S') : mSeq g h φ S = .rt w S' := by unfold mSeq; rw [e]
theorem seq_ex {g h : SM} {φ φ' : Fr} {S S' : Sto} {x : Exn} (e : g φ S = .ex x φ' S') : mSeq g h φ S = .ex x φ' S' := by unfold mSeq; rw [e]
def ThenP (P : SO → Prop) (h : SM) : SO → Prop
  | .nx φ S => P (h φ S)
  | o => P o
theorem seq_then {P : SO → Prop} {g h : SM} {φ : Fr} {S : Sto} (e : ThenP P h (g φ S)) : P (mSeq g h φ S) := by
  unfold mSeq
  cases o : g φ S with
  | nx φ' S' => rw [o] at e; exact e
  | _ => rw [o] at e; exact e
theorem seq_P {P : SO → Prop} {g h : SM} {φ : Fr} {S : Sto} (e : (fun o => match o with | .nx φ' S' => P (h φ' S') | o => P o) (g φ S)) : P (mSeq g h φ S) := by
  unfold mSeq
  cases o : g φ S with
  | nx φ' S' => rw [o] at e; exact e
  | _ => rw [o] at e; exact e
end
end Wm

set_option Elab.async false
set_option linter.all false
set_option maxRecDepth 100000
set_option maxHeartbeats 2000000
set_option exponentiation.threshold 5000
namespace Wm
open PySem

/-! ### what the operators do at hand -/
section
variable {S : Sto} {a b : Int} {w : W} {l m : List W}
theorem add_ii : oAdd (.int a) (.int b) S = some (.int (a + b), S) := rfl
theorem add_tt (h : (l ++ m).length ≤ bigL) : oAdd (.tup l) (.tup m) S = some (.tup (l ++ m), S) := by
  show (match tupO (l ++ m) S with | some p => some p | none => _) = _
  unfold tupO
  rw [if_pos h]
theorem add_ll {x y : W} (hx : asL S x = some l) (hy : asL S y = some m) (h : (l ++ m).length ≤ bigL) : oAdd x y S = some (.ref S.length, S ++ [.lst (l ++ m)]) := by
  have e1 : oAddI x y S = none := by
    unfold oAddI opI
    cases x <;> first | rfl | (simp [asL] at hx)
  have e2 : oAddT x y S = none := by
    unfold oAddT
    cases x <;> first | rfl | (simp [asL] at hx)
  unfold oAdd orOp
  rw [e1]
  dsimp only
  rw [e2]
  dsimp only
  unfold oAddL
  rw [hx, hy]
  dsimp only
  unfold lstO
  rw [if_pos h]
theorem sub_ii : oSubI (.int a) (.int b) S = some (.int (a - b), S) := rfl
theorem mul_ii (h : smallN a = true) (h2 : smallN b = true) : oMul (.int a) (.int b) S = some (.int (a * b), S) := by
  show (match (if cMul a b = true then some (W.int (a * b), S) else none) with | some p => some p | none => _) = _
  unfold cMul
  rw [h, h2]
  rfl
theorem div_ii (h : 0 < b) (h2 : smallN b = true) : oDivI (.int a) (.int b) S = some (.int (a / b), S) := by
  show (if cDiv a b = true then some (W.int (a / b), S) else none) = _
  unfold cDiv
  rw [h2, decide_eq_true h]
  rfl
theorem mod_ii (h : 0 < b) : oModI (.int a) (.int b) S = some (.int (a % b), S) := by
  show (if cMod a b = true then some (W.int (a % b), S) else none) = _
  unfold cMod
  rw [decide_eq_true h]
  rfl
theorem pow_ii (h : 0 ≤ b) (h2 : b ≤ 1000) (h3 : a.natAbs < 2 ^ 64) : oPowI (.int a) (.int b) S = some (.int (a ^ b.toNat), S) := by
  show (if cPow a b = true then some (W.int (a ^ b.toNat), S) else none) = _
  unfold cPow
  rw [decide_eq_true h, decide_eq_true h2, decide_eq_true h3]
  rfl
theorem lt_ii : oLtI (.int a) (.int b) S = some (.bl (decide (a < b)), S) := rfl
theorem le_ii : oLeI (.int a) (.int b) S = some (.bl (decide (a ≤ b)), S) := rfl
theorem gt_ii : oGtI (.int a) (.int b) S = some (.bl (decide (b < a)), S) := rfl
theorem ge_ii : oGeI (.int a) (.int b) S = some (.bl (decide (b ≤ a)), S) := rfl
theorem small_of {i : Int} (h : 0 ≤ i) (h2 : i ≤ 10 ^ 200) : smallN i = true := by
  unfold smallN bigN
  refine decide_eq_true ?_
  have : (10 : Int) ^ 200 < 2 ^ 4000 := by decide
  omega
theorem dat_int : dat S (.int a) = some (.int a) := rfl
theorem dat_bl {k : Bool} : dat S (.bl k) = some (.bool k) := rfl
theorem eqv_int (a b : Int) : PyData.eqv (.int a) (.int b) = decide (a = b) := by
  simp only [PyData.eqv]
  by_cases h : a = b
  · subst h; simp
  · rw [decide_eq_false h]; simp [h]
theorem eq_ii : oEq (.int a) (.int b) S = some (.bl (decide (a = b)), S) := by
  unfold oEq
  rw [dat_int, dat_int]
  dsimp only
  rw [eqv_int]
theorem ne_ii : oNe (.int a) (.int b) S = some (.bl (!decide (a = b)), S) := by
  unfold oNe
  rw [dat_int, dat_int]
  dsimp only
  rw [eqv_int]
theorem ix_l {x : W} {k : Bool} {i : Int} {y : W} (hq : asQ S x = some (k, l)) (h : L2.atI l i = some y) : oIx x (.int i) S = some (y, S) := by
  unfold oIx orOp oIxQ
  simp only [hq]
  rw [h]
  rfl
theorem ixN_nat {n i : Nat} (h : i < n) : L2.ixN n (i : Int) = some i := by
  unfold L2.ixN
  first
    | (rw [if_pos (by omega)]; congr 1; done)
    | (simp; omega)
theorem atI_nat {i : Nat} {y : W} (h : l[i]? = some y) : L2.atI l (i : Int) = some y := by
  have hl := (List.getElem?_eq_some_iff.mp h).1
  unfold L2.atI
  rw [ixN_nat hl]
  exact h
theorem atI_last {y : W} (h : l.getLast? = some y) : L2.atI l (-1) = some y := by
  have hl : l ≠ [] := by
    intro z; subst z; cases h
  have hp : 0 < l.length := List.length_pos_iff.mpr hl
  unfold L2.atI
  have : L2.ixN l.length (-1) = some (l.length - 1) := by
    unfold L2.ixN
    simp
    omega
  rw [this]
  rw [List.getLast?_eq_getElem?] at h
  exact h
theorem len_q {x : W} {k : Bool} (hq : asQ S x = some (k, l)) : oLen [x] S = some (.int (l.length : Nat), S) := by
  unfold oLen orC oLenQ
  simp only [hq]
theorem tup_q (l : List W) : asQ S (.tup l) = some (true, l) := rfl
theorem ref_q {n : Nat} (h : S[n]? = some (.lst l)) : asQ S (.ref n) = some (false, l) := by
  simp only [asQ, asL, h]
  rfl
theorem ref_l {n : Nat} (h : S[n]? = some (.lst l)) : asL S (.ref n) = some l := by
  simp only [asL, h]
theorem tupO_ok (h : l.length ≤ bigL) : tupO l S = some (.tup l, S) := by unfold tupO; rw [if_pos h]
theorem lstO_ok (h : l.length ≤ bigL) : lstO l S = some (.ref S.length, S ++ [.lst l]) := by unfold lstO; rw [if_pos h]
theorem sum_ints {x : W} {ns : List Int} (hq : asL S x = some (ns.map .int)) : oSum [x] S = some (.int ns.sum, S) := by
  unfold oSum
  simp only [hq, intsOf_map]
theorem all_bls {x : W} {ns : List Bool} (hq : asL S x = some (ns.map .bl)) : oAll [x] S = some (.bl (ns.all id), S) := by
  unfold oAll
  simp only [hq, blsOf_map]
theorem any_bls {x : W} {ns : List Bool} (hq : asL S x = some (ns.map .bl)) : oAny [x] S = some (.bl (ns.any id), S) := by
  unfold oAny
  simp only [hq, blsOf_map]
theorem tuple_q {x : W} {k : Bool} (hq : asQ S x = some (k, l)) (h : l.length ≤ bigL) : oTuple [x] S = some (.tup l, S) := by
  unfold oTuple
  simp only [hq]
  exact tupO_ok h
theorem list_q {x : W} {k : Bool} (hq : asQ S x = some (k, l)) (h : l.length ≤ bigL) : oList [x] S = some (.ref S.length, S ++ [.lst l]) := by
  unfold oList
  simp only [hq]
  exact lstO_ok h
theorem min_ii : oMin2 [.int a, .int b] S = some (.int (min a b), S) := by
  show some (W.int (if b < a then b else a), S) = _
  congr 3
  by_cases h : b < a
  · rw [if_pos h]; omega
  · rw [if_neg h]; omega
theorem max_ii : oMax2 [.int a, .int b] S = some (.int (max a b), S) := by
  show some (W.int (if b > a then b else a), S) = _
  congr 3
  by_cases h : b > a
  · rw [if_pos h]; omega
  · rw [if_neg h]; omega
theorem app_l {n : Nat} (h : S[n]? = some (.lst l)) (hl : l.length < bigL) : oAppend (.ref n) [w] S = some (.non, S.set n (.lst (l ++ [w]))) := by
  unfold oAppend
  simp only [h]
  rw [if_pos hl]
theorem isLst_ref {n : Nat} (h : S[n]? = some (.lst l)) : isLst S (.ref n) = true := by
  simp only [isLst, h]
theorem set_at {n : Nat} {o o' : Ob} (h : S[n]? = some o) : (S.set n o')[n]? = some o' := List.getElem?_set_self (List.getElem?_eq_some_iff.mp h).1
theorem set_off {n m : Nat} {o' : Ob} (h : m ≠ n) : (S.set n o')[m]? = S[m]? := List.getElem?_set_ne (Ne.symm h)
end
end Wm

set_option Elab.async false
set_option linter.all false
set_option maxRecDepth 100000
set_option maxHeartbeats 2000000
namespace Wm
open PySem

/-! ### herds: rows of a size and how many -/
abbrev Rows := List (Int × Int)
def std (r : Rows) : W := .tup (r.map tp)
def wsum (f : Int → Int) (r : Rows) : Int := (r.map fun x => f x.1 * x.2).sum
def folkP (r : Rows) : Int := (r.map fun x => x.1 * x.2).sum
def hd (r : Rows) : Int := (r.map fun x => x.2).sum
def getD (d : Rows) (k : Int) : Int := ((d.find? fun p => decide (p.1 = k)).map (·.2)).getD 0
def put (d : Rows) (k v : Int) : Rows := if (d.any fun p => decide (p.1 = k)) = true then d.map (fun p => if p.1 = k then (p.1, v) else p) else d ++ [(k, v)]
def tally (rows : Rows) : Rows := rows.foldl (fun d r => put d r.1 (getD d r.1 + r.2)) []
def gath (rows : Rows) : Rows := (tally rows).mergeSort le2
def jn (rows : Rows) : Rows := gath (rows.map fun r => (r.1 * r.2, 1))
def keys (d : Rows) : List Int := d.map (·.1)
theorem put_keys (d : Rows) (k v : Int) : keys (put d k v) = if k ∈ keys d then keys d else keys d ++ [k] := by
  unfold put keys
  by_cases h : k ∈ d.map (·.1)
  · rw [if_pos h, if_pos ?_]
    · rw [List.map_map]
      refine List.map_congr_left fun p hp => ?_
      show (if p.1 = k then (p.1, v) else p).1 = p.1
      by_cases e : p.1 = k
      · rw [if_pos e]
      · rw [if_neg e]
    · rw [List.any_eq_true]
      obtain ⟨p, hp, e⟩ := List.mem_map.mp h
      exact ⟨p, hp, decide_eq_true e⟩
  · rw [if_neg h, if_neg ?_]
    · rw [List.map_append]; rfl
    · intro z
      obtain ⟨p, hp, e⟩ := List.any_eq_true.mp z
      exact h (List.mem_map.mpr ⟨p, hp, of_decide_eq_true e⟩)
theorem put_nodup {d : Rows} (h : (keys d).Nodup) (k v : Int) : (keys (put d k v)).Nodup := by
  rw [put_keys]
  split
  · exact h
  · rename_i hk
    rw [List.nodup_append]
    refine ⟨h, by simp, fun a ha b hb e => ?_⟩
    have : b = k := by simpa using hb
    subst this; subst e
    exact hk ha
theorem put_mem {d : Rows} {k v : Int} {p : Int × Int} (h : p ∈ put d k v) : p ∈ d ∨ p = (k, v) := by
  unfold put at h
  split at h
  · obtain ⟨q, hq, e⟩ := List.mem_map.mp h
    by_cases hk : q.1 = k
    · rw [if_pos hk] at e
      right
      rw [← e, hk]
    · rw [if_neg hk] at e
      left
      rw [← e]; exact hq
  · rcases List.mem_append.mp h with h | h
    · exact .inl h
    · exact .inr (by simpa using h)
theorem put_len (d : Rows) (k v : Int) : (put d k v).length ≤ d.length + 1 := by
  unfold put
  split
  · rw [List.length_map]; omega
  · rw [List.length_append]; simp
theorem getD_nil (k : Int) : getD [] k = 0 := rfl
theorem getD_cons (p : Int × Int) (d : Rows) (k : Int) : getD (p :: d) k = if p.1 = k then p.2 else getD d k := by
  unfold getD
  rw [List.find?_cons]
  by_cases h : p.1 = k
  · rw [decide_eq_true h, if_pos h]; rfl
  · rw [decide_eq_false h, if_neg h]
theorem getD_no {d : Rows} {k : Int} (h : k ∉ keys d) : getD d k = 0 := by
  induction d with
  | nil => rfl
  | cons p d ih =>
    rw [getD_cons, if_neg (fun z => h (by rw [← z]; simp [keys])), ih (fun z => h (by simp [keys] at z ⊢; right; exact z))]
theorem getD_at {d : Rows} (hn : (keys d).Nodup) {p : Int × Int} (h : p ∈ d) : getD d p.1 = p.2 := by
  induction d with
  | nil => simp at h
  | cons q d ih =>
    rw [getD_cons]
    unfold keys at hn
    rw [List.map_cons, List.nodup_cons] at hn
    rcases List.mem_cons.mp h with e | h
    · subst e; rw [if_pos rfl]
    · by_cases e : q.1 = p.1
      · exfalso
        exact hn.1 (List.mem_map.mpr ⟨p, h, e.symm⟩)
      · rw [if_neg e, ih hn.2 h]
theorem wsum_nil (f : Int → Int) : wsum f [] = 0 := rfl
theorem wsum_cons (f : Int → Int) (p : Int × Int) (d : Rows) : wsum f (p :: d) = f p.1 * p.2 + wsum f d := by
  unfold wsum; rw [List.map_cons, List.sum_cons]
theorem wsum_append (f : Int → Int) (d e : Rows) : wsum f (d ++ e) = wsum f d + wsum f e := by
  induction d with
  | nil => rw [List.nil_append, wsum_nil]; omega
  | cons p d ih => rw [List.cons_append, wsum_cons, wsum_cons, ih]; omega
theorem put_sum (f : Int → Int) {d : Rows} (hn : (keys d).Nodup) (k v : Int) : wsum f (put d k (getD d k + v)) = wsum f d + f k * v := by
  by_cases hk : k ∈ keys d
  · have ha : (d.any fun p => decide (p.1 = k)) = true := by
      rw [List.any_eq_true]
      obtain ⟨p, hp, e⟩ := List.mem_map.mp hk
      exact ⟨p, hp, decide_eq_true e⟩
    unfold put
    rw [if_pos ha]
    generalize hg : getD d k = g
    clear ha
    induction d with
    | nil => simp [keys] at hk
    | cons p d ih =>
      unfold keys at hn
      rw [List.map_cons, List.nodup_cons] at hn
      rw [getD_cons] at hg
      rw [List.map_cons, wsum_cons, wsum_cons]
      by_cases e : p.1 = k
      · rw [if_pos e] at hg ⊢
        have hno : ∀ q ∈ d, q.1 ≠ k := fun q hq z => hn.1 (List.mem_map.mpr ⟨q, hq, by rw [z, e]⟩)
        have hm : d.map (fun p => if p.1 = k then (p.1, g + v) else p) = d := by
          conv => rhs; rw [← List.map_id d]
          refine List.map_congr_left fun q hq => ?_
          rw [if_neg (hno q hq)]; rfl
        rw [hm]
        show f p.1 * (g + v) + wsum f d = f p.1 * p.2 + wsum f d + f k * v
        rw [e, hg, Int.mul_add]
        omega
      · rw [if_neg e] at hg ⊢
        have hk' : k ∈ keys d := by
          rcases List.mem_cons.mp (show k ∈ p.1 :: d.map (·.1) from hk) with z | z
          · exact absurd z.symm e
          · exact z
        rw [ih hn.2 hk' hg]
        omega
  · have ha : ¬ (d.any fun p => decide (p.1 = k)) = true := by
      intro z
      obtain ⟨p, hp, e⟩ := List.any_eq_true.mp z
      exact hk (List.mem_map.mpr ⟨p, hp, of_decide_eq_true e⟩)
    unfold put
    rw [if_neg ha, wsum_append, wsum_cons, wsum_nil, getD_no hk]
    show wsum f d + (f k * (0 + v) + 0) = _
    rw [Int.zero_add, Int.add_zero]
/-- what the folds keep -/
structure TallyOk (rows d : Rows) : Prop where
  nd : (keys d).Nodup
  sum : ∀ f, wsum f d = wsum f rows
  mem : ∀ k, k ∈ keys d ↔ k ∈ keys rows
  len : d.length ≤ rows.length
  pos : (∀ r ∈ rows, 1 ≤ r.2) → ∀ r ∈ d, 1 ≤ r.2
theorem tally_snoc (rows : Rows) (r : Int × Int) : tally (rows ++ [r]) = put (tally rows) r.1 (getD (tally rows) r.1 + r.2) := by
  unfold tally
  rw [List.foldl_append]; rfl
theorem getD_pos {d : Rows} (h : ∀ r ∈ d, 1 ≤ r.2) (k : Int) : 0 ≤ getD d k := by
  unfold getD
  cases e : d.find? fun p => decide (p.1 = k) with
  | none => exact Int.le_refl _
  | some p =>
    have := h p (List.mem_of_find?_eq_some e)
    show 0 ≤ p.2
    omega
theorem list_snoc_ind {α : Type} {P : List α → Prop} (h0 : P []) (h1 : ∀ l a, P l → P (l ++ [a])) (l : List α) : P l := by
  have : ∀ m : List α, P m.reverse := by
    intro m
    induction m with
    | nil => exact h0
    | cons a m ih => rw [List.reverse_cons]; exact h1 _ _ ih
  have h := this l.reverse
  rw [List.reverse_reverse] at h
  exact h
theorem tally_ok (rows : Rows) : TallyOk rows (tally rows) := by
  induction rows using list_snoc_ind with
  | h0 => exact ⟨by simp [tally, keys], fun _ => rfl, fun _ => Iff.rfl, Nat.le_refl _, fun _ r h => by simp [tally] at h⟩
  | h1 rows r ih =>
    rw [tally_snoc]
    refine ⟨put_nodup ih.nd _ _, fun f => ?_, fun k => ?_, ?_, fun h p hp => ?_⟩
    · rw [put_sum f ih.nd, ih.sum f, wsum_append, wsum_cons, wsum_nil]
      omega
    · rw [put_keys]
      unfold keys
      rw [List.map_append, List.mem_append]
      have hk := ih.mem k
      have hr := ih.mem r.1
      unfold keys at hk hr
      split
      · rename_i hm
        rw [hk]
        constructor
        · exact .inl
        · rintro (z | z)
          · exact z
          · have : k = r.1 := by simpa using z
            rw [this]
            exact hr.mp hm
      · rw [List.mem_append, hk]
        simp
    · have := put_len (tally rows) r.1 (getD (tally rows) r.1 + r.2)
      have := ih.len
      rw [List.length_append]
      simp only [List.length_cons, List.length_nil]
      omega
    · have i1 : ∀ q ∈ tally rows, 1 ≤ q.2 := ih.pos fun q hq => h q (List.mem_append_left _ hq)
      rcases put_mem hp with z | z
      · exact i1 p z
      · rw [z]
        have := getD_pos i1 r.1
        have := h r (by simp)
        show 1 ≤ getD (tally rows) r.1 + r.2
        omega
theorem perm_wsum (f : Int → Int) {d e : Rows} (h : d.Perm e) : wsum f d = wsum f e := by
  induction h with
  | nil => rfl
  | cons p h ih => rw [wsum_cons, wsum_cons, ih]
  | swap p q d => rw [wsum_cons, wsum_cons, wsum_cons, wsum_cons]; omega
  | trans _ _ i1 i2 => exact i1.trans i2
theorem le2_trans (a b c : Int × Int) (h1 : le2 a b = true) (h2 : le2 b c = true) : le2 a c = true := by
  unfold le2 at *
  have h1 := of_decide_eq_true h1
  have h2 := of_decide_eq_true h2
  exact decide_eq_true (by omega)
theorem le2_total (a b : Int × Int) : (le2 a b || le2 b a) = true := by
  unfold le2
  rw [Bool.or_eq_true, decide_eq_true_eq, decide_eq_true_eq]
  omega
/-- rising in size -/
def Rise (r : Rows) : Prop := r.Pairwise fun a b => a.1 < b.1
theorem rise_of {d : Rows} (hn : (keys d).Nodup) : Rise (d.mergeSort le2) := by
  have hs := List.pairwise_mergeSort (le := le2) le2_trans le2_total d
  have hp := List.mergeSort_perm d le2
  have hn2 : (keys (d.mergeSort le2)).Nodup := (hp.map _).nodup_iff.mpr hn
  unfold keys at hn2
  rw [List.nodup_iff_pairwise_ne, List.pairwise_map] at hn2
  refine (List.Pairwise.and hs hn2).imp fun {a b} h => ?_
  obtain ⟨h1, h2⟩ := h
  unfold le2 at h1
  have h1 := of_decide_eq_true h1
  omega
theorem rise_nodup {r : Rows} (h : Rise r) : (keys r).Nodup := by
  unfold keys
  rw [List.nodup_iff_pairwise_ne, List.pairwise_map]
  exact h.imp fun {a b} z => by omega
structure GathOk (rows d : Rows) : Prop extends TallyOk rows d where
  rise : Rise d
theorem gath_ok (rows : Rows) : GathOk rows (gath rows) := by
  have t := tally_ok rows
  have hp := List.mergeSort_perm (tally rows) le2
  refine ⟨⟨(hp.map _).nodup_iff.mpr t.nd, fun f => (perm_wsum f hp).trans (t.sum f), fun k => ?_, ?_, fun h r hr => t.pos h r (hp.mem_iff.mp hr)⟩, rise_of t.nd⟩
  · rw [← t.mem k]
    exact (hp.map _).mem_iff
  · unfold gath
    rw [hp.length_eq]; exact t.len
/-- a rising one stays -/
theorem tally_id {r : Rows} (hn : (keys r).Nodup) : tally r = r := by
  induction r using list_snoc_ind with
  | h0 => rfl
  | h1 l a ih =>
    unfold keys at hn
    rw [List.map_append, List.nodup_append] at hn
    rw [tally_snoc, ih hn.1]
    have hk : a.1 ∉ keys l := fun z => hn.2.2 a.1 z a.1 (by simp) rfl
    rw [getD_no hk]
    unfold put
    rw [if_neg ?_]
    · rw [Int.zero_add]
    · intro z
      obtain ⟨p, hp, e⟩ := List.any_eq_true.mp z
      exact hk (List.mem_map.mpr ⟨p, hp, of_decide_eq_true e⟩)
theorem gath_id {r : Rows} (h : Rise r) : gath r = r := by
  unfold gath
  rw [tally_id (rise_nodup h)]
  refine List.mergeSort_of_pairwise (h.imp fun {a b} z => ?_)
  unfold le2
  exact decide_eq_true (.inl z)
end Wm

set_option Elab.async false
set_option linter.all false
set_option maxRecDepth 100000
set_option maxHeartbeats 2000000
namespace Wm
open PySem

def bigF : Int := 10 ^ 60
def bigG : Int := 10 ^ 61
/-- a stand, or one with some herds more -/
structure Ow (r : Rows) : Prop where
  ne : r ≠ []
  len : r.length ≤ 50
  rise : Rise r
  bd : ∀ x ∈ r, 1 ≤ x.1 ∧ 1 ≤ x.2
  sum : folkP r ≤ bigG
theorem folk_wsum (r : Rows) : folkP r = wsum (fun x => x) r := rfl
theorem hd_wsum (r : Rows) : hd r = wsum (fun _ => 1) r := by
  unfold hd wsum
  congr 1
  refine List.map_congr_left fun p _ => ?_
  show p.2 = 1 * p.2
  rw [Int.one_mul]
theorem wsum_le {f : Int → Int} {r : Rows} (h : ∀ x ∈ r, 0 ≤ f x.1 * x.2) {x : Int × Int} (hx : x ∈ r) : f x.1 * x.2 ≤ wsum f r := by
  induction r with
  | nil => simp at hx
  | cons p r ih =>
    rw [wsum_cons]
    have nn : ∀ (l : Rows), (∀ x ∈ l, 0 ≤ f x.1 * x.2) → 0 ≤ wsum f l := by
      intro l hl
      induction l with
      | nil => exact Int.le_refl _
      | cons q l ih2 =>
        rw [wsum_cons]
        have := hl q (by simp)
        have := ih2 fun x hx => hl x (by simp [hx])
        omega
    rcases List.mem_cons.mp hx with e | hx
    · subst e
      have := nn r fun y hy => h y (by simp [hy])
      omega
    · have h1 := ih (fun y hy => h y (by simp [hy])) hx
      have h2 := h p (by simp)
      omega
theorem mul_pos1 {a b : Int} (h : 1 ≤ a) (h2 : 1 ≤ b) : 1 ≤ a * b := by
  have := Int.mul_le_mul h h2 (by omega) (by omega)
  omega
theorem le_mul_right {a b : Int} (h : 1 ≤ a) (h2 : 1 ≤ b) : a ≤ a * b ∧ b ≤ a * b := by
  refine ⟨?_, ?_⟩
  · have := Int.mul_le_mul_of_nonneg_left h2 (show 0 ≤ a by omega)
    omega
  · have := Int.mul_le_mul_of_nonneg_right h (show 0 ≤ b by omega)
    omega
theorem Ow.each {r : Rows} (h : Ow r) {x : Int × Int} (hx : x ∈ r) : 1 ≤ x.1 ∧ 1 ≤ x.2 ∧ x.1 ≤ bigG ∧ x.2 ≤ bigG ∧ x.1 * x.2 ≤ bigG := by
  obtain ⟨h1, h2⟩ := h.bd x hx
  have := wsum_le (f := fun x => x) (r := r) (fun y hy => by
    obtain ⟨a, b⟩ := h.bd y hy
    have := mul_pos1 a b
    show 0 ≤ y.1 * y.2
    omega) hx
  have h3 : x.1 * x.2 ≤ bigG := Int.le_trans this h.sum
  have := le_mul_right h1 h2
  omega
theorem bigG_le : bigG ≤ 10 ^ 200 := by decide
theorem Ow.small {r : Rows} (h : Ow r) {x : Int × Int} (hx : x ∈ r) : smallN x.1 = true ∧ smallN x.2 = true := by
  obtain ⟨a, b, c, d, _⟩ := h.each hx
  exact ⟨small_of (by omega) (Int.le_trans c bigG_le), small_of (by omega) (Int.le_trans d bigG_le)⟩
theorem wsum_map_jn (f : Int → Int) (r : Rows) : wsum f (r.map fun x => (x.1 * x.2, (1 : Int))) = (r.map fun x => f (x.1 * x.2)).sum := by
  unfold wsum
  rw [List.map_map]
  congr 1
  refine List.map_congr_left fun p _ => ?_
  show f (p.1 * p.2) * 1 = _
  rw [Int.mul_one]
theorem jn_folk (r : Rows) : folkP (jn r) = folkP r := by
  rw [folk_wsum]
  unfold jn
  rw [(gath_ok _).sum, wsum_map_jn]
  rfl
theorem sum_ones (r : Rows) : (r.map fun _ => (1 : Int)).sum = (r.length : Int) := by
  induction r with
  | nil => rfl
  | cons p r ih => rw [List.map_cons, List.sum_cons, ih, List.length_cons]; omega
theorem jn_hd (r : Rows) : hd (jn r) = (r.length : Int) := by
  rw [hd_wsum]
  unfold jn
  rw [(gath_ok _).sum, wsum_map_jn]
  exact sum_ones r
theorem gath_ne {r : Rows} (h : r ≠ []) : gath r ≠ [] := by
  intro z
  obtain ⟨x, hx⟩ := List.exists_mem_of_ne_nil r h
  have := ((gath_ok r).mem x.1).mpr (List.mem_map.mpr ⟨x, hx, rfl⟩)
  rw [z] at this
  simp [keys] at this
theorem gath_bd {r : Rows} (h : ∀ x ∈ r, 1 ≤ x.1 ∧ 1 ≤ x.2) : ∀ x ∈ gath r, 1 ≤ x.1 ∧ 1 ≤ x.2 := fun x hx => by
  refine ⟨?_, (gath_ok r).pos (fun y hy => (h y hy).2) x hx⟩
  have := ((gath_ok r).mem x.1).mp (List.mem_map.mpr ⟨x, hx, rfl⟩)
  obtain ⟨y, hy, e⟩ := List.mem_map.mp this
  rw [← e]; exact (h y hy).1
theorem jn_bd {r : Rows} (h : ∀ x ∈ r, 1 ≤ x.1 ∧ 1 ≤ x.2) : ∀ x ∈ jn r, 1 ≤ x.1 ∧ 1 ≤ x.2 := gath_bd fun x hx => by
  obtain ⟨y, hy, e⟩ := List.mem_map.mp hx
  obtain ⟨a, b⟩ := h y hy
  rw [← e]
  exact ⟨mul_pos1 a b, Int.le_refl _⟩
theorem jn_len (r : Rows) : (jn r).length ≤ r.length := by
  have := (gath_ok (r.map fun x => (x.1 * x.2, (1 : Int)))).len
  rw [List.length_map] at this
  exact this
theorem Ow.jn {r : Rows} (h : Ow r) : Ow (jn r) := by
  refine ⟨gath_ne fun z => h.ne (List.map_eq_nil_iff.mp z), Nat.le_trans (jn_len r) h.len, (gath_ok _).rise, jn_bd h.bd, ?_⟩
  rw [jn_folk]; exact h.sum
def iter (r : Rows) : Nat → Rows
  | 0 => r
  | n + 1 => Wm.jn (iter r n)
theorem Ow.iter {r : Rows} (h : Ow r) : ∀ n, Ow (iter r n)
  | 0 => h
  | n + 1 => (Ow.iter h n).jn
theorem iter_succ (r : Rows) : ∀ n, iter (Wm.jn r) n = iter r (n + 1)
  | 0 => rfl
  | n + 1 => by show Wm.jn (iter (Wm.jn r) n) = _; rw [iter_succ r n]; rfl
theorem iter_fix {r : Rows} (h : Wm.jn r = r) : ∀ n, iter r n = r
  | 0 => rfl
  | n + 1 => by show Wm.jn (iter r n) = r; rw [iter_fix h n, h]
/-! how long it goes on -/
theorem len_le_hd {r : Rows} (h : ∀ x ∈ r, 1 ≤ x.2) : (r.length : Int) ≤ hd r ∧ (hd r = r.length → ∀ x ∈ r, x.2 = 1) := by
  induction r with
  | nil => exact ⟨Int.le_refl _, fun _ x hx => by simp at hx⟩
  | cons p r ih =>
    obtain ⟨i1, i2⟩ := ih fun x hx => h x (by simp [hx])
    have hp := h p (by simp)
    have e : hd (p :: r) = p.2 + hd r := by unfold hd; rw [List.map_cons, List.sum_cons]
    rw [e, List.length_cons]
    refine ⟨by omega, fun z x hx => ?_⟩
    rcases List.mem_cons.mp hx with q | q
    · subst q; omega
    · exact i2 (by omega) x q
theorem jn_one {r : Rows} (hr : Rise r) (h : ∀ x ∈ r, x.2 = 1) : Wm.jn r = r := by
  unfold Wm.jn
  have e : (r.map fun x => (x.1 * x.2, (1 : Int))) = r := by
    conv => rhs; rw [← List.map_id r]
    refine List.map_congr_left fun x hx => ?_
    rw [h x hx, Int.mul_one]
    show (x.1, (1 : Int)) = x
    rw [← h x hx]
  rw [e, gath_id hr]
def mu (r : Rows) : Nat := if Wm.jn r = r then 0 else r.length + 1
theorem mu_le (r : Rows) : mu r ≤ r.length + 1 := by unfold mu; split <;> omega
theorem mu_lt {r : Rows} (h : Ow r) (hn : Wm.jn r ≠ r) : mu (Wm.jn r) < mu r := by
  have e : mu r = r.length + 1 := by unfold mu; rw [if_neg hn]
  rw [e]
  unfold mu
  split
  · omega
  · rename_i hf
    have o := h.jn
    obtain ⟨a, b⟩ := len_le_hd fun x hx => (o.bd x hx).2
    rw [jn_hd] at a b
    by_cases q : (r.length : Int) = (Wm.jn r).length
    · exact absurd (jn_one o.rise (b q)) hf
    · omega
/-- all stands to the rest -/
def way : Nat → Rows → List Rows
  | 0, r => [r]
  | n + 1, r => if Wm.jn r = r then [r] else r :: way n (Wm.jn r)
def wayL (r : Rows) : List Rows := way (mu r) r
theorem way_ne (n : Nat) (r : Rows) : way n r ≠ [] := by
  cases n with
  | zero => simp [way]
  | succ n => unfold way; split <;> simp
theorem way_more {r : Rows} (h : Ow r) : ∀ n, mu r ≤ n → way n r = way (mu r) r := by
  have key : ∀ k r, Ow r → mu r ≤ k → ∀ n, mu r ≤ n → way n r = way (mu r) r := by
    intro k
    induction k with
    | zero =>
      intro r h hk n _
      have f : Wm.jn r = r := by
        unfold mu at hk
        split at hk
        · assumption
        · omega
      have e : mu r = 0 := by omega
      rw [e]
      cases n with
      | zero => rfl
      | succ n => unfold way; rw [if_pos f]
    | succ k ih =>
      intro r h hk n hn
      by_cases f : Wm.jn r = r
      · have e : mu r = 0 := by unfold mu; rw [if_pos f]
        rw [e]
        cases n with
        | zero => rfl
        | succ n => unfold way; rw [if_pos f]
      · have lt := mu_lt h f
        obtain ⟨m, e⟩ : ∃ m, mu r = m + 1 := ⟨mu r - 1, by omega⟩
        obtain ⟨n', en⟩ : ∃ n', n = n' + 1 := ⟨n - 1, by omega⟩
        subst en
        rw [e]
        unfold way
        rw [if_neg f, if_neg f, ih (Wm.jn r) h.jn (by omega) n' (by omega), ih (Wm.jn r) h.jn (by omega) m (by omega)]
  exact fun n hn => key (mu r) r h (Nat.le_refl _) n hn
theorem wayL_fix {r : Rows} (h : Wm.jn r = r) : wayL r = [r] := by
  unfold wayL mu
  rw [if_pos h]; rfl
theorem wayL_step {r : Rows} (h : Ow r) (hn : Wm.jn r ≠ r) : wayL r = r :: wayL (Wm.jn r) := by
  have lt := mu_lt h hn
  obtain ⟨m, e⟩ : ∃ m, mu r = m + 1 := ⟨mu r - 1, by omega⟩
  unfold wayL
  rw [e]
  show (if Wm.jn r = r then [r] else r :: way m (Wm.jn r)) = _
  rw [if_neg hn, way_more h.jn m (by omega)]
theorem way_ind {P : (r : Rows) → Ow r → Prop} (fix : ∀ r h, Wm.jn r = r → P r h) (step : ∀ (r : Rows) (h : Ow r), Wm.jn r ≠ r → P (Wm.jn r) h.jn → P r h) (r : Rows) (h : Ow r) : P r h := by
  have key : ∀ k r (h : Ow r), mu r ≤ k → P r h := by
    intro k
    induction k with
    | zero =>
      intro r h hk
      by_cases f : Wm.jn r = r
      · exact fix r h f
      · have := mu_lt h f; omega
    | succ k ih =>
      intro r h hk
      by_cases f : Wm.jn r = r
      · exact fix r h f
      · exact step r h f (ih _ h.jn (by have := mu_lt h f; omega))
  exact key _ r h (Nat.le_refl _)
theorem wayL_len {r : Rows} (h : Ow r) : (wayL r).length ≤ mu r + 1 := by
  induction r, h using way_ind with
  | fix r h f => rw [wayL_fix f]; simp
  | step r h hn ih =>
    rw [wayL_step h hn, List.length_cons]
    have := mu_lt h hn
    omega
theorem wayL_len50 {r : Rows} (h : Ow r) : (wayL r).length ≤ 52 := by
  have := wayL_len h
  have := mu_le r
  have := h.len
  omega
theorem wayL_pos (r : Rows) : 0 < (wayL r).length := List.length_pos_iff.mpr (way_ne _ _)
/-- the i-th, and the last for ever -/
theorem wayL_at {r : Rows} (h : Ow r) : ∀ n : Nat, (wayL r)[min n ((wayL r).length - 1)]? = some (iter r n) := by
  induction r, h using way_ind with
  | fix r h f => intro n; rw [wayL_fix f, iter_fix f]; simp
  | step r h hn ih =>
    intro n
    rw [wayL_step h hn]
    cases n with
    | zero => simp [iter]
    | succ n =>
      have hp := wayL_pos (Wm.jn r)
      have e : min (n + 1) ((r :: wayL (Wm.jn r)).length - 1) = min n ((wayL (Wm.jn r)).length - 1) + 1 := by
        rw [List.length_cons]; omega
      rw [e, List.getElem?_cons_succ, ih n, iter_succ]
theorem wayL_ok {r : Rows} (h : Ow r) : ∀ x ∈ wayL r, Ow x := by
  induction r, h using way_ind with
  | fix r h f => intro x hx; rw [wayL_fix f] at hx; simp at hx; rw [hx]; exact h
  | step r h hn ih =>
    intro x hx
    rw [wayL_step h hn] at hx
    rcases List.mem_cons.mp hx with e | hx
    · rw [e]; exact h
    · exact ih x hx
theorem iter_plus (r : Rows) (m : Nat) : ∀ n, iter r (m + n) = iter (iter r m) n
  | 0 => rfl
  | n + 1 => by show Wm.jn (iter r (m + n)) = Wm.jn (iter (iter r m) n); rw [iter_plus r m n]
/-- the rest -/
def restL (r : Rows) : Rows := iter r ((wayL r).length - 1)
theorem rest_fix {r : Rows} (h : Ow r) : Wm.jn (restL r) = restL r := by
  unfold restL
  induction r, h using way_ind with
  | fix r h f => rw [wayL_fix f]; exact f
  | step r h hn ih =>
    rw [wayL_step h hn, List.length_cons]
    have hp := wayL_pos (Wm.jn r)
    have e : (wayL (Wm.jn r)).length + 1 - 1 = ((wayL (Wm.jn r)).length - 1) + 1 := by omega
    rw [e, ← iter_succ]
    exact ih
theorem wayL_last {r : Rows} (h : Ow r) : (wayL r).getLast? = some (restL r) := by
  rw [List.getLast?_eq_getElem?]
  have := wayL_at h ((wayL r).length - 1)
  rw [Nat.min_self] at this
  exact this
theorem iter_ge {r : Rows} (h : Ow r) {n : Nat} (hn : (wayL r).length - 1 ≤ n) : iter r n = restL r := by
  obtain ⟨k, e⟩ : ∃ k, n = ((wayL r).length - 1) + k := ⟨n - ((wayL r).length - 1), by omega⟩
  rw [e, iter_plus]
  exact iter_fix (rest_fix h) k
theorem iter_lt {r : Rows} (h : Ow r) {n : Nat} (hn : n < (wayL r).length - 1) : Wm.jn (iter r n) ≠ iter r n := by
  induction r, h using way_ind generalizing n with
  | fix r h f => rw [wayL_fix f] at hn; simp at hn
  | step r h hf ih =>
    rw [wayL_step h hf, List.length_cons] at hn
    cases n with
    | zero => exact hf
    | succ n =>
      rw [← iter_succ]
      exact ih (by omega)
/-- a stand -/
structure Ok (r : Rows) : Prop extends Ow r where
  l40 : r.length ≤ 40
  s60 : folkP r ≤ bigF
instance {r : Rows} : Coe (Ok r) (Ow r) := ⟨Ok.toOw⟩
theorem Ok.mk' {r : Rows} (a : r ≠ []) (b : r.length ≤ 40) (c : Rise r) (d : ∀ x ∈ r, 1 ≤ x.1 ∧ 1 ≤ x.2) (e : folkP r ≤ bigF) : Ok r := ⟨⟨a, by omega, c, d, Int.le_trans e (by decide)⟩, b, e⟩
theorem Ok.jn {r : Rows} (h : Ok r) : Ok (Wm.jn r) := ⟨h.toOw.jn, Nat.le_trans (jn_len r) h.l40, by rw [jn_folk]; exact h.s60⟩
theorem Ok.iter {r : Rows} (h : Ok r) : ∀ n, Ok (Wm.iter r n)
  | 0 => h
  | n + 1 => (Ok.iter h n).jn
theorem Ok.each {r : Rows} (h : Ok r) {x : Int × Int} (hx : x ∈ r) : 1 ≤ x.1 ∧ 1 ≤ x.2 ∧ x.1 ≤ bigF ∧ x.2 ≤ bigF ∧ x.1 * x.2 ≤ bigF := by
  obtain ⟨h1, h2⟩ := h.bd x hx
  have := wsum_le (f := fun x => x) (r := r) (fun y hy => by
    obtain ⟨a, b⟩ := h.bd y hy
    have := mul_pos1 a b
    show 0 ≤ y.1 * y.2
    omega) hx
  have h3 : x.1 * x.2 ≤ bigF := Int.le_trans this h.s60
  have := le_mul_right h1 h2
  omega
end Wm

set_option Elab.async false
set_option linter.all false
set_option maxRecDepth 100000
set_option maxHeartbeats 2000000
namespace Wm
open PySem
section
variable {T T1 : Tgt} {c c1 : FE Bool} {f : FE W} {own own1 : List Nat} {S S1 : Sto} {φ : Fr}
theorem compIn_go {β : Type} {m : ItM} {D : Nat} (enc : β → W) (ys : List β) (q : β → Bool) (g : β → W) (acc0 : List W) (hD : S1.length = D) (hw : Wk m (ys.map enc) [D] S) (hS : Kp [] S1 S) (hb : acc0.length + ys.length ≤ bigL)
    (h : ∀ y ∈ ys, ∀ S2, Kp [D] S S2 → ∃ φ', tgM T1 (enc y) φ = some φ' ∧ ∃ S3, c1 φ' S2 = .ok (q y) S3 ∧ Kp [] S2 S3 ∧ (q y = true → ∃ S4, f φ' S3 = .ok (g y) S4 ∧ Kp [] S3 S4)) :
    ∀ (n i : Nat) (S' : Sto), ys.length - i < n → i ≤ ys.length → Kp [D] S S' → S'[D]? = some (.lst (acc0 ++ ((ys.take i).filter q).map g)) → ∃ S'', compIn m T1 c1 f φ D n i S' = .ok () S'' ∧ Kp [D] S S'' ∧ S''[D]? = some (.lst (acc0 ++ (ys.filter q).map g))
  | 0, i, S', hn, _, _, _ => absurd hn (Nat.not_lt_zero _)
  | n + 1, i, S', hn, hi, k, hat => by
    unfold compIn
    rw [hw S' k i, List.getElem?_map]
    cases e : ys[i]? with
    | none =>
      have : i = ys.length := by
        have := List.getElem?_eq_none_iff.mp e
        omega
      subst this
      rw [List.take_length] at hat
      exact ⟨S', rfl, k, hat⟩
    | some y =>
      obtain ⟨hil, _⟩ := List.getElem?_eq_some_iff.mp e
      obtain ⟨φ', h1, S3, h2, h3, h4⟩ := h y (List.mem_of_getElem? e) S' k
      have k3 : Kp [D] S S3 := k.trans (h3.mono (by simp))
      have a3 := h3.at' _ _ (by simp) hat
      simp only [Option.map_some, h1, h2, bindN_ok]
      cases hq : q y with
      | false =>
        rw [if_neg (by decide)]
        refine compIn_go enc ys q g acc0 hD hw hS hb h n (i + 1) S3 (by omega) (by omega) k3 ?_
        rw [List.take_succ, e, List.filter_append, List.map_append]
        simp [hq]
        simpa using a3
      | true =>
        rw [if_pos rfl]
        obtain ⟨S4, g0, g1⟩ := h4 hq
        have a4 := g1.at' _ _ (by simp) a3
        have hlen : (acc0 ++ ((ys.take i).filter q).map g).length < bigL := by
          rw [List.length_append, List.length_map]
          have := List.length_filter_le q (ys.take i)
          rw [List.length_take] at this
          omega
        simp only [g0, bindN_ok, appO, a4]
        rw [if_pos hlen]
        refine compIn_go enc ys q g acc0 hD hw hS hb h n (i + 1) _ (by omega) (by omega) ?_ ?_
        · exact (k3.trans (g1.mono (by simp))).trans (Kp.set (by simp))
        · rw [set_at a4, List.take_succ, e, List.filter_append, List.map_append, List.append_assoc]
          simp [hq]
theorem compM2_go {α β : Type} {m : ItM} {it1 : FE ItM} {D : Nat} (enc : α → W) (xs : List α) (p : α → Bool) (enc1 : β → W) (ys : α → List β) (q : α → β → Bool) (g : α → β → W) (hD : S1.length = D) (hw : Wk m (xs.map enc) [] S1) (hb : (xs.flatMap ys).length ≤ bigL)
    (h : ∀ x ∈ xs, ∀ S2, Kp [] S1 S2 → ∃ φ', tgM T (enc x) φ = some φ' ∧ ∃ S3, c φ' S2 = .ok (p x) S3 ∧ Kp [] S2 S3 ∧ (p x = true → ∃ m1 S4, it1 φ' S3 = .ok m1 S4 ∧ Kp [] S3 S4 ∧ Wk m1 ((ys x).map enc1) [D] S4 ∧ (ys x).length < bigT ∧
      ∀ y ∈ ys x, ∀ S5, Kp [] S1 S5 → ∃ φ2, tgM T1 (enc1 y) (wipeF φ' own1) = some φ2 ∧ ∃ S6, c1 φ2 S5 = .ok (q x y) S6 ∧ Kp [] S5 S6 ∧ (q x y = true → ∃ S7, f φ2 S6 = .ok (g x y) S7 ∧ Kp [] S6 S7))) :
    ∀ (n i : Nat) (S' : Sto), xs.length - i < n → i ≤ xs.length → Kp [] S1 S' → S'[D]? = some (.lst (((xs.take i).filter p).flatMap fun x => ((ys x).filter (q x)).map (g x))) →
      ∃ S'', compM2 m T c own1 it1 T1 c1 f φ D n i S' = .ok (.ref D) S'' ∧ Kp [] S1 S'' ∧ S''[D]? = some (.lst ((xs.filter p).flatMap fun x => ((ys x).filter (q x)).map (g x)))
  | 0, i, S', hn, _, _, _ => absurd hn (Nat.not_lt_zero _)
  | n + 1, i, S', hn, hi, k, hat => by
    unfold compM2
    rw [hw S' k i, List.getElem?_map]
    cases e : xs[i]? with
    | none =>
      have : i = xs.length := by
        have := List.getElem?_eq_none_iff.mp e
        omega
      subst this
      rw [List.take_length] at hat
      exact ⟨S', rfl, k, hat⟩
    | some x =>
      obtain ⟨hil, _⟩ := List.getElem?_eq_some_iff.mp e
      obtain ⟨φ', h1, S3, h2, h3, h4⟩ := h x (List.mem_of_getElem? e) S' k
      have k3 := k.trans h3
      have a3 := h3.at' _ _ (by simp) hat
      simp only [Option.map_some, h1, h2, bindN_ok]
      cases hp : p x with
      | false =>
        rw [if_neg (by decide)]
        refine compM2_go enc xs p enc1 ys q g hD hw hb h n (i + 1) S3 (by omega) (by omega) k3 ?_
        rw [List.take_succ, e, List.filter_append, List.flatMap_append]
        simp [hp]
        simpa using a3
      | true =>
        rw [if_pos rfl]
        obtain ⟨m1, S4, g0, g1, g2, g3, g4⟩ := h4 hp
        have k4 := k3.trans g1
        have a4 := g1.at' _ _ (by simp) a3
        have hlen : (((xs.take i).filter p).flatMap fun x => ((ys x).filter (q x)).map (g x)).length + (ys x).length ≤ bigL := by
          have hx : xs = xs.take i ++ x :: xs.drop (i + 1) := by
            conv => lhs; rw [← List.take_append_drop i xs]
            congr 1
            have e' : xs[i] = x := by
              rw [List.getElem?_eq_getElem hil] at e
              exact Option.some.inj e
            rw [List.drop_eq_getElem_cons hil, e']
          have sub : ∀ l : List α, ((l.filter p).flatMap fun x => ((ys x).filter (q x)).map (g x)).length ≤ (l.flatMap ys).length := by
            intro l
            induction l with
            | nil => simp
            | cons a l ih =>
              rw [List.flatMap_cons, List.length_append]
              by_cases ha : p a = true
              · rw [List.filter_cons_of_pos ha, List.flatMap_cons, List.length_append, List.length_map]
                have := List.length_filter_le (q a) (ys a)
                omega
              · rw [List.filter_cons_of_neg ha]
                omega
          have h5 := sub (xs.take i)
          have h6 : (xs.flatMap ys).length = ((xs.take i).flatMap ys).length + ((ys x).length + ((xs.drop (i + 1)).flatMap ys).length) := by
            conv => lhs; rw [hx]
            rw [List.flatMap_append, List.length_append, List.flatMap_cons, List.length_append]
          omega
        simp only [g0, bindN_ok]
        obtain ⟨S5, b1, b2, b3⟩ := compIn_go (S := S4) (S1 := S1) (D := D) (T1 := T1) (c1 := c1) (f := f) (φ := wipeF φ' own1) enc1 (ys x) (q x) (g x) _ hD g2 k4 hlen (fun y hy S2 k2 => g4 y hy S2 (k4.fresh k2 fun m hm => .inr (by simp at hm; omega))) bigT 0 S4 (by omega) (Nat.zero_le _) (Kp.refl _ _) (by simpa using a4)
        simp only [b1, bindN_ok]
        refine compM2_go enc xs p enc1 ys q g hD hw hb h n (i + 1) S5 (by omega) (by omega) (k4.fresh b2 fun m hm => .inr (by simp at hm; omega)) ?_
        rw [b3, List.take_succ, e, List.filter_append, List.flatMap_append]
        simp [hp]
theorem comp2_grow {α β : Type} {m : ItM} {it it1 : FE ItM} (enc : α → W) (xs : List α) (p : α → Bool) (enc1 : β → W) (ys : α → List β) (q : α → β → Bool) (g : α → β → W) (hit : it φ S = .ok m S1) (hw : Wk m (xs.map enc) [] S1) (hx : xs.length < bigT) (hb : (xs.flatMap ys).length ≤ bigL)
    (h : ∀ x ∈ xs, ∀ S2, Kp [] S1 S2 → ∃ φ', tgM T (enc x) (wipeF φ own) = some φ' ∧ ∃ S3, c φ' S2 = .ok (p x) S3 ∧ Kp [] S2 S3 ∧ (p x = true → ∃ m1 S4, it1 φ' S3 = .ok m1 S4 ∧ Kp [] S3 S4 ∧ Wk m1 ((ys x).map enc1) [S1.length] S4 ∧ (ys x).length < bigT ∧
      ∀ y ∈ ys x, ∀ S5, Kp [] S1 S5 → ∃ φ2, tgM T1 (enc1 y) (wipeF φ' own1) = some φ2 ∧ ∃ S6, c1 φ2 S5 = .ok (q x y) S6 ∧ Kp [] S5 S6 ∧ (q x y = true → ∃ S7, f φ2 S6 = .ok (g x y) S7 ∧ Kp [] S6 S7))) :
    ∃ S', mComp2 own own1 it T c it1 T1 c1 f φ S = .ok (.ref S1.length) S' ∧ Kp [] S1 S' ∧ S'[S1.length]? = some (.lst ((xs.filter p).flatMap fun x => ((ys x).filter (q x)).map (g x))) := by
  unfold mComp2
  rw [hit, Out.bind_ok]
  exact compM2_go enc xs p enc1 ys q g rfl hw hb h bigT 0 _ (by omega) (Nat.zero_le _) (Kp.push _ _ _) (by simp)
end
end Wm

set_option Elab.async false
set_option linter.all false
set_option maxRecDepth 100000
set_option maxHeartbeats 2000000
namespace Wm
open PySem

/-! ### data of herds -/
theorem mapO_map {α β γ : Type} {f : β → Option γ} {g : α → β} {h : α → γ} : ∀ {l : List α}, (∀ x ∈ l, f (g x) = some (h x)) → mapO f (l.map g) = some (l.map h)
  | [], _ => rfl
  | a :: l, e => by
    show (match f (g a), mapO f (l.map g) with | some b, some bs => some (b :: bs) | _, _ => none) = _
    rw [e a (by simp), mapO_map fun x hx => e x (by simp [hx])]
    rfl
theorem mapO_of {β γ : Type} {f : β → Option γ} {h : β → γ} {l : List β} (e : ∀ x ∈ l, f x = some (h x)) : mapO f l = some (l.map h) := by
  have := mapO_map (g := id) e
  rw [List.map_id] at this
  exact this
def dP (p : Int × Int) : PyData := .tuple [.int p.1, .int p.2]
def dS (r : Rows) : PyData := .tuple (r.map dP)
theorem toD_int (S : Sto) (n : Nat) (i : Int) : toD S (n + 1) (.int i) = some (.int i) := rfl
theorem toD_tp (S : Sto) (n : Nat) (p : Int × Int) : toD S (n + 2) (tp p) = some (dP p) := rfl
theorem toD_tup {S : Sto} {n : Nat} {l : List W} {h : W → PyData} (e : ∀ x ∈ l, toD S n x = some (h x)) : toD S (n + 1) (.tup l) = some (.tuple (l.map h)) := by
  show (mapO (toD S n) l).map PyData.tuple = _
  rw [mapO_of e]; rfl
theorem toD_std (S : Sto) (n : Nat) (r : Rows) : toD S (n + 3) (std r) = some (dS r) := by
  show (mapO (toD S (n + 2)) (r.map tp)).map PyData.tuple = _
  rw [mapO_map fun p _ => toD_tp S n p]; rfl
theorem canLay_all {α : Type} {f : α → PyData} : ∀ {l : List α}, (∀ x ∈ l, (f x).canLay0 = true) → PyData.canLayAll0 (l.map f) = true
  | [], _ => by simp [PyData.canLayAll0]
  | a :: l, h => by
    rw [List.map_cons, PyData.canLayAll0, h a (by simp), canLay_all fun x hx => h x (by simp [hx])]
    rfl
theorem depth_all {α : Type} {f : α → PyData} {n : Nat} : ∀ {l : List α}, (∀ x ∈ l, (f x).depth ≤ n) → PyData.depthAll (l.map f) ≤ n
  | [], _ => by simp [PyData.depthAll]
  | a :: l, h => by
    rw [List.map_cons, PyData.depthAll]
    exact Nat.max_le.mpr ⟨h a (by simp), depth_all fun x hx => h x (by simp [hx])⟩
theorem lay_dP (p : Int × Int) : (dP p).canLay0 = true ∧ (dP p).depth ≤ 1 := by
  unfold dP
  simp [PyData.canLay0, PyData.canLayAll0, PyData.depth, PyData.depthAll]
theorem lay_dS (r : Rows) : (dS r).canLay0 = true ∧ (dS r).depth ≤ 2 := by
  unfold dS
  rw [PyData.canLay0, PyData.depth]
  exact ⟨canLay_all fun p _ => (lay_dP p).1, Nat.succ_le_succ (depth_all fun p _ => (lay_dP p).2)⟩
theorem shaped_of {d : PyData} {n : Nat} (h : d.canLay0 = true ∧ d.depth ≤ n) (hn : n ≤ 64) : SeqAt.shaped d = true := by
  unfold SeqAt.shaped
  rw [h.1, decide_eq_true (Nat.le_trans h.2 hn)]
  rfl
theorem dat_of_toD {S : Sto} {w : W} {d : PyData} (h : toD S 40 w = some d) (hs : SeqAt.shaped d = true) : dat S w = some d := by
  unfold dat
  rw [h]
  dsimp only
  rw [if_pos hs]
theorem dat_std (S : Sto) (r : Rows) : dat S (std r) = some (dS r) := dat_of_toD (toD_std S 37 r) (shaped_of (lay_dS r) (by decide))
theorem eqvAll_map {α : Type} {f : α → PyData} [DecidableEq α] (h : ∀ a b, PyData.eqv (f a) (f b) = decide (a = b)) : ∀ l m : List α, PyData.eqvAll (l.map f) (m.map f) = decide (l = m)
  | [], [] => by simp [PyData.eqvAll]
  | [], b :: m => by simp [PyData.eqvAll]
  | a :: l, [] => by simp [PyData.eqvAll]
  | a :: l, b :: m => by
    rw [List.map_cons, List.map_cons, PyData.eqvAll, h, eqvAll_map h l m]
    by_cases e1 : a = b <;> by_cases e2 : l = m <;> simp [e1, e2]
theorem eqv_dP (p q : Int × Int) : PyData.eqv (dP p) (dP q) = decide (p = q) := by
  unfold dP
  rw [PyData.eqv, PyData.eqvAll, PyData.eqvAll, PyData.eqvAll, eqv_int, eqv_int]
  obtain ⟨a, b⟩ := p
  obtain ⟨c, d⟩ := q
  by_cases e1 : a = c <;> by_cases e2 : b = d <;> simp [e1, e2]
theorem eqv_dS (r s : Rows) : PyData.eqv (dS r) (dS s) = decide (r = s) := by
  unfold dS
  rw [PyData.eqv, eqvAll_map eqv_dP]
theorem ne_std (S : Sto) (r s : Rows) : oNe (std r) (std s) S = some (.bl (!decide (r = s)), S) := by
  unfold oNe
  rw [dat_std, dat_std]
  dsimp only
  rw [eqv_dS]
theorem eq_std (S : Sto) (r s : Rows) : oEq (std r) (std s) S = some (.bl (decide (r = s)), S) := by
  unfold oEq
  rw [dat_std, dat_std]
  dsimp only
  rw [eqv_dS]
/-- data, numbers and the like, tuples and lists of them -/
theorem eqv_refl : ∀ d : PyData, d.canLay0 = true → PyData.eqv d d = true
  | .none, _ => by simp [PyData.eqv]
  | .bool b, _ => by simp [PyData.eqv]
  | .int i, _ => by simp [PyData.eqv]
  | .str x, _ => by simp [PyData.eqv]
  | .list l, h => by
    rw [PyData.eqv]
    rw [PyData.canLay0] at h
    exact go l h
  | .tuple l, h => by
    rw [PyData.eqv]
    rw [PyData.canLay0] at h
    exact go l h
  | .dict l, h => by simp [PyData.canLay0] at h
where go : ∀ l : List PyData, PyData.canLayAll0 l = true → PyData.eqvAll l l = true
  | [], _ => by simp [PyData.eqvAll]
  | d :: l, h => by
    rw [PyData.canLayAll0, Bool.and_eq_true] at h
    rw [PyData.eqvAll, eqv_refl d h.1, go l h.2]
    rfl
theorem std_q (S : Sto) (r : Rows) : asQ S (std r) = some (true, r.map tp) := rfl
theorem fold_std (r : Rows) : W.tup (r.map tp) = std r := rfl
end Wm
namespace Wm
/-- k unlike sizes have k (k + 1) / 2 folk at least -/
theorem rise_sum {r : Rows} (h : Rise r) (hb : ∀ x ∈ r, 1 ≤ x.1 ∧ 1 ≤ x.2) : (r.length : Int) * ((r.length : Int) + 1) ≤ 2 * folkP r := by
  have key : ∀ (r : Rows) (k : Int), 0 ≤ k → Rise r → (∀ x ∈ r, k + 1 ≤ x.1 ∧ 1 ≤ x.2) → (r.length : Int) * ((r.length : Int) + 1) + 2 * k * r.length ≤ 2 * folkP r := by
    intro r
    induction r with
    | nil => intro k _ _ _; simp [folkP]
    | cons p r ih =>
      intro k hk hr hb
      have hr' := List.pairwise_cons.mp hr
      obtain ⟨b1, b2⟩ := hb p (by simp)
      have i := ih (k + 1) (by omega) hr'.2 fun x hx => by
        have := hr'.1 x hx
        have := hb x (by simp [hx])
        omega
      have e : folkP (p :: r) = p.1 * p.2 + folkP r := by unfold folkP; rw [List.map_cons, List.sum_cons]
      have m := le_mul_right (show 1 ≤ p.1 by omega) b2
      rw [e, List.length_cons]
      have e1 : 2 * (k + 1) * (r.length : Int) = 2 * k * r.length + 2 * r.length := by
        rw [Int.mul_add, Int.add_mul]; omega
      rw [e1] at i
      generalize hL : (r.length : Int) = L at *
      have e2 : ((r.length + 1 : Nat) : Int) = L + 1 := by omega
      rw [e2]
      have e3 : (L + 1) * (L + 1 + 1) = L * (L + 1) + 2 * L + 2 := by
        rw [Int.add_mul, Int.mul_add L (L + 1) 1]; omega
      have e4 : 2 * k * (L + 1) = 2 * k * L + 2 * k := by rw [Int.mul_add]; omega
      rw [e3, e4]
      omega
  have := key r 0 (Int.le_refl _) h hb
  simpa using this
end Wm
namespace Wm
theorem wsum_bound {f : Int → Int} {B : Int} : ∀ {r : Rows}, (∀ x ∈ r, f x.1 * x.2 ≤ B) → wsum f r ≤ B * r.length
  | [], _ => by simp [wsum]
  | p :: r, h => by
    rw [wsum_cons, List.length_cons]
    have := h p (by simp)
    have := wsum_bound (r := r) fun x hx => h x (by simp [hx])
    have e : B * ((r.length + 1 : Nat) : Int) = B * r.length + B := by
      rw [Int.natCast_add, Int.mul_add]; simp
    omega
/-- a stand as a dict that was filled -/
theorem ok_of_dict {d : Rows} (hn : (keys d).Nodup) (hne : d ≠ []) (hl : d.length ≤ 40) (hb : ∀ x ∈ d, 1 ≤ x.1 ∧ 1 ≤ x.2 ∧ x.1 ≤ 10 ^ 30 ∧ x.2 ≤ 10 ^ 20) : Ok (d.mergeSort le2) := by
  have hp := List.mergeSort_perm d le2
  refine .mk' (fun z => hne (by rw [z] at hp; exact hp.symm.eq_nil)) (by rw [hp.length_eq]; exact hl) (rise_of hn) (fun x hx => ⟨(hb x (hp.mem_iff.mp hx)).1, (hb x (hp.mem_iff.mp hx)).2.1⟩) ?_
  rw [folk_wsum, perm_wsum _ hp]
  have h1 := wsum_bound (f := fun x => x) (B := 10 ^ 50) (r := d) fun x hx => by
    obtain ⟨a, b, c, e⟩ := hb x hx
    have : x.1 * x.2 ≤ 10 ^ 30 * 10 ^ 20 := Int.mul_le_mul c e (by omega) (by decide)
    have e2 : (10 : Int) ^ 30 * 10 ^ 20 = 10 ^ 50 := by decide
    show x.1 * x.2 ≤ 10 ^ 50
    omega
  have h2 : (10 : Int) ^ 50 * (d.length : Int) ≤ 10 ^ 50 * 40 := Int.mul_le_mul_of_nonneg_left (by omega) (by decide)
  have h3 : (10 : Int) ^ 50 * 40 ≤ bigF := by decide
  omega
theorem put_ne (d : Rows) (k v : Int) : put d k v ≠ [] := by
  unfold put
  split
  · rename_i h
    intro z
    rw [List.map_eq_nil_iff] at z
    subst z
    simp at h
  · simp
theorem mem_range {a j : Int} {i : Nat} {x : W} (h : (rangeW a j)[i]? = some x) : x = .int (a + i) ∧ a + i < j := by
  unfold rangeW at h
  rw [List.getElem?_map] at h
  obtain ⟨k, e, rfl⟩ := Option.map_eq_some_iff.mp h
  obtain ⟨hl, e2⟩ := List.getElem?_eq_some_iff.mp e
  rw [List.getElem_range] at e2
  subst e2
  rw [List.length_range] at hl
  exact ⟨rfl, by omega⟩
end Wm

set_option Elab.async false
set_option linter.all false
set_option maxRecDepth 100000
set_option maxHeartbeats 2000000
namespace Wm
open PySem
theorem cut_from (l : List W) (n : Nat) : cutW l (some (n : Int)) none = l.drop n := by
  unfold cutW
  rw [HT.sIx_nat, HT.sIx_none]
  by_cases h : n ≤ l.length
  · rw [Nat.min_eq_left h, List.take_of_length_le (by simp)]
  · rw [Nat.min_eq_right (by omega), List.drop_eq_nil_of_le (by omega), List.drop_eq_nil_of_le (by omega)]
    simp
theorem cut_to (l : List W) (n : Nat) : cutW l none (some (n : Int)) = l.take n := by
  unfold cutW
  rw [HT.sIx_nat, HT.sIx_none, List.drop_zero, Nat.sub_zero]
  by_cases h : n ≤ l.length
  · rw [Nat.min_eq_left h]
  · rw [Nat.min_eq_right (by omega), List.take_length, List.take_of_length_le (by omega)]
theorem cut_from1 (l : List W) : cutW l (some 1) none = l.drop 1 := cut_from l 1
theorem sl_ref {S : Sto} {n : Nat} {l : List W} {lo hi : Option Int} {m : List W} (h : S[n]? = some (.lst l)) (hc : cutW l lo hi = m) (hm : m.length ≤ bigL) : oSl (.ref n) lo hi S = some (.ref S.length, S ++ [.lst m]) := by
  unfold oSl
  rw [ref_q h]
  dsimp only
  rw [hc, lstO_ok hm]
theorem sl_tup {S : Sto} {l : List W} {lo hi : Option Int} {m : List W} (hc : cutW l lo hi = m) (hm : m.length ≤ bigL) : oSl (.tup l) lo hi S = some (.tup m, S) := by
  unfold oSl
  rw [tup_q]
  dsimp only
  rw [hc, tupO_ok hm]
/-- the way that a piece ends: it goes on -/
def Goes (I : Fr → Sto → Prop) : SO → Prop
  | .nx φ S => I φ S
  | .ct φ S => I φ S
  | _ => False
theorem Goes.loop {I : Fr → Sto → Prop} {P : SO → Prop} {o : SO} (h : Goes I o) : LoopR I P o := by
  cases o <;> first | exact h | exact h.elim
/-- a law that looks at the first cells, one by one -/
theorem law_cells {B F : SM} {r K : Nat} (hr : 1 ≤ r) (hB : ∀ (cell : Int) (φ : Fr) (S : Sto), φ.length = r + 1 → φ[1]? = some (some (.int cell)) → Goes (fun φ' S' => φ'.length = r + 1 ∧ Kp [] S S') (B φ S))
    (hF : ∀ (φ : Fr) (S : Sto), φ.length = r + 1 → ∃ S', F φ S = .rt (.bl true) S') : LawTrue (mFn r (mSeq (mFor (mItQ (mSl (mBin oAdd (mLst (mCons (mC (.int 0)) mNil)) (mVar 0)) none (some (mC (.int (K : Int)))))) (.one 1) B) F)) := by
  intro ns hns
  have key : (fun o : SO => ∃ S', o = .rt (.bl true) S') ((mSeq (mFor (mItQ (mSl (mBin oAdd (mLst (mCons (mC (.int 0)) mNil)) (mVar 0)) none (some (mC (.int (K : Int)))))) (.one 1) B) F) ([some (.cl (ns.map .int))] ++ List.replicate r none) []) := by
    have l1 := lstO_ok (S := ([] : Sto)) (show [W.int 0].length ≤ bigL from (by decide : 1 ≤ bigL))
    have l2 : oAdd (.ref 0) (.cl (ns.map W.int)) [.lst [.int 0]] = some (.ref 1, [.lst [.int 0], .lst (.int 0 :: ns.map W.int)]) := add_ll (S := [.lst [.int 0]]) (l := [.int 0]) (m := ns.map W.int) rfl rfl (by
      have : 1000 ≤ bigL := by decide
      rw [List.length_append, List.length_map]
      simp only [List.length_cons, List.length_nil]
      omega)
    generalize hcs : ([0] ++ ns).take K = cells
    have hc : cutW (W.int 0 :: ns.map W.int) none (some (K : Int)) = cells.map W.int := by
      rw [cut_to, ← hcs, List.map_take, List.map_append]; rfl
    have cl : cells.length ≤ 64 := by
      rw [← hcs, List.length_take]
      simp only [List.length_append, List.length_cons, List.length_nil]
      omega
    have l3 : oSl (.ref 1) none (some (K : Int)) [.lst [.int 0], .lst (.int 0 :: ns.map W.int)] = some (.ref 2, [.lst [.int 0], .lst (.int 0 :: ns.map W.int), .lst (cells.map W.int)]) :=
      sl_ref (S := [.lst [.int 0], .lst (.int 0 :: ns.map W.int)]) rfl hc (by rw [List.length_map]; exact Nat.le_trans cl (by decide))
    generalize hS0 : ([.lst [.int 0], .lst (.int 0 :: ns.map W.int), .lst (cells.map W.int)] : Sto) = S0 at *
    have q0 : asQ S0 (.ref 2) = some (false, cells.map W.int) := by rw [← hS0]; exact ref_q rfl
    refine seq_then (P := fun o => ∃ S', o = .rt (.bl true) S') ?_
    refine for_ind (P := ThenP (fun o => ∃ S', o = .rt (.bl true) S') F) (φ := [some (.cl (ns.map .int))] ++ List.replicate r none) (S := []) (S1 := S0) (l := cells.map W.int) (d := []) (m := itL (.ref 2)) (fun i φ S => φ.length = r + 1 ∧ Kp [] S0 S) ?_ (wk_l q0 fun _ _ z => nomatch z) (by rw [List.length_map]; exact Nat.lt_of_le_of_lt cl (by decide)) ⟨by simp, Kp.refl _ _⟩ (fun i φ S h => h.2) (fun i x φ S e h => ?_) (fun φ S h => ?_)
    · have hv : mVar 0 ([some (.cl (ns.map .int))] ++ List.replicate r none) [.lst [.int 0]] = .ok (.cl (ns.map .int)) [.lst [.int 0]] := rfl
      simp only [mFn, mCall, chk, mSeq, mRet, mRetN, mNext, mSet, mDrop, mIfS, mIf, mPar, mTg, mAug, mCB, mCons, mNil, mBin, mChain, mTest, bOf, mAndT, mOrT, mNotT, mAnd, mOr, mNot, mNeg, mVar, mC, mTup, mLst, mYes, mItQ, mItR1, mItR2, mItE, mItZ, mRaise, mIsi, mMt, mDNew, mStore, mGet2, mSl, mPart, bindS_ok, bindS_ex, bindS_bad, Out.bind_ok, Out.bind_ex, Out.bind_bad, ofO_some, ofO_none, List.map_cons, List.map_nil, List.replicate, List.cons_append, List.nil_append, List.append_nil, List.getElem?_cons_zero, List.getElem?_cons_succ, List.set_cons_zero, List.set_cons_succ, List.length_cons, List.length_nil, List.length_append, List.length_map, wipeF, setAll, tgM, if_true, if_false, Bool.not_true, Bool.not_false, Nat.zero_add, reduceCtorEq, Bool.false_eq_true, l1, l2, l3, q0]
    · obtain ⟨hφ, hk⟩ := h
      rw [List.getElem?_map] at e
      obtain ⟨cell, e2, rfl⟩ := Option.map_eq_some_iff.mp e
      have hb := hB cell (φ.set 1 (some (.int cell))) S (by rw [List.length_set]; exact hφ) (List.getElem?_set_self (by omega))
      refine ⟨_, rfl, Goes.loop ?_⟩
      cases o : B (φ.set 1 (some (.int cell))) S with
      | nx φ' S' => rw [o] at hb; exact ⟨hb.1, hk.trans hb.2⟩
      | ct φ' S' => rw [o] at hb; exact ⟨hb.1, hk.trans hb.2⟩
      | bk φ' S' => rw [o] at hb; exact hb.elim
      | rt w S' => rw [o] at hb; exact hb.elim
      | ex x φ' S' => rw [o] at hb; exact hb.elim
      | bad => rw [o] at hb; exact hb.elim
    · exact hF φ S h.1
  obtain ⟨S', h⟩ := key
  refine ⟨S', ?_⟩
  show (match (mSeq _ F) ([some (.cl (ns.map .int))] ++ List.replicate r none) [] with | .rt w S' => Out.ok w S' | .nx _ S' => .ok .non S' | .ex x _ S' => .ex x S' | _ => .bad) = _
  rw [h]
theorem iter_folk (r : Rows) : ∀ n, folkP (iter r n) = folkP r
  | 0 => rfl
  | n + 1 => (jn_folk (iter r n)).trans (iter_folk r n)
theorem rise_perm_eq : ∀ {a b : Rows}, Rise a → Rise b → a.Perm b → a = b
  | [], b, _, _, h => h.nil_eq
  | x :: a, [], _, _, h => absurd h.length_eq (by simp)
  | x :: a, y :: b, ha, hb, h => by
    obtain ⟨a1, a2⟩ := List.pairwise_cons.mp ha
    obtain ⟨b1, b2⟩ := List.pairwise_cons.mp hb
    have hx : x ∈ y :: b := h.mem_iff.mp (by simp)
    have hy : y ∈ x :: a := h.mem_iff.mpr (by simp)
    have e : x = y := by
      rcases List.mem_cons.mp hx with e | hx
      · exact e
      · rcases List.mem_cons.mp hy with e | hy
        · exact e.symm
        · have := b1 x hx
          have := a1 y hy
          omega
    subst e
    rw [rise_perm_eq a2 b2 h.cons_inv]
theorem gath_is {rows d : Rows} (hr : Rise d) (h : (tally rows).Perm d) : gath rows = d :=
  rise_perm_eq (gath_ok rows).rise hr ((List.mergeSort_perm (tally rows) le2).trans h)
end Wm

set_option Elab.async false
set_option linter.all false
set_option maxRecDepth 100000
set_option maxHeartbeats 2000000
namespace Wm
open PySem
/-! ### at each dusk what still joins is twice as great -/
def ind (k : Int) (x : Int) : Int := if x = k then 1 else 0
theorem wsum_no {k : Int} : ∀ {d : Rows}, k ∉ keys d → wsum (ind k) d = 0
  | [], _ => rfl
  | p :: d, h => by
    rw [wsum_cons]
    have h1 : p.1 ≠ k := fun z => h (by simp [keys, z])
    have h2 : k ∉ keys d := fun z => h (by simp [keys] at z ⊢; right; exact z)
    rw [wsum_no h2]
    unfold ind
    rw [if_neg h1]
    omega
theorem wsum_ind {k : Int} : ∀ {d : Rows}, (keys d).Nodup → wsum (ind k) d = getD d k
  | [], _ => rfl
  | p :: d, h => by
    unfold keys at h
    rw [List.map_cons, List.nodup_cons] at h
    rw [wsum_cons, getD_cons]
    by_cases e : p.1 = k
    · rw [if_pos e, wsum_no (by rw [← e]; exact h.1)]
      unfold ind
      rw [if_pos e]
      omega
    · rw [if_neg e, wsum_ind h.2]
      unfold ind
      rw [if_neg e]
      omega
theorem two_of {g : Int × Int → Int} {k : Int} : ∀ {x : Rows}, Rise x → 2 ≤ (x.map fun r => ind k (g r)).sum → ∃ a b, a ∈ x ∧ b ∈ x ∧ a.1 < b.1 ∧ g a = k ∧ g b = k
  | [], _, h => by simp at h
  | p :: x, hr, h => by
    obtain ⟨r1, r2⟩ := List.pairwise_cons.mp hr
    rw [List.map_cons, List.sum_cons] at h
    by_cases e : g p = k
    · have h1 : 1 ≤ (x.map fun r => ind k (g r)).sum := by
        unfold ind at h ⊢
        rw [if_pos e] at h
        omega
      have : ∃ b ∈ x, g b = k := by
        clear hr r1 r2 h
        induction x with
        | nil => simp at h1
        | cons q x ih =>
          by_cases eq : g q = k
          · exact ⟨q, by simp, eq⟩
          · rw [List.map_cons, List.sum_cons] at h1
            unfold ind at h1
            rw [if_neg eq] at h1
            obtain ⟨b, hb, hk⟩ := ih (by unfold ind; omega)
            exact ⟨b, by simp [hb], hk⟩
      obtain ⟨b, hb, hk⟩ := this
      exact ⟨p, b, by simp, by simp [hb], r1 b hb, e, hk⟩
    · unfold ind at h
      rw [if_neg e] at h
      obtain ⟨a, b, ha, hb, q⟩ := two_of (g := g) (k := k) r2 (by unfold ind; omega)
      exact ⟨a, b, by simp [ha], by simp [hb], q⟩
def Big (i : Nat) (x : Rows) : Prop := ∀ p ∈ x, 2 ≤ p.2 → (2 : Int) ^ i ≤ p.1
theorem jn_big {x : Rows} (h : Ow x) {i : Nat} (hb : Big i x) : Big (i + 1) (Wm.jn x) := by
  intro p hp h2
  have g := gath_ok (x.map fun r => (r.1 * r.2, (1 : Int)))
  have e1 : getD (Wm.jn x) p.1 = p.2 := getD_at g.nd hp
  have e2 : (x.map fun r => ind p.1 (r.1 * r.2)).sum = p.2 := by
    rw [← wsum_map_jn (ind p.1), ← g.sum, ← e1]
    exact wsum_ind g.nd
  obtain ⟨a, b, ha, hb', lt, ea, eb⟩ := two_of (g := fun r => r.1 * r.2) (k := p.1) h.rise (by
    show 2 ≤ (x.map fun r => ind p.1 (r.1 * r.2)).sum
    omega)
  have ea : a.1 * a.2 = p.1 := ea
  have eb : b.1 * b.2 = p.1 := eb
  obtain ⟨a1, a2⟩ := h.bd a ha
  obtain ⟨b1, b2⟩ := h.bd b hb'
  have m : 2 ≤ a.2 := by
    by_cases q : a.2 = 1
    · rw [q, Int.mul_one] at ea
      have := le_mul_right b1 b2
      omega
    · omega
  have k := hb a ha m
  have : a.1 * 2 ≤ a.1 * a.2 := Int.mul_le_mul_of_nonneg_left m (by omega)
  rw [Int.pow_succ]
  omega
theorem iter_big {r : Rows} (h : Ow r) : ∀ i, Big i (iter r i)
  | 0 => fun p hp _ => by
    have := h.bd p hp
    show (2 : Int) ^ 0 ≤ p.1
    omega
  | i + 1 => jn_big (h.iter i) (iter_big h i)
theorem rise_last {r : Rows} (h : Rise r) {x p : Int × Int} (hl : r.getLast? = some x) (hp : p ∈ r) : p.1 ≤ x.1 := by
  induction r with
  | nil => simp at hp
  | cons q r ih =>
    obtain ⟨r1, r2⟩ := List.pairwise_cons.mp h
    cases r with
    | nil =>
      simp at hl hp
      subst hl hp
      exact Int.le_refl _
    | cons q2 r =>
      rw [List.getLast?_cons_cons] at hl
      rcases List.mem_cons.mp hp with e | hp
      · subst e
        have := r1 x (List.mem_of_getLast? hl)
        omega
      · exact ih r2 hl hp
theorem rest_big {r : Rows} (h : Ow r) {x : Int × Int} (hl : (restL r).getLast? = some x) : (2 : Int) ^ ((wayL r).length - 1) ≤ x.1 := by
  have hok : Ow (restL r) := h.iter _
  cases k : (wayL r).length - 1 with
  | zero =>
    have := hok.bd x (List.mem_of_getLast? hl)
    show (2 : Int) ^ 0 ≤ _
    omega
  | succ k' =>
    have hn := iter_lt h (n := k') (by omega)
    have ok' := h.iter k'
    have big := iter_big h k'
    obtain ⟨p, hp, h2⟩ : ∃ p ∈ iter r k', 2 ≤ p.2 := by
      by_cases q : ∃ p ∈ iter r k', 2 ≤ p.2
      · exact q
      · refine absurd (jn_one ok'.rise fun p hp => ?_) hn
        have := (ok'.bd p hp).2
        by_cases z : 2 ≤ p.2
        · exact absurd ⟨p, hp, z⟩ q
        · omega
    have b := big p hp h2
    have mem : p.1 * p.2 ∈ keys (Wm.jn (iter r k')) := ((gath_ok _).mem _).mpr (List.mem_map.mpr ⟨(p.1 * p.2, 1), List.mem_map.mpr ⟨p, hp, rfl⟩, rfl⟩)
    obtain ⟨q, hq, e⟩ := List.mem_map.mp mem
    have er : restL r = Wm.jn (iter r k') := by unfold restL; rw [k]; rfl
    rw [er] at hl hok
    have := rise_last hok.rise hl hq
    have m : p.1 * 2 ≤ p.1 * p.2 := Int.mul_le_mul_of_nonneg_left h2 (by have := ok'.bd p hp; omega)
    rw [Int.pow_succ]
    omega
theorem rest_ones {r : Rows} (h : Ow r) : ∀ p ∈ restL r, p.2 = 1 := by
  have hok : Ow (restL r) := h.iter _
  have f := rest_fix h
  obtain ⟨a, b⟩ := len_le_hd fun x hx => (hok.bd x hx).2
  refine b ?_
  rw [← jn_hd, f]
theorem lt_two_pow (n : Nat) : (n : Int) < 2 ^ n := by
  induction n with
  | zero => decide
  | succ n ih => rw [Int.pow_succ]; omega
theorem pow_mono {a b : Nat} (h : a ≤ b) : (2 : Int) ^ a ≤ 2 ^ b := by
  induction b with
  | zero =>
    have : a = 0 := by omega
    subst this; exact Int.le_refl _
  | succ b ih =>
    by_cases e : a = b + 1
    · subst e; exact Int.le_refl _
    · have := ih (by omega)
      have p : (0 : Int) < 2 ^ a := Int.pow_pos (by decide)
      rw [Int.pow_succ]; omega
theorem eq_nil {S : Sto} {a b : Nat} (ha : S[a]? = some (.lst [])) (hb : S[b]? = some (.lst [])) : oEq (.ref a) (.ref b) S = some (.bl true, S) ∧ oNe (.ref a) (.ref b) S = some (.bl false, S) := by
  have d1 : ∀ j, S[j]? = some (.lst []) → dat S (.ref j) = some (.list []) := fun j hj => dat_of_toD (by simp only [toD, hj]; rfl) (by decide)
  unfold oEq oNe
  rw [d1 _ ha, d1 _ hb]
  exact ⟨rfl, rfl⟩
end Wm

set_option Elab.async false
set_option linter.all false
set_option maxRecDepth 100000
set_option maxHeartbeats 2000000
namespace Wm
open PySem

/-! ### one herd more -/
def ins (r : Rows) (s : Int) : Rows := gath (r ++ [(s, 1)])
theorem rise_ext : ∀ {a b : Rows}, Rise a → Rise b → (∀ k, k ∈ keys a ↔ k ∈ keys b) → (∀ k, getD a k = getD b k) → a = b
  | [], [], _, _, _, _ => rfl
  | [], y :: b, _, _, h, _ => by have := (h y.1).mpr (by simp [keys]); simp [keys] at this
  | x :: a, [], _, _, h, _ => by have := (h x.1).mp (by simp [keys]); simp [keys] at this
  | x :: a, y :: b, ha, hb, h, g => by
    obtain ⟨a1, a2⟩ := List.pairwise_cons.mp ha
    obtain ⟨b1, b2⟩ := List.pairwise_cons.mp hb
    have na : x.1 ∉ keys a := fun z => by
      obtain ⟨p, hp, e⟩ := List.mem_map.mp z
      have := a1 p hp
      omega
    have nb : y.1 ∉ keys b := fun z => by
      obtain ⟨p, hp, e⟩ := List.mem_map.mp z
      have := b1 p hp
      omega
    have e1 : x.1 = y.1 := by
      rcases List.mem_cons.mp ((h x.1).mp (by simp [keys])) with e | hx
      · exact e
      · rcases List.mem_cons.mp ((h y.1).mpr (by simp [keys])) with e | hy
        · exact e.symm
        · obtain ⟨p, hp, ep⟩ := List.mem_map.mp hx
          obtain ⟨q, hq, eq⟩ := List.mem_map.mp hy
          have := b1 p hp
          have := a1 q hq
          omega
    have e2 : x.2 = y.2 := by
      have := g x.1
      rw [getD_cons, getD_cons, if_pos rfl, if_pos e1.symm] at this
      exact this
    have e : x = y := Prod.ext e1 e2
    subst e
    rw [rise_ext a2 b2 (fun k => ?_) fun k => ?_]
    · have hk := h k
      constructor
      · intro m
        rcases List.mem_cons.mp (hk.mp (List.mem_cons_of_mem _ m)) with z | z
        · exact absurd (by rw [← show k = x.1 from z]; exact m) na
        · exact z
      · intro m
        rcases List.mem_cons.mp (hk.mpr (List.mem_cons_of_mem _ m)) with z | z
        · exact absurd (by rw [← show k = x.1 from z]; exact m) nb
        · exact z
    · have gk := g k
      rw [getD_cons, getD_cons] at gk
      by_cases z : x.1 = k
      · rw [getD_no (by rw [← z]; exact na), getD_no (by rw [← z]; exact nb)]
      · rw [if_neg z, if_neg z] at gk
        exact gk
theorem gath_getD (A : Rows) (k : Int) : getD (gath A) k = wsum (ind k) A := by
  rw [← wsum_ind (gath_ok A).nd, (gath_ok A).sum]
theorem gath_ext {A B : Rows} (h : ∀ k, k ∈ keys A ↔ k ∈ keys B) (g : ∀ k, wsum (ind k) A = wsum (ind k) B) : gath A = gath B :=
  rise_ext (gath_ok A).rise (gath_ok B).rise (fun k => by rw [(gath_ok A).mem, (gath_ok B).mem, h]) fun k => by rw [gath_getD, gath_getD, g]
theorem keys_append (A B : Rows) : keys (A ++ B) = keys A ++ keys B := by unfold keys; rw [List.map_append]
theorem gath_gath (A B : Rows) : gath (gath A ++ B) = gath (A ++ B) := gath_ext (fun k => by rw [keys_append, keys_append, List.mem_append, List.mem_append, (gath_ok A).mem]) fun k => by rw [wsum_append, wsum_append, (gath_ok A).sum]
/-- the herds' products -/
def prods (r : Rows) : Rows := r.map fun x => (x.1 * x.2, (1 : Int))
theorem perm_prods {a b : Rows} (h : a.Perm b) : gath (prods a) = gath (prods b) := gath_ext (fun k => ((h.map _).map _).mem_iff) fun k => perm_wsum _ (h.map _)
theorem getD_append_no {A : Rows} {s : Int} (h : s ∉ keys A) : tally (A ++ [(s, 1)]) = tally A ++ [(s, 1)] := by
  rw [tally_snoc]
  have hk : s ∉ keys (tally A) := fun z => h (((tally_ok A).mem s).mp z)
  show put (tally A) s (getD (tally A) s + 1) = _
  rw [getD_no hk]
  unfold put
  rw [if_neg (fun z => ?_)]
  · rfl
  · obtain ⟨p, hp, e⟩ := List.any_eq_true.mp z
    exact hk (List.mem_map.mpr ⟨p, hp, of_decide_eq_true e⟩)
/-- a size that is not there joins nobody -/
theorem jn_ins {r : Rows} (hr : Rise r) {s : Int} (h : s ∉ keys r) : Wm.jn (ins r s) = ins (Wm.jn r) s := by
  have p : (ins r s).Perm (r ++ [(s, 1)]) := by
    unfold ins gath
    rw [getD_append_no h, tally_id (rise_nodup hr)]
    exact List.mergeSort_perm _ _
  have e : Wm.jn (ins r s) = gath (prods (r ++ [(s, 1)])) := perm_prods p
  rw [e]
  unfold ins
  unfold Wm.jn
  rw [gath_gath]
  unfold prods
  rw [List.map_append]
  show gath (_ ++ [(s * 1, (1 : Int))]) = _
  rw [Int.mul_one]
theorem ins_keys (r : Rows) (s k : Int) : k ∈ keys (ins r s) ↔ k ∈ keys r ∨ k = s := by
  unfold ins
  rw [(gath_ok _).mem, keys_append, List.mem_append]
  simp [keys]
theorem Ok.ins {r : Rows} (h : Ok r) {s : Int} (h1 : 1 ≤ s) (h2 : s ≤ 2 * bigF) : Ow (ins r s) := by
  refine ⟨gath_ne (by simp), ?_, (gath_ok _).rise, gath_bd fun x hx => ?_, ?_⟩
  · have := (gath_ok (r ++ [(s, 1)])).len
    rw [List.length_append] at this
    have := h.l40
    show (gath (r ++ [(s, 1)])).length ≤ 50
    simp only [List.length_cons, List.length_nil] at *
    omega
  · rcases List.mem_append.mp hx with hx | hx
    · exact h.bd x hx
    · have : x = (s, 1) := by simpa using hx
      rw [this]; exact ⟨h1, Int.le_refl _⟩
  · have e : folkP (Wm.ins r s) = folkP r + s := by
      unfold Wm.ins
      rw [folk_wsum, (gath_ok _).sum, wsum_append, folk_wsum, wsum_cons, wsum_nil]
      omega
    rw [e]
    have := h.s60
    have : bigF + 2 * bigF ≤ bigG := by decide
    omega
/-- the sizes that are met on the way -/
def met (r : Rows) : List Int := ssetI ((wayL r).flatMap keys)
theorem mem_wayL {r : Rows} (h : Ow r) (n : Nat) : iter r n ∈ wayL r := List.mem_of_getElem? (wayL_at h n)
theorem met_iter {r : Rows} (h : Ow r) {s : Int} (hs : s ∉ met r) (n : Nat) : s ∉ keys (iter r n) := fun z => hs ((sset_mem _ _).mpr (List.mem_flatMap.mpr ⟨_, mem_wayL h n, z⟩))
theorem iter_ins {r : Rows} (h : Ow r) {s : Int} (hs : s ∉ met r) : ∀ n, iter (ins r s) n = ins (iter r n) s
  | 0 => rfl
  | n + 1 => by
    show Wm.jn (iter (ins r s) n) = ins (Wm.jn (iter r n)) s
    rw [iter_ins h hs n]
    exact jn_ins (h.iter n).rise (met_iter h hs n)
/-- a size that is never met is a herd of the rest -/
theorem rest_ins {r : Rows} (h : Ow r) {s : Int} (hi : Ow (ins r s)) (hs : s ∉ met r) : restL (ins r s) = ins (restL r) s := by
  rw [← iter_ge hi (Nat.le_max_left ((wayL (ins r s)).length - 1) ((wayL r).length - 1)), iter_ins h hs, iter_ge h (Nat.le_max_right _ _)]
theorem rest_met {r : Rows} (h : Ow r) {s : Int} (hs : s ∉ met r) : s ∉ keys (restL r) := met_iter h hs _
theorem ins_inj {a b : Rows} (ha : Rise a) (hb : Rise b) {s : Int} (h1 : s ∉ keys a) (h2 : s ∉ keys b) (h : ins a s = ins b s) : a = b := by
  have hk : ∀ k, k ∈ keys a ↔ k ∈ keys b := fun k => by
    have z1 := ins_keys a s k
    have z2 := ins_keys b s k
    rw [h] at z1
    constructor
    · intro m
      rcases z2.mp (z1.mpr (.inl m)) with q | q
      · exact q
      · rw [q] at m; exact absurd m h1
    · intro m
      rcases z1.mp (z2.mpr (.inl m)) with q | q
      · exact q
      · rw [q] at m; exact absurd m h2
  refine rise_ext ha hb hk fun k => ?_
  have e1 : getD (ins a s) k = getD a k + ind k s * 1 := by
    unfold ins
    rw [gath_getD, wsum_append, wsum_ind (rise_nodup ha), wsum_cons, wsum_nil]
    show _ + (ind k s * 1 + 0) = _
    omega
  have e2 : getD (ins b s) k = getD b k + ind k s * 1 := by
    unfold ins
    rw [gath_getD, wsum_append, wsum_ind (rise_nodup hb), wsum_cons, wsum_nil]
    show _ + (ind k s * 1 + 0) = _
    omega
  rw [h] at e1
  omega
/-- the rest with one herd more -/
def wone (r : Rows) (s : Int) : Rows := restL (ins r s)
/-- of two stands: at a size that none meets just the rests count -/
theorem unmet_iff {r q : Rows} (hr : Ok r) (hq : Ok q) {s : Int} (h1 : 1 ≤ s) (h2 : s ≤ 2 * bigF) (m1 : s ∉ met r) (m2 : s ∉ met q) : wone r s = wone q s ↔ restL r = restL q := by
  unfold wone
  rw [rest_ins hr.toOw (hr.ins h1 h2) m1, rest_ins hq.toOw (hq.ins h1 h2) m2]
  exact ⟨fun h => ins_inj (hr.iter _).rise (hq.iter _).rise (rest_met hr.toOw m1) (rest_met hq.toOw m2) h, fun h => by rw [h]⟩
/-- the law's way to it: a size counted up in the dict -/
theorem put_ins {r : Rows} (hr : Rise r) (s : Int) : (put r s (getD r s + 1)).mergeSort le2 = ins r s := by
  unfold ins gath
  rw [tally_snoc, tally_id (rise_nodup hr)]
theorem met_bound {r : Rows} (h : Ok r) {s : Int} (hs : s ∈ met r) : 1 ≤ s ∧ s ≤ folkP r := by
  obtain ⟨x, hx, hk⟩ := List.mem_flatMap.mp ((sset_mem _ _).mp hs)
  obtain ⟨p, hp, e⟩ := List.mem_map.mp hk
  have hok : Ow x := wayL_ok h.toOw x hx
  have hf : ∀ (r : Rows), Ow r → ∀ x ∈ wayL r, folkP x = folkP r := by
    intro r h
    induction r, h using way_ind with
    | fix r h f => intro x hx; rw [wayL_fix f] at hx; simp at hx; rw [hx]
    | step r h hn ih =>
      intro x hx
      rw [wayL_step h hn] at hx
      rcases List.mem_cons.mp hx with e | hx
      · rw [e]
      · rw [ih x hx, jn_folk]
  obtain ⟨a, b⟩ := hok.bd p hp
  have w := wsum_le (f := fun x => x) (r := x) (fun y hy => by
    obtain ⟨a, b⟩ := hok.bd y hy
    have := mul_pos1 a b
    show 0 ≤ y.1 * y.2
    omega) hp
  have w' : p.1 * p.2 ≤ folkP x := w
  have := le_mul_right a b
  rw [← hf r h.toOw x hx, ← e]
  exact ⟨a, by omega⟩
/-! the first free size -/
def freeOf : List Int → Int → Int
  | [], f => f
  | s :: l, f => freeOf l (f + if s = f then 1 else 0)
theorem free_spec : ∀ (l : List Int) (f : Int), l.Pairwise (· < ·) → f ≤ freeOf l f ∧ (∀ x, f ≤ x → x < freeOf l f → x ∈ l) ∧ ((∀ x ∈ l, f ≤ x) → freeOf l f ∉ l)
  | [], f, _ => ⟨Int.le_refl _, fun x a b => by unfold freeOf at b; omega, fun _ => by simp⟩
  | s :: l, f, h => by
    obtain ⟨h1, h2⟩ := List.pairwise_cons.mp h
    unfold freeOf
    by_cases e : s = f
    · rw [if_pos e]
      obtain ⟨i1, i2, i3⟩ := free_spec l (f + 1) h2
      refine ⟨by omega, fun x a b => ?_, fun hx => ?_⟩
      · by_cases z : x = f
        · rw [z, ← e]; simp
        · exact List.mem_cons_of_mem _ (i2 x (by omega) b)
      · have := i3 fun x hx' => by have := h1 x hx'; omega
        intro m
        rcases List.mem_cons.mp m with z | z
        · omega
        · exact this z
    · rw [if_neg e, Int.add_zero]
      obtain ⟨i1, i2, i3⟩ := free_spec l f h2
      refine ⟨i1, fun x a b => List.mem_cons_of_mem _ (i2 x a b), fun hx => ?_⟩
      have n := i3 fun x hx' => hx x (List.mem_cons_of_mem _ hx')
      intro m
      rcases List.mem_cons.mp m with z | z
      · -- s > f, and all from f to below freeOf are in l, whose least is above s
        have hs := hx s (by simp)
        have : f ∈ l := i2 f (Int.le_refl _) (by omega)
        have := h1 f this
        omega
      · exact n z
end Wm

set_option Elab.async false
set_option linter.all false
set_option maxRecDepth 100000
set_option maxHeartbeats 2000000
namespace Wm
open PySem
/-! ### dict comprehensions, plainly -/
section
variable {T T1 : Tgt} {fk fv : FE W} {own own1 : List Nat} {S S1 : Sto} {φ : Fr}
theorem put_ok {D : Nat} {k v : W} {kvs : List (W × W)} (h : S[D]? = some (.dic kvs)) (hk : (keyW k).isSome = true) (hl : kvs.length < bigL) : putO D k v S = some (S.set D (.dic (putW kvs k v))) := by
  unfold putO oSetD
  cases e : keyW k with
  | none => rw [e] at hk; cases hk
  | some kk => simp only [h]; rw [if_pos hl]
theorem mergeW_snoc (kvs m : List (W × W)) (p : W × W) : mergeW kvs (m ++ [p]) = putW (mergeW kvs m) p.1 p.2 := by
  unfold mergeW
  rw [List.foldl_append]; rfl
theorem dcIn_go {β : Type} {m : ItM} {D : Nat} (enc : β → W) (ys : List β) (gk gv : β → W) (kvs0 : List (W × W)) (hD : S1.length = D) (hw : Wk m (ys.map enc) [D] S) (hS : Kp [] S1 S) (hb : kvs0.length + ys.length ≤ bigL) (hkey : ∀ y ∈ ys, (keyW (gk y)).isSome = true)
    (h : ∀ y ∈ ys, ∀ S2, Kp [D] S S2 → ∃ φ', tgM T1 (enc y) φ = some φ' ∧ ∃ S3, fk φ' S2 = .ok (gk y) S3 ∧ Kp [] S2 S3 ∧ ∃ S4, fv φ' S3 = .ok (gv y) S4 ∧ Kp [] S3 S4) :
    ∀ (n i : Nat) (S' : Sto), ys.length - i < n → i ≤ ys.length → Kp [D] S S' → S'[D]? = some (.dic (mergeW kvs0 ((ys.take i).map fun y => (gk y, gv y)))) → ∃ S'', dcIn m T1 mYes fk fv φ D n i S' = .ok () S'' ∧ Kp [D] S S'' ∧ S''[D]? = some (.dic (mergeW kvs0 (ys.map fun y => (gk y, gv y))))
  | 0, i, S', hn, _, _, _ => absurd hn (Nat.not_lt_zero _)
  | n + 1, i, S', hn, hi, k, hat => by
    unfold dcIn
    rw [hw S' k i, List.getElem?_map]
    cases e : ys[i]? with
    | none =>
      have : i = ys.length := by
        have := List.getElem?_eq_none_iff.mp e
        omega
      subst this
      rw [List.take_length] at hat
      exact ⟨S', rfl, k, hat⟩
    | some y =>
      obtain ⟨hil, _⟩ := List.getElem?_eq_some_iff.mp e
      have hy := List.mem_of_getElem? e
      obtain ⟨φ', h1, S3, h2, h3, S4, h4, h5⟩ := h y hy S' k
      have k4 : Kp [D] S S4 := k.trans ((h3.trans h5).mono (by simp))
      have a4 := (h3.trans h5).at' _ _ (by simp) hat
      have hlen : (mergeW kvs0 ((ys.take i).map fun y => (gk y, gv y))).length < bigL := by
        have := mergeW_len ((ys.take i).map fun y => (gk y, gv y)) kvs0
        rw [List.length_map, List.length_take] at this
        omega
      simp only [Option.map_some, h1, mYes, bindN_ok, if_true, h2, h4, put_ok a4 (hkey y hy) hlen]
      refine dcIn_go enc ys gk gv kvs0 hD hw hS hb hkey h n (i + 1) _ (by omega) (by omega) (k4.trans (Kp.set (by simp))) ?_
      rw [set_at a4, List.take_succ, e, List.map_append]
      show _ = some (Ob.dic (mergeW kvs0 (((ys.take i).map fun y => (gk y, gv y)) ++ [(gk y, gv y)])))
      rw [mergeW_snoc]
theorem dcM2_go {α β : Type} {m : ItM} {it1 : FE ItM} {D : Nat} (enc : α → W) (xs : List α) (enc1 : β → W) (ys : α → List β) (gk gv : α → β → W) (hD : S1.length = D) (hw : Wk m (xs.map enc) [] S1) (hb : (xs.flatMap ys).length ≤ bigL) (hkey : ∀ x ∈ xs, ∀ y ∈ ys x, (keyW (gk x y)).isSome = true)
    (h : ∀ x ∈ xs, ∀ S2, Kp [] S1 S2 → ∃ φ', tgM T (enc x) φ = some φ' ∧ ∃ m1 S4, it1 φ' S2 = .ok m1 S4 ∧ Kp [] S2 S4 ∧ Wk m1 ((ys x).map enc1) [D] S4 ∧ (ys x).length < bigT ∧
      ∀ y ∈ ys x, ∀ S5, Kp [] S1 S5 → ∃ φ2, tgM T1 (enc1 y) (wipeF φ' own1) = some φ2 ∧ ∃ S6, fk φ2 S5 = .ok (gk x y) S6 ∧ Kp [] S5 S6 ∧ ∃ S7, fv φ2 S6 = .ok (gv x y) S7 ∧ Kp [] S6 S7) :
    ∀ (n i : Nat) (S' : Sto), xs.length - i < n → i ≤ xs.length → Kp [] S1 S' → S'[D]? = some (.dic (mergeW [] ((xs.take i).flatMap fun x => (ys x).map fun y => (gk x y, gv x y)))) →
      ∃ S'', dcM2 m T mYes own1 it1 T1 mYes fk fv φ D n i S' = .ok (.ref D) S'' ∧ Kp [] S1 S'' ∧ S''[D]? = some (.dic (mergeW [] (xs.flatMap fun x => (ys x).map fun y => (gk x y, gv x y))))
  | 0, i, S', hn, _, _, _ => absurd hn (Nat.not_lt_zero _)
  | n + 1, i, S', hn, hi, k, hat => by
    unfold dcM2
    rw [hw S' k i, List.getElem?_map]
    cases e : xs[i]? with
    | none =>
      have : i = xs.length := by
        have := List.getElem?_eq_none_iff.mp e
        omega
      subst this
      rw [List.take_length] at hat
      exact ⟨S', rfl, k, hat⟩
    | some x =>
      obtain ⟨hil, _⟩ := List.getElem?_eq_some_iff.mp e
      have hx := List.mem_of_getElem? e
      obtain ⟨φ', h1, m1, S4, g0, g1, g2, g3, g4⟩ := h x hx S' k
      have k4 := k.trans g1
      have a4 := g1.at' _ _ (by simp) hat
      have hlen : (mergeW [] ((xs.take i).flatMap fun x => (ys x).map fun y => (gk x y, gv x y))).length + (ys x).length ≤ bigL := by
        have hx2 : xs = xs.take i ++ x :: xs.drop (i + 1) := by
          conv => lhs; rw [← List.take_append_drop i xs]
          congr 1
          have e' : xs[i] = x := by
            rw [List.getElem?_eq_getElem hil] at e
            exact Option.some.inj e
          rw [List.drop_eq_getElem_cons hil, e']
        have l1 := mergeW_len ((xs.take i).flatMap fun x => (ys x).map fun y => (gk x y, gv x y)) []
        have l2 : ((xs.take i).flatMap fun x => (ys x).map fun y => (gk x y, gv x y)).length = ((xs.take i).flatMap ys).length := by
          generalize xs.take i = l
          induction l with
          | nil => rfl
          | cons a l ih => rw [List.flatMap_cons, List.flatMap_cons, List.length_append, List.length_append, List.length_map, ih]
        have h6 : (xs.flatMap ys).length = ((xs.take i).flatMap ys).length + ((ys x).length + ((xs.drop (i + 1)).flatMap ys).length) := by
          conv => lhs; rw [hx2]
          rw [List.flatMap_append, List.length_append, List.flatMap_cons, List.length_append]
        rw [List.length_nil] at l1
        omega
      obtain ⟨S5, b1, b2, b3⟩ := dcIn_go (S := S4) (S1 := S1) (D := D) (T1 := T1) (fk := fk) (fv := fv) (φ := wipeF φ' own1) enc1 (ys x) (gk x) (gv x) _ hD g2 k4 hlen (hkey x hx) (fun y hy S2 k2 => g4 y hy S2 (k4.fresh k2 fun m hm => .inr (by simp at hm; omega))) bigT 0 S4 (by omega) (Nat.zero_le _) (Kp.refl _ _) (by simpa [mergeW] using a4)
      simp only [Option.map_some, h1, mYes, bindN_ok, if_true, g0]
      simp only [b1, bindN_ok]
      refine dcM2_go enc xs enc1 ys gk gv hD hw hb hkey h n (i + 1) S5 (by omega) (by omega) (k4.fresh b2 fun m hm => .inr (by simp at hm; omega)) ?_
      rw [b3, List.take_succ, e, List.flatMap_append]
      simp [mergeW]
theorem dcomp2_grow {α β : Type} {m : ItM} {it it1 : FE ItM} (enc : α → W) (xs : List α) (enc1 : β → W) (ys : α → List β) (gk gv : α → β → W) (hit : it φ S = .ok m S1) (hw : Wk m (xs.map enc) [] S1) (hx : xs.length < bigT) (hb : (xs.flatMap ys).length ≤ bigL) (hkey : ∀ x ∈ xs, ∀ y ∈ ys x, (keyW (gk x y)).isSome = true)
    (h : ∀ x ∈ xs, ∀ S2, Kp [] S1 S2 → ∃ φ', tgM T (enc x) (wipeF φ own) = some φ' ∧ ∃ m1 S4, it1 φ' S2 = .ok m1 S4 ∧ Kp [] S2 S4 ∧ Wk m1 ((ys x).map enc1) [S1.length] S4 ∧ (ys x).length < bigT ∧
      ∀ y ∈ ys x, ∀ S5, Kp [] S1 S5 → ∃ φ2, tgM T1 (enc1 y) (wipeF φ' own1) = some φ2 ∧ ∃ S6, fk φ2 S5 = .ok (gk x y) S6 ∧ Kp [] S5 S6 ∧ ∃ S7, fv φ2 S6 = .ok (gv x y) S7 ∧ Kp [] S6 S7) :
    ∃ S', mDComp2 own own1 it T mYes it1 T1 mYes fk fv φ S = .ok (.ref S1.length) S' ∧ Kp [] S1 S' ∧ S'[S1.length]? = some (.dic (mergeW [] (xs.flatMap fun x => (ys x).map fun y => (gk x y, gv x y)))) := by
  unfold mDComp2
  rw [hit, Out.bind_ok]
  exact dcM2_go enc xs enc1 ys gk gv rfl hw hb hkey h bigT 0 _ (by omega) (Nat.zero_le _) (Kp.push _ _ _) (by simp [mergeW])
end
/-! keys that are numbers, each with True -/
def encT (d : List Int) : List (W × W) := d.map fun k => (.int k, .bl true)
def addI (d : List Int) (k : Int) : List Int := if k ∈ d then d else d ++ [k]
theorem put_encT (d : List Int) (k : Int) : putW (encT d) (.int k) (.bl true) = encT (addI d k) := by
  have ha : ((encT d).any fun p => weq p.1 (.int k)) = decide (k ∈ d) := by
    unfold encT
    rw [List.any_map]
    induction d with
    | nil => simp
    | cons a d ih =>
      rw [List.any_cons, ih]
      show ((decide (a = k) : Bool) || _) = _
      by_cases h : a = k
      · subst h; simp
      · have h2 : ¬ k = a := fun z => h z.symm
        simp [h, h2]
  unfold putW addI
  rw [ha]
  by_cases h : k ∈ d
  · rw [if_pos (decide_eq_true h), if_pos h]
    unfold encT
    rw [List.map_map]
    refine List.map_congr_left fun p _ => ?_
    show (if weq (W.int p) (.int k) = true then (W.int p, W.bl true) else (W.int p, W.bl true)) = _
    split <;> rfl
  · rw [if_neg (by simp [h]), if_neg h]
    unfold encT
    rw [List.map_append]; rfl
theorem merge_encT : ∀ (l d : List Int), mergeW (encT d) (l.map fun k => (W.int k, W.bl true)) = encT (l.foldl addI d)
  | [], d => rfl
  | k :: l, d => by
    show mergeW (putW (encT d) (.int k) (.bl true)) (l.map fun k => (W.int k, W.bl true)) = _
    rw [put_encT, merge_encT l]; rfl
theorem adds_ok : ∀ (l d : List Int), d.Nodup → (l.foldl addI d).Nodup ∧ ∀ k, k ∈ l.foldl addI d ↔ k ∈ d ∨ k ∈ l
  | [], d, h => ⟨h, fun k => by simp⟩
  | a :: l, d, h => by
    have hn : (addI d a).Nodup := by
      unfold addI
      split
      · exact h
      · rename_i ha
        rw [List.nodup_append]
        exact ⟨h, by simp, fun x hx y hy e => by
          have : y = a := by simpa using hy
          subst this; subst e
          exact ha hx⟩
    have hm : ∀ k, k ∈ addI d a ↔ k ∈ d ∨ k = a := fun k => by
      unfold addI
      split
      · rename_i ha
        constructor
        · exact .inl
        · rintro (z | z)
          · exact z
          · rw [z]; exact ha
      · simp
    obtain ⟨i1, i2⟩ := adds_ok l (addI d a) hn
    refine ⟨i1, fun k => ?_⟩
    show k ∈ l.foldl addI (addI d a) ↔ _
    rw [i2, hm, List.mem_cons, or_assoc]
theorem keyInts_encT (d : List Int) : keyInts (encT d) = some d := by
  induction d with
  | nil => rfl
  | cons a d ih =>
    show (keyInts (encT d)).map (a :: ·) = _
    rw [ih]; rfl
theorem leI_sorted (l : List Int) : (l.mergeSort leI).Pairwise (· ≤ ·) := by
  refine (List.pairwise_mergeSort (fun a b c h1 h2 => ?_) (fun a b => ?_) _).imp fun {a b} h => of_decide_eq_true h
  · have h1 := of_decide_eq_true h1
    have h2 := of_decide_eq_true h2
    exact decide_eq_true (by omega)
  · rw [Bool.or_eq_true]
    show decide (a ≤ b) = true ∨ decide (b ≤ a) = true
    rw [decide_eq_true_eq, decide_eq_true_eq]; omega
theorem sort_adds (l : List Int) : (l.foldl addI []).mergeSort leI = ssetI l := by
  obtain ⟨a, b⟩ := adds_ok l [] List.nodup_nil
  refine sset_is (L2.lt_of_le_nodup _ (leI_sorted _) ((List.mergeSort_perm _ _).nodup_iff.mpr a)) fun k => ?_
  rw [(List.mergeSort_perm _ _).mem_iff, b]
  simp
theorem sort_dict {S : Sto} {n : Nat} {l : List Int} (h : S[n]? = some (.dic (mergeW [] (l.map fun k => (W.int k, W.bl true))))) (hl : l.length ≤ bigL) : oSort [.ref n] S = some (.ref S.length, S ++ [.lst ((ssetI l).map W.int)]) := by
  have h1 : oSortL [.ref n] S = none := by
    unfold oSortL
    simp only [asQ, asL, h]
    rfl
  have hm : mergeW [] (l.map fun k => (W.int k, W.bl true)) = encT (l.foldl addI []) := merge_encT l []
  have hlen : (ssetI l).length ≤ bigL := by
    unfold ssetI
    rw [List.length_mergeSort]
    refine Nat.le_trans ?_ hl
    clear h hm h1
    induction l with
    | nil => exact Nat.le_refl _
    | cons a l ih =>
      have := ih (by rw [List.length_cons] at hl; omega)
      unfold onceI
      split
      · rw [List.length_cons]; omega
      · rw [List.length_cons, List.length_cons]; omega
  unfold oSort orC
  rw [h1]
  dsimp only
  unfold oSortD
  simp only [h]
  rw [hm, keyInts_encT]
  dsimp only
  rw [sort_adds, lstO_ok (by rw [List.length_map]; exact hlen)]
end Wm

set_option Elab.async false
set_option linter.all false
set_option maxRecDepth 100000
set_option maxHeartbeats 2000000
namespace Wm
open PySem
/-! ### sorted, of numbers -/
theorem keyed_ints (S : Sto) : ∀ ns : List Int, keyed S (ns.map W.int) = some (ns.map fun n => (W.int n, PyData.int n))
  | [] => rfl
  | n :: ns => by
    show (match dat S (.int n), keyed S (ns.map W.int) with | some d, some r => some ((W.int n, d) :: r) | _, _ => none) = _
    rw [dat_int, keyed_ints S ns]
    rfl
theorem sortable_ints (ns : List Int) : sortable (ns.map PyData.int) = true := by
  unfold sortable
  rw [Bool.and_eq_true, Bool.and_eq_true, Bool.or_eq_true]
  refine ⟨⟨List.all_eq_true.mpr fun d hd => List.all_eq_true.mpr fun e he => ?_, .inr (List.all_eq_true.mpr fun d hd => ?_)⟩, List.all_eq_true.mpr fun d hd => ?_⟩
  · obtain ⟨a, _, rfl⟩ := List.mem_map.mp hd
    obtain ⟨b, _, rfl⟩ := List.mem_map.mp he
    simp [PySem.W.alike]
  · obtain ⟨a, _, rfl⟩ := List.mem_map.mp hd
    rfl
  · obtain ⟨a, _, rfl⟩ := List.mem_map.mp hd
    simp [PyData.depth]
theorem sort_ints {S : Sto} {x : W} {ns : List Int} (h : asQ S x = some (false, ns.map W.int)) (hl : ns.length ≤ bigL) : oSort [x] S = some (.ref S.length, S ++ [.lst ((ns.mergeSort leI).map W.int)]) := by
  have e : sortW S (ns.map W.int) = some ((ns.mergeSort leI).map W.int) := by
    unfold sortW
    rw [keyed_ints]
    dsimp only
    rw [List.map_map, show ((fun x : W × PyData => x.2) ∘ fun n => (W.int n, PyData.int n)) = PyData.int from rfl, if_pos (sortable_ints ns)]
    congr 1
    unfold sortP
    have hm : (ns.map fun n => (W.int n, PyData.int n)).mergeSort (PySem.W.dataLe false (·.2)) = (ns.mergeSort leI).map fun n => (W.int n, PyData.int n) := by
      refine (PySem.W.sort_maps (r := leI) (s := PySem.W.dataLe false (·.2)) (fun n : Int => (W.int n, PyData.int n)) fun a _ b _ => ?_).symm
      have := congrFun (congrFun (PySem.W.dataLe_int (β := Int) fun b => b) a) b
      exact this.symm
    rw [hm, List.map_map]
    rfl
  unfold oSort orC oSortL
  simp only [h, e]
  rw [lstO_ok (by rw [List.length_map, List.length_mergeSort]; exact hl)]
end Wm

set_option Elab.async false
set_option linter.all false
set_option maxRecDepth 100000
set_option maxHeartbeats 2000000
namespace Wm
open PySem

section
variable {m : ItM} {T : Tgt} {c : FE Bool} {f : FE W} {d own : List Nat} {S S1 : Sto} {φ : Fr}
/-- a comprehension that makes a list anew for each -/
theorem comp_refs {α : Type} {it : FE ItM} (enc : α → W) (xs : List α) (g : α → List W) (hit : it φ S = .ok m S1) (hw : Wk m (xs.map enc) [] S1) (hl : xs.length < bigT)
    (h : ∀ x ∈ xs, ∀ S2, Kp [] S1 S2 → ∃ φ', tgM T (enc x) (wipeF φ own) = some φ' ∧ ∃ S4 n, f φ' S2 = .ok (.ref n) S4 ∧ S2.length ≤ n ∧ S4[n]? = some (.lst (g x)) ∧ Kp [] S2 S4) :
    ∃ (S' : Sto) (ns : List Nat), mComp own it T mYes f φ S = .ok (.ref S1.length) S' ∧ Kp [] S1 S' ∧ S'[S1.length]? = some (.lst (ns.map .ref)) ∧ ns.length = xs.length ∧ ∀ (i : Nat) x n, xs[i]? = some x → ns[i]? = some n → S'[n]? = some (.lst (g x)) := by
  obtain ⟨acc, S', h1, h2, h3, ns, e1, e2, e3⟩ := comp_inv (own := own) (T := T) (c := mYes) (f := f) (φ := φ) (l := xs.map enc) (d := []) (fun i acc S2 => ∃ ns : List Nat, acc = ns.map .ref ∧ ns.length = i ∧ ∀ (j : Nat) x n, xs[j]? = some x → ns[j]? = some n → n ≠ S1.length ∧ S2[n]? = some (.lst (g x)))
    hit hw (by rw [List.length_map]; exact hl) (by simp) ⟨[], rfl, rfl, by simp⟩ (fun i y acc S2 e k hat ⟨ns, q1, q2, q3⟩ => by
      rw [List.getElem?_map] at e
      obtain ⟨x, e2, ey⟩ := Option.map_eq_some_iff.mp e
      subst ey
      obtain ⟨φ', a1, S4, n, a2, a3, a4, a5⟩ := h x (List.mem_of_getElem? e2) S2 k
      have hD : S1.length < S2.length := (List.getElem?_eq_some_iff.mp hat).1
      refine ⟨φ', a1, true, S2, rfl, (fun z => nomatch z), fun _ => ⟨_, S4, a2, k.trans a5, a5.at' _ _ (by simp) hat, ns ++ [n], by rw [q1, List.map_append]; rfl, by simp [q2], fun j x' n' hj hn => ?_⟩⟩
      by_cases hji : j < i
      · rw [List.getElem?_append_left (by omega)] at hn
        obtain ⟨z1, z2⟩ := q3 j x' n' hj hn
        exact ⟨z1, by rw [set_off z1]; exact a5.at' _ _ (by simp) z2⟩
      · have hl' : j < (ns ++ [n]).length := (List.getElem?_eq_some_iff.mp hn).1
        rw [List.length_append] at hl'
        simp only [List.length_cons, List.length_nil] at hl'
        have ej : j = i := by omega
        subst ej
        rw [List.getElem?_append_right (by omega), q2, Nat.sub_self] at hn
        have : n = n' := by simpa using hn
        subst this
        rw [e2] at hj
        cases hj
        exact ⟨by omega, by rw [set_off (by omega)]; exact a4⟩)
  rw [List.length_map] at e2
  subst e1
  exact ⟨S', ns, h1, h2, h3, e2, fun i x n a b => (e3 i x n a b).2⟩
theorem mapO_refs {S : Sto} : ∀ {ns : List Nat} {ls : List (List W)}, ns.length = ls.length → (∀ (i : Nat) l n, ls[i]? = some l → ns[i]? = some n → S[n]? = some (.lst l)) → mapO (asL S) (ns.map .ref) = some ls
  | [], [], _, _ => rfl
  | [], _ :: _, h, _ => by simp at h
  | _ :: _, [], h, _ => by simp at h
  | n :: ns, l :: ls, h, e => by
    have h1 : asL S (.ref n) = some l := ref_l (e 0 l n rfl rfl)
    have h2 := mapO_refs (ns := ns) (ls := ls) (by simpa using h) fun i l' n' a b => e (i + 1) l' n' (by simpa using a) (by simpa using b)
    rw [List.map_cons]
    unfold mapO
    rw [h1, h2]
/-- sum of lists that were made one by one -/
theorem sumL_ev {S : Sto} {a b : Nat} {ns : List Nat} {ls : List (List W)} (ha : S[a]? = some (.lst (ns.map .ref))) (hb : S[b]? = some (.lst [])) (hl : ns.length = ls.length) (hn : ns ≠ []) (e : ∀ (i : Nat) l n, ls[i]? = some l → ns[i]? = some n → S[n]? = some (.lst l)) (hz : ls.flatten.length ≤ bigL) :
    oSumL [.ref a, .ref b] S = some (.ref S.length, S ++ [.lst ls.flatten]) := by
  unfold oSumL
  simp only [ref_l ha, ref_l hb, mapO_refs hl e]
  have : (ns.map W.ref).isEmpty = false := by
    cases ns with
    | nil => exact absurd rfl hn
    | cons _ _ => rfl
  rw [this, if_neg (by decide), List.nil_append]
  exact lstO_ok hz
end
/-- all sizes on the way, each stand's -/
theorem flat_tri {r : Rows} (h : Ow r) : 2 * ((wayL r).flatMap keys).length ≤ r.length * (r.length + 1) + 2 * r.length := by
  induction r, h using way_ind with
  | fix r h f =>
    rw [wayL_fix f]
    have : ((([r] : List Rows)).flatMap keys).length = r.length := by simp [keys]
    rw [this]
    omega
  | step r h hn ih =>
    have hp : 1 ≤ r.length := List.length_pos_iff.mpr h.ne
    have hk : (keys r).length = r.length := by unfold keys; rw [List.length_map]
    rw [wayL_step h hn, List.flatMap_cons, List.length_append, hk]
    by_cases f : Wm.jn (Wm.jn r) = Wm.jn r
    · rw [wayL_fix f]
      have e : ((([Wm.jn r] : List Rows)).flatMap keys).length = (Wm.jn r).length := by simp [keys]
      rw [e]
      have := jn_len r
      have : r.length * (r.length + 1) ≥ 2 * r.length := by
        rw [Nat.mul_comm 2]
        exact Nat.mul_le_mul_left _ (by omega)
      omega
    · have lt := mu_lt h hn
      have m1 : mu r = r.length + 1 := by unfold mu; rw [if_neg hn]
      have m2 : mu (Wm.jn r) = (Wm.jn r).length + 1 := by unfold mu; rw [if_neg f]
      obtain ⟨n, hn'⟩ : ∃ n, r.length = n + 1 := ⟨r.length - 1, by omega⟩
      have hle : (Wm.jn r).length ≤ n := by omega
      have h1 : (Wm.jn r).length * ((Wm.jn r).length + 1) ≤ n * (n + 1) := Nat.mul_le_mul hle (by omega)
      have h2 : (n + 1) * (n + 1 + 1) = n * (n + 1) + 2 * (n + 1) := by
        rw [Nat.mul_comm (n + 1) (n + 1 + 1), show n + 1 + 1 = n + 2 from rfl, Nat.add_mul]
      rw [hn', h2]
      omega
theorem flat_860 {r : Rows} (h : Ow r) (hl : r.length ≤ 40) : ((wayL r).flatMap keys).length ≤ 860 := by
  have := flat_tri h
  have h2 : r.length * (r.length + 1) ≤ 40 * 41 := Nat.mul_le_mul hl (by omega)
  omega
end Wm

set_option Elab.async false
set_option linter.all false
set_option maxRecDepth 100000
set_option maxHeartbeats 3200000
namespace Wm
open PySem PySem.Spec PyProof.Rows L2 HotX

/-! ### the name of a refusal, as the law writes it -/
def mIs (a : Addr) (i j : Nat) : FE W := mIsE 0 a (decide (i = j))
def kinNames : List Str := ["NoStand", "NoCount", "NoHerds", "NoFirst", "NoWish", "NotSmall", "Full", "TooMany", "+"]
def mStrs : List Str → FE (List W)
  | [] => mNil
  | x :: r => mCons (mC (.str x)) (mStrs r)
def b_kin (a : Addr) (i : Nat) : SM :=
  mSeq (mSet 1 (mLst (mCons (mIs a i 1) (mCons (mIs a i 2) (mCons (mIs a i 3) (mCons (mIs a i 4) mNil))))))
  (mSeq (mSet 1 (mBin oAdd (mVar 1) (mLst (mCons (mIs a i 5) (mCons (mIs a i 6) (mCons (mIs a i 7) mNil))))))
  (mSeq (mSet 1 (mBin oAdd (mVar 1) (mLst (mCons (mIs a i 8) (mCons (mIsE 0 a true) mNil)))))
  (mSeq (mSet 2 (mLst (mStrs kinNames)))
  (mRet (mJoin "" (mPick (mCons (mVar 2) (mCons (mVar 1) mNil))))))))
def kinBits (i : Nat) : List Bool := [decide (i = 1), decide (i = 2), decide (i = 3), decide (i = 4), decide (i = 5), decide (i = 6), decide (i = 7), decide (i = 8), true]
def kinName (i : Nat) : Str := Txt.join "" (pick kinNames (kinBits i))
def kinJunk (i : Nat) : Sto := [.lst (((kinBits i).take 4).map .bl), .lst ((((kinBits i).drop 4).take 3).map .bl), .lst (((kinBits i).take 7).map .bl), .lst (((kinBits i).drop 7).map .bl), .lst ((kinBits i).map .bl), .lst (kinNames.map .str), .lst (pick (kinNames.map .str) (kinBits i))]
theorem pick_map {α β : Type} (f : α → β) : ∀ (xs : List α) (bs : List Bool), pick (xs.map f) bs = (pick xs bs).map f
  | [], bs => by rw [List.map_nil, pick_nil, pick_nil]; rfl
  | x :: xs, [] => by rw [pick_nil2, pick_nil2]; rfl
  | x :: xs, b :: bs => by
    rw [List.map_cons, pick_cons, pick_cons, pick_map f xs bs]
    split <;> rfl
theorem strsOf_map (xs : List Str) : strsOf (xs.map W.str) = some xs := by
  induction xs with
  | nil => rfl
  | cons a r ih => rw [List.map_cons, strsOf, ih]; rfl
theorem kin_eval (a : Addr) (i : Nat) (hi : 1 ≤ i) (hi7 : i ≤ 7) (S : Sto) : b_kin a i [some (.fn a), none, none] S = .rt (.str (kinName i)) (S ++ kinJunk i) := by
  have is : ∀ (φ : Fr) (b : Bool) (S : Sto), mIsE 0 a b (some (.fn a) :: φ) S = .ok (.bl b) S := fun φ b S => by
    unfold mIsE
    simp
  have b10 : (10 : Nat) ≤ bigL := by decide
  generalize hS1 : S ++ [.lst (((kinBits i).take 4).map .bl)] = S1
  have l1 : lstO (((kinBits i).take 4).map .bl) S = some (.ref S.length, S1) := by rw [lstO_ok (Nat.le_trans (by simp [kinBits]) b10), hS1]
  have a1 : S1[S.length]? = some (.lst (((kinBits i).take 4).map .bl)) := by rw [← hS1]; exact at_new _ _
  generalize hS2 : S1 ++ [.lst ((((kinBits i).drop 4).take 3).map .bl)] = S2
  have l2 : lstO ((((kinBits i).drop 4).take 3).map .bl) S1 = some (.ref S1.length, S2) := by rw [lstO_ok (Nat.le_trans (by simp [kinBits]) b10), hS2]
  have a2 : S2[S1.length]? = some (.lst ((((kinBits i).drop 4).take 3).map .bl)) := by rw [← hS2]; exact at_new _ _
  have k2 : Kp [] S1 S2 := by rw [← hS2]; exact Kp.push _ _ _
  generalize hS3 : S2 ++ [.lst (((kinBits i).take 7).map .bl)] = S3
  have l3 : oAdd (.ref S.length) (.ref S1.length) S2 = some (.ref S2.length, S3) := by
    rw [add_ll (ref_l (k2.at' _ _ (by simp) a1)) (ref_l a2) (Nat.le_trans (by simp [kinBits]) b10), ← hS3]
    rfl
  have a3 : S3[S2.length]? = some (.lst (((kinBits i).take 7).map .bl)) := by rw [← hS3]; exact at_new _ _
  generalize hS4 : S3 ++ [.lst (((kinBits i).drop 7).map .bl)] = S4
  have l4 : lstO (((kinBits i).drop 7).map .bl) S3 = some (.ref S3.length, S4) := by rw [lstO_ok (Nat.le_trans (by simp [kinBits]) b10), hS4]
  have a4 : S4[S3.length]? = some (.lst (((kinBits i).drop 7).map .bl)) := by rw [← hS4]; exact at_new _ _
  have k4 : Kp [] S3 S4 := by rw [← hS4]; exact Kp.push _ _ _
  generalize hS5 : S4 ++ [.lst ((kinBits i).map .bl)] = S5
  have l5 : oAdd (.ref S2.length) (.ref S3.length) S4 = some (.ref S4.length, S5) := by
    rw [add_ll (ref_l (k4.at' _ _ (by simp) a3)) (ref_l a4) (Nat.le_trans (by simp [kinBits]) b10), ← hS5]
    rfl
  have a5 : S5[S4.length]? = some (.lst ((kinBits i).map .bl)) := by rw [← hS5]; exact at_new _ _
  generalize hS6 : S5 ++ [.lst (kinNames.map .str)] = S6
  have l6 : lstO (kinNames.map .str) S5 = some (.ref S5.length, S6) := by rw [lstO_ok (Nat.le_trans (by decide : 9 ≤ 10) b10), hS6]
  have a6 : S6[S5.length]? = some (.lst (kinNames.map .str)) := by rw [← hS6]; exact at_new _ _
  have k6 : Kp [] S5 S6 := by rw [← hS6]; exact Kp.push _ _ _
  generalize hS7 : S6 ++ [.lst (pick (kinNames.map .str) (kinBits i))] = S7
  have l7 : lstO (pick (kinNames.map .str) (kinBits i)) S6 = some (.ref S6.length, S7) := by
    rw [lstO_ok (Nat.le_trans (Nat.le_trans (pick_len _ _) (by decide : 9 ≤ 10)) b10), hS7]
  have a7 : S7[S6.length]? = some (.lst ((pick kinNames (kinBits i)).map .str)) := by rw [← hS7, ← pick_map]; exact at_new _ _
  have e7 : S7 = S ++ kinJunk i := by
    rw [← hS7, ← hS6, ← hS5, ← hS4, ← hS3, ← hS2, ← hS1]
    simp [kinJunk]
  have hsz : ((pick kinNames (kinBits i)).map (·.length)).sum + (pick kinNames (kinBits i)).length * ("" : Str).length ≤ 16777216 := by
    have : ∀ i, i < 8 → ((pick kinNames (kinBits i)).map (·.length)).sum + (pick kinNames (kinBits i)).length * ("" : Str).length ≤ 16777216 := by decide
    exact this i (by omega)
  have l1' : lstO [.bl (decide (i = 1)), .bl (decide (i = 2)), .bl (decide (i = 3)), .bl (decide (i = 4))] S = some (.ref S.length, S1) := l1
  have l2' : lstO [.bl (decide (i = 5)), .bl (decide (i = 6)), .bl (decide (i = 7))] S1 = some (.ref S1.length, S2) := l2
  have l4' : lstO [.bl (decide (i = 8)), .bl true] S3 = some (.ref S3.length, S4) := l4
  have ms : ∀ (φ : Fr) (S : Sto) (l : List Str), mStrs l φ S = .ok (l.map .str) S := fun φ S l => by
    induction l with
    | nil => rfl
    | cons x r ih =>
      have e : mStrs (x :: r) φ S = (mStrs r φ S).bind fun ws S2 => .ok (.str x :: ws) S2 := rfl
      rw [e, ih]
      rfl
  have hp : mPick (mCons (mVar 2) (mCons (mVar 1) mNil)) [some (.fn a), some (.ref S4.length), some (.ref S5.length)] S6 = .ok (.ref S6.length) S7 := by
    unfold mPick
    simp only [mFn, mCall, chk, mSeq, mRet, mRetN, mNext, mSet, mDrop, mIfS, mIf, mPar, mTg, mAug, mCB, mCons, mNil, mBin, mChain, mTest, bOf, mAndT, mOrT, mNotT, mAnd, mOr, mNot, mNeg, mVar, mC, mTup, mLst, mYes, mItQ, mItR1, mItR2, mItE, mItZ, mRaise, mIsi, mMt, mDNew, mStore, mGet2, mSl, mPart, bindS_ok, bindS_ex, bindS_bad, Out.bind_ok, Out.bind_ex, Out.bind_bad, ofO_some, ofO_none, List.map_cons, List.map_nil, List.replicate, List.cons_append, List.nil_append, List.append_nil, List.getElem?_cons_zero, List.getElem?_cons_succ, List.set_cons_zero, List.set_cons_succ, List.length_cons, List.length_nil, List.length_append, List.length_map, wipeF, setAll, tgM, if_true, if_false, Bool.not_true, Bool.not_false, Nat.zero_add, reduceCtorEq, Bool.false_eq_true, ref_l a6, ref_l (k6.at' _ _ (by simp) a5), blsOf_map]
    rw [if_pos (show kinNames.length = (kinBits i).length from rfl), l7]
    rfl
  unfold b_kin
  simp only [mFn, mCall, chk, mSeq, mRet, mRetN, mNext, mSet, mDrop, mIfS, mIf, mPar, mTg, mAug, mCB, mCons, mNil, mBin, mChain, mTest, bOf, mAndT, mOrT, mNotT, mAnd, mOr, mNot, mNeg, mVar, mC, mTup, mLst, mYes, mItQ, mItR1, mItR2, mItE, mItZ, mRaise, mIsi, mMt, mDNew, mStore, mGet2, mSl, mPart, bindS_ok, bindS_ex, bindS_bad, Out.bind_ok, Out.bind_ex, Out.bind_bad, ofO_some, ofO_none, List.map_cons, List.map_nil, List.replicate, List.cons_append, List.nil_append, List.append_nil, List.getElem?_cons_zero, List.getElem?_cons_succ, List.set_cons_zero, List.set_cons_succ, List.length_cons, List.length_nil, List.length_append, List.length_map, wipeF, setAll, tgM, if_true, if_false, Bool.not_true, Bool.not_false, Nat.zero_add, reduceCtorEq, Bool.false_eq_true, mIs, is, l1', l2', l3, l4', l5, ms, l6]
  unfold mJoin
  rw [hp, Out.bind_ok]
  simp only [ref_l a7, strsOf_map]
  rw [if_pos hsz, ← e7]
  rfl
end Wm

set_option Elab.async false
set_option linter.all false
set_option maxRecDepth 100000
set_option maxHeartbeats 3200000
namespace Wm
open PySem PySem.Spec PyProof.Rows L2 HotX

/-! ### the def that names a refusal, called where the refusal is handled -/
abbrev kinN : List Str := ["e", "kinds_met", "names"]
abbrev kinCx (P : Program) (w : World) (K : PySem.W.Frag) (mg : Str → Option Value) (base : Heap) (qual : Str) (sc : Scope) (f : Addr) (cdv : Value) (A : Around) (outer : List Env) (s : Shared) (H : Hp) (E : XK) (p : Addr × Obj) : Cx :=
  L2H.cxH (L2N.CX P w) P w K mg base kinN qual sc f cdv A outer s H E p
/-- f names the refusal p of the class E i -/
def KinFn (P : Program) (w : World) (K : PySem.W.Frag) (mg : Str → Option Value) (base : Heap) (k : Nat) (x : Str) (E : Nat → Addr) : Prop :=
  ∃ f, mg x = some (.ref f) ∧ PySem.W.keepIn K (.ref f) = true ∧ ∀ (A : Around) (outer : List Env) (s : Shared) (H : Hp) (p : Addr × Obj) (i : Nat) (Q : VK) (EE : XK) (ρ : List Addr) (S : Sto), L2H.RoomH k A → L2H.Hot1 A p → L2H.PinOk outer H s p → Env0 P w K mg base A outer s H →
    1 ≤ i → i ≤ 7 → Zc (.ref (E i)) none p.2 → (∃ vs, p.2.data = .fields vs) → SW K ρ H S → (∀ ρ' H', Ext ρ H ρ' H' → SW K ρ' H' (S ++ kinJunk i) → Q (.str (kinName i)) H') →
    codeAny (model P w) A (.call (.ref f) ⟨[.ref p.1], []⟩) (CR (L2N.CX P w) outer P w H s Q EE) s
theorem kin_mk {P : Program} {w : World} {K : PySem.W.Frag} {mg : Str → Option Value} {base : Heap} {k : Nat} {x qual : Str} {st : Stmt} {f : Addr} {fd : FuncData} {E : Nat → Addr} (F : Fun K x qual st f fd) (hmg : mg x = some (.ref f)) (b : Binds K fd ["e"] []) (S : FnScope kinN ["e"] (defScope st))
    (hb : ∀ (cdv : Value) (A : Around) (outer : List Env) (s : Shared) (H : Hp) (EE : XK) (p : Addr × Obj) (i : Nat), HotP (kinCx P w K mg base qual (defScope st) f cdv A outer s H EE p) p → 1 ≤ i → i ≤ 7 → Zc (.ref (E i)) none p.2 → (∃ vs, p.2.data = .fields vs) →
      SSs (kinCx P w K mg base qual (defScope st) f cdv A outer s H EE p) W0 (defBody st) (b_kin p.1 i)) : KinFn P w K mg base (k + 1) x E := by
  refine ⟨f, hmg, F.kp, fun A outer s H p i Q EE ρ S0 hr hot hpin e0 h1 h7 hz hf sw hq => ?_⟩
  obtain ⟨oc, od, kV, doc, pm, an, cdv, ct, osl, rfl, lk, hcd⟩ := F.ex
  have kin : K.In s.heap := e0.mod.kin.keeps fun b o e => (e0.bs b o e).1
  have lim : s.heap.NoLimit := e0.mod.nolimit.keeps fun b o e => (e0.bs b o e).1
  have bind := b s [.ref p.1] kin rfl
  rw [List.append_nil] at bind
  have kinds : ∀ y ∈ (["e"] : List Str).zip [Value.ref p.1], (defScope st).names.lookup y.1 = some .local ∨ ((defScope st).names.lookup y.1 = some .cell ∧ ((cellsFrom (s.heap.objs.size + 1) (defScope st).names []).lookup y.1).isSome = true) := fun ⟨n, v⟩ hy =>
    (S.par n (List.of_mem_zip hy).1).imp id fun q => ⟨q, PySem.W.cellsFrom_some _ _ _ (.inl q)⟩
  refine codeAny_call_function hr.depth (kin _ _ lk) rfl S.co S.gen rfl (PySem.W.codeRec_of kin hcd) (bind _ _ _ _ ?_)
  refine wpAny_newFunctionEnv_cells S.kind kinds fun env he s1 hx => ?_
  subst he
  refine ⟨lim.keeps hx.toInCall.keep, codeAny_func ?_⟩
  have rv : Vals [V.ref p.1] [Value.ref p.1] := .cons rfl .nil
  have J : Inv (kinCx P w K mg base qual (defScope st) f cdv A outer s H EE p) [] (L2.start kinN [.ref p.1]) H s1 := L2H.inv_startH S hpin e0 rfl rv hx
  have hp : HotP (kinCx P w K mg base qual (defScope st) f cdv A outer s H EE p) p := ⟨⟨hot.1, hot.2⟩, List.mem_singleton.mpr rfl⟩
  have fr : FW K ρ H (L2.start kinN [.ref p.1]) [some (.fn p.1), none, none] := ⟨rfl, fun j w hj => by
    match j, hj with
    | 0, hj => cases hj; exact ⟨.ref p.1, rfl, .fn _⟩
    | 1, hj => cases hj
    | 2, hj => cases hj
    | j + 3, hj => simp at hj⟩
  refine wpAny_mono ((hb cdv A outer s H EE p i hp h1 h7 hz hf).run [] s1 _ H { nx := fun _ _ => False, rt := Q } J ⟨ρ, _, S0, fr, sw, ?_⟩) (fun fl s' hs => ?_) fun e s' hs => hs
  · rw [kin_eval p.1 i h1 h7]
    intro v ρ' H' e r s'
    cases r
    exact hq ρ' H' e s'
  · cases fl with
    | ret u =>
      obtain ⟨v, σ', H', J', rv', q⟩ := hs
      exact ⟨v, H', J'.os, J'.bare, J'.base, J'.hok, rv', q⟩
    | next =>
      obtain ⟨_, _, _, q⟩ := hs
      exact q.elim
    | brk =>
      obtain ⟨_, _, _, q⟩ := hs
      exact False.elim q
    | cont =>
      obtain ⟨_, _, _, q⟩ := hs
      exact False.elim q
end Wm

set_option Elab.async false
set_option linter.all false
set_option maxRecDepth 100000
set_option maxHeartbeats 3200000
namespace Wm
open PySem PySem.Spec PyProof.Rows L2 HotX

/-! ### try, two clauses with a name: the first is of another class, the second catches -/
def endsWithout (i : Nat) (D : Ends) : Ends := { nx := fun σ H => D.nx (σ.set i none) H, rt := D.rt, bk := fun σ H => D.bk (σ.set i none) H, ct := fun σ H => D.ct (σ.set i none) H }
def wTwo (K : PySem.W.Frag) (c1 c2 : Value) (i : Nat) (ts : Addr → Value → Option Addr → TS) (D : Ends) : WX := fun cls d σ H =>
  PySem.W.exmOne K cls c1 = some false ∧ PySem.W.exmOne K cls c2 = some true ∧ ∀ a, H a = none → ts a cls d (endsWithout i D) (σ.set i (some (.ref a))) H
section
variable {X : Cx} {x1 x2 n1 n : Str} {c1 c2 : Value} {i : Nat} {body suite suite1 : List Stmt} {b0 b1 : Stmt} {np1 np2 pos pos1 pos2 : Pos} {tb : WX → TS} {ts : Addr → Value → Option Addr → TS}
/-- a clause's class is looked up while the exception is handled -/
theorem cls_read {pins : List (Addr × Obj)} {σ : L2.St} {H : Hp} {s : Shared} {a : Addr} {pn : List (Addr × Obj)} {x : Str} {c : Value} {np : Pos} {Q : Value → Shared → Prop} {E : Value → Shared → Prop} (hc : Names X x c) (S : Inv (X.suite a pn) pins σ H s) (q : Q c s) :
    wpAny (model X.prog X.w) (X.A.mark (some (.ref a))) (eval (.Name x np) X.env) Q E s := by
  obtain ⟨hg, hd, hm | ⟨hm, hv, hn⟩⟩ := hc
  · exact ld_glob (X := X.suite a pn) S hg hm q hd
  · exact ld_blt (X := X.suite a pn) S hg hm hv q hn hd
theorem ps_try2 (hs : X.stack = X.env :: X.outer) (hf : X.env.frame = some X.env.locals) (hN : X.N.Nodup) (hi : X.N[i]? = some n) (hln : X.env.kindOf n = some .local) (hc1 : Names X x1 c1) (hc2 : Names X x2 c2)
    (hb : ∀ (W : WX) (pn : List (Addr × Obj)) (xe : Value → Shared → Prop), L2N.Takes (X.tr pn xe) W → PassesOwn (model X.prog X.w) X.A X.env xe → PSs (X.tr pn xe) body (tb W))
    (hsu : ∀ (a : Addr) (oe : Obj) (cls : Value) (d : Option Addr) (pn : List (Addr × Obj)), L2N.Zn cls d oe → (∃ vs, oe.data = .fields vs) → PSs (X.suite a ((a, oe) :: pn)) (b0 :: suite) (ts a cls d)) :
    PS X (.Try body [.ExceptHandler (some (.Name x1 np1)) (some n1) (b1 :: suite1) pos1, .ExceptHandler (some (.Name x2 np2)) (some n) (b0 :: suite) pos2] [] [] pos) (fun D σ H => tb (wTwo X.K c1 c2 i ts D) D σ H) := by
  refine ⟨fun pins s σ H D I h => ?_⟩
  have ok := I.ok
  have hfr : X.A.frames = some (X.env :: X.outer) := by rw [ok.frames, hs]
  refine wpAny_Try_except (wpAny_mono ((hb (wTwo X.K c1 c2 i ts D) (X.pn ++ pins) (fun e s₁ => wpAny (model X.prog X.w) X.A (noteFrame e X.env) (fun _ s₂ => wpAny (model X.prog X.w) X.A (setFlight e none) (fun _ s₃ =>
    wpAny (model X.prog X.w) X.A (handleBy e X.env [.ExceptHandler (some (.Name x1 np1)) (some n1) (b1 :: suite1) pos1, .ExceptHandler (some (.Name x2 np2)) (some n) (b0 :: suite) pos2]) (SP X pins D) X.xe s₃) X.xe s₂) X.xe s₁) (fun u s' hx => ?_) PassesOwn.looking).run [] s σ H D (I.toTry _) h) (fun f s1 hsp => ?_) fun e s1 he => he)
  · obtain ⟨a, B, sI, pins', σ', H', cls, d, rfl, J', nb, up, sky, na, os, ag, w1, w2, w3⟩ := hx
    have J : Inv X pins σ' H' sI := J'.ofTry ok
    rw [hs] at sky
    show wpAny (model X.prog X.w) X.A (noteFrame (.ref a) X.env) _ _ _
    refine L2N.Sky.land L2N.Zn.steady hfr hf sky fun h3 fl3 up3 => ?_
    have J3 : Inv X pins σ' H' { s' with heap := h3 } := J.landed nb fl3.1 (up.trans up3) os ag
    obtain ⟨oe3, vs3, he3, hz3, hd3⟩ := fl3.there
    have nfr : a ∉ frs (X.env :: X.outer) := fun hm => by
      obtain ⟨_, o', e', hnf⟩ := fl3.2.2.1.mem hm
      rw [he3] at e'
      cases e'
      exact hnf _ hd3
    have nL : a ≠ X.env.locals := fun z => nfr (List.mem_filterMap.mpr ⟨X.env, List.mem_cons_self, by rw [hf, z]⟩)
    have nF : a ∉ X.fs := fun hm => by
      obtain ⟨e, he, q⟩ := List.mem_filterMap.mp hm
      exact nfr (List.mem_filterMap.mpr ⟨e, List.mem_cons_of_mem _ he, q⟩)
    have S3 := J3.suite he3 hd3 na nL nF
    have LT : PySem.W.Looks (model X.prog X.w) h3 (typeOf (.ref a)) cls := fun A Q E s k q => wpAny_typeOf_ref (k _ _ he3) (by rw [hz3.1]; exact q)
    refine wpAny_handleBy_cons (codeAny_handlers_test ?_) (by intro q; cases q)
    refine cls_read hc1 S3 ((PySem.W.exm_one (M := model X.prog X.w) J3.kIn LT w1).here ?_)
    show wpAny _ X.A (handleBy (.ref a) X.env [.ExceptHandler (some (.Name x2 np2)) (some n) (b0 :: suite) pos2]) _ _ _
    refine wpAny_handleBy_cons (codeAny_handlers_test ?_) (by intro q; cases q)
    refine cls_read hc2 S3 ((PySem.W.exm_one (M := model X.prog X.w) J3.kIn LT w2).here ?_)
    refine codeAny_handlers_suite_as ?_
    refine HandSPX.lands_againZ fl3 fun h4 fl4 up4 => ?_
    have J4 : Inv X pins σ' H' { s' with heap := h4 } := J.landed nb fl4.1 ((up.trans up3).trans up4) os ag
    obtain ⟨oe4, vs4, he4, hz4, hd4⟩ := fl4.there
    have S4 := J4.suite he4 hd4 na nL nF
    refine store_ok (X := X.suite a ((a, oe4) :: (X.pn ++ pins))) (v := .ref a) S4 hN hi (.inl hln) rfl (fun s5 S5 => ?_) (.inr hln)
    refine wpAny_mono ((hsu a oe4 cls d (X.pn ++ pins) hz4 ⟨_, hd4⟩).run [] s5 _ H' _ S5 (w3 a na)) (fun f s6 hsp => ?_) (fun _ _ z => False.elim z)
    have out : ∀ {σ6 : L2.St} {H6 : Hp} {Q : Shared → Prop}, Inv (X.suite a ((a, oe4) :: (X.pn ++ pins))) [] σ6 H6 s6 → (∀ s7, Inv X pins (σ6.set i none) H6 s7 → Q s7) →
        wpAny (model X.prog X.w) X.A (do bindName X.env n .none; unbindBehindTheSuite X.env n pos2) (fun _ s7 => Q s7) X.xe s6 := fun {σ6 H6 Q} S6 hq => gone_ok (S6.unsuite ok) hN hi hln hq
    cases f with
    | next => obtain ⟨σ6, H6, S6, q6⟩ := hsp; exact out S6 fun s7 J7 => ⟨_, _, J7, q6⟩
    | brk => obtain ⟨σ6, H6, S6, q6⟩ := hsp; exact out S6 fun s7 J7 => ⟨_, _, J7, q6⟩
    | cont => obtain ⟨σ6, H6, S6, q6⟩ := hsp; exact out S6 fun s7 J7 => ⟨_, _, J7, q6⟩
    | ret u => obtain ⟨v6, σ6, H6, S6, r6, q6⟩ := hsp; exact out S6 fun s7 J7 => ⟨_, _, _, J7, r6, q6⟩
  · cases f with
    | next => obtain ⟨σ', H', J', q⟩ := hsp; exact wpAny_execs_nil ⟨σ', H', J'.ofTry ok, q⟩
    | brk => obtain ⟨σ', H', J', q⟩ := hsp; exact ⟨σ', H', J'.ofTry ok, q⟩
    | cont => obtain ⟨σ', H', J', q⟩ := hsp; exact ⟨σ', H', J'.ofTry ok, q⟩
    | ret u => obtain ⟨v, σ', H', J', r, q⟩ := hsp; exact ⟨v, σ', H', J'.ofTry ok, r, q⟩
end
end Wm

set_option Elab.async false
set_option linter.all false
set_option maxRecDepth 100000
set_option maxHeartbeats 3200000
namespace Wm
open PySem PySem.Spec PyProof.Rows L2 HotX

/-! ### a lambda without parameters, called by the def that got it -/
abbrev lamEn (X : Cx) (scope : Scope) (L f c' : Addr) : Env := LamX.lamEnv X scope L f c'
/-- where the lambda's body stands -/
def lamC (X : Cx) (A : Around) (outer : List Env) (s : Shared) (H : Hp) (E : XK) (scope : Scope) (f c' : Addr) : Cx :=
  (LamX.lamCx X A outer s H E scope f c').tr [] fun e s' => wpAny (model X.prog X.w) (A.deeper (lamEn X scope s.heap.objs.size f c')) (leaving (lamEn X scope s.heap.objs.size f c') e) (fun _ t => L2N.CX X.prog X.w outer H s E e t) (fun e' t => L2N.CX X.prog X.w outer H s E e' t) s'
theorem lamC_cn {X : Cx} {A : Around} {outer : List Env} {s : Shared} {H : Hp} {E : XK} {scope : Scope} {f c' : Addr} {k : Nat} (nd : X.N.Nodup) (hr : Room k (A.deeper (lamEn X scope s.heap.objs.size f c'))) : Cn (lamC X A outer s H E scope f c') (fun cls d _ H => E cls d H) k :=
  ⟨rfl, nd, L2N.takes_of rfl rfl rfl rfl, hr, passes_of rfl⟩
section
variable {X : Cx} {pins : List (Addr × Obj)} {σ : L2.St} {H HZ : Hp} {s s1 : Shared}
/-- x(), in the def that got the lambda f of the frame σ -/
theorem pe_door {Eg : XK} {Ng : List Str} {qg : Str} {sg : Scope} {g f c' : Addr} {cdg pm ctv : Value} {params : Arguments} {body : Expr} {scope : Scope} {k i : Nat} {a : Str} {pn : List (Addr × Obj)} {xe : Value → Shared → Prop} {Wx : WX} {E : XK} {tb : TE} {p1 p2 : Pos}
    (I : Inv X pins σ H s) (L : LamX.LamS X.env.scope scope) (hf : s.heap.get? f = some (PySem.W.kla_obj "<lambda>" (X.env.qual ++ "<lambda>") params body scope (cloFrom X.env.cells scope.names []) pm c' ctv)) (hfn : H f = none) (hfr : f ∉ frs X.stack)
    (hbind : bindArgs (PySem.W.kla_fn "<lambda>" (X.env.qual ++ "<lambda>") params body scope (cloFrom X.env.cells scope.names []) pm (.ref c') ctv) ⟨[], []⟩ = pure [])
    (tk : L2N.Takes ((cxOf (L2N.CX X.prog X.w) X.prog X.w X.K X.mg X.base Ng qg sg g cdg X.A X.stack s H Eg).tr pn xe) Wx) (hW : ∀ cls d σ' H', E cls d H' → Wx cls d σ' H') (hr : Room (k + 1) (X.A.deeper (envOfC qg sg s.heap.objs.size g cdg)))
    (hbody : ∀ (A : Around) (outer : List Env) (s : Shared) (H : Hp), Room k (A.deeper (lamEn X scope s.heap.objs.size f c')) → PE (lamC X A outer s H E scope f c') body tb)
    (hN : Ng[i]? = some a) (hv : Vis sg a) (hd : (a == ("__debug__" : Str)) = false := by decide) (hcd : (a == ("__classdict__" : Str)) = false := by decide) :
    PE ((cxOf (L2N.CX X.prog X.w) X.prog X.w X.K X.mg X.base Ng qg sg g cdg X.A X.stack s H Eg).tr pn xe) (.Call (.Name a p1) [] [] p2)
      (fun σZ HZ Q => σZ[i]? = some (some (.ref f)) ∧ HZ c' = some (LamX.CodeO c' (X.env.qual ++ "<lambda>")) ∧ tb σ HZ Q) := by
  refine ⟨fun pz sZ σZ HZ Q IZ ⟨hs, hc, ht⟩ => ?_⟩
  refine wpAny_Call_Name_kw (thn ((pe_var (pos := p1) (i := i) hN hv hd hcd).run pz sZ σZ HZ (fun v H1 => v = .ref f ∧ H1 = HZ) IZ ⟨.ref f, hs, rfl, rfl⟩) fun u s1 ⟨v, H1, I1, r1, q1, q2⟩ => ?_)
  subst q1
  have q2 := q2.symm
  subst q2
  obtain rfl : u = Value.ref f := r1
  have of1 := I1.base.keep f _ hf hfn hfr (fun z => nomatch (show f ∈ ([] : List Addr) from z))
  refine PySem.W.callWith_F0 ⟨_, _, _, _, of1⟩ ?_
  have un : Un (frs X.stack) [] H HZ s.heap s1.heap := I1.base
  obtain ⟨⟨oc, vs, t, hoc, hdc, hvc⟩, _, _⟩ := I1.hok c' _ hc
  have rc : codeAny (model X.prog X.w) (X.A.deeper (envOfC qg sg s.heap.objs.size g cdg)) (.call (.ref f) ⟨[], []⟩) (CR (L2N.CX X.prog X.w) (envOfC qg sg s.heap.objs.size g cdg :: X.stack) X.prog X.w HZ s1 Q E) s1 := by
    refine PySem.W.kla_callFunE hr.depth of1 rfl L.co L.gen rfl ⟨c', oc, vs, t, rfl, hoc, hdc, hvc⟩ ?_
    rw [hbind]
    refine wpAny_pure (wpAny_newFunctionEnv (fun y hy => (L.own y hy).2) (fun y hy => absurd hy (by simp)) (fun h₁ hns hsb => ⟨I1.nolimit.fresh _ hsb, ?_⟩) L.kind)
    show codeAny _ _ (.expr body (lamEn X scope s1.heap.objs.size f c')) _ _
    have kp : ∀ b o, s1.heap.get? b = some o → h₁.get? b = some o := fun b o e => hsb.extBut b o (Nat.ne_of_lt (Heap.lt_size e)) (Heap.get?_push_of_some _ e)
    have J0 : Inv (LamX.lamCx X (X.A.deeper (envOfC qg sg s.heap.objs.size g cdg)) (envOfC qg sg s.heap.objs.size g cdg :: X.stack) s1 HZ E scope f c') [] σ HZ { s1 with heap := h₁, toks := s1.toks + ([] : List (Str × Value)).length } := LamX.lam_start2 I L I1.env0 hr.hd un hns kp
    have J : Inv (lamC X (X.A.deeper (envOfC qg sg s.heap.objs.size g cdg)) (envOfC qg sg s.heap.objs.size g cdg :: X.stack) s1 HZ E scope f c') [] σ HZ { s1 with heap := h₁, toks := s1.toks + ([] : List (Str × Value)).length } := J0.toTry _
    refine PySem.W.kla_codeExpr (wpAny_mono ((hbody _ _ s1 HZ (hr.deeper _)).run [] _ _ HZ Q J ht) (fun v s' ⟨w', H', J', rv, q⟩ => ⟨w', H', J'.os, J'.bare, J'.base, J'.hok, rv, q⟩) fun e s' hq => hq)
  refine wpAny_call (codeAny_mono rc fun r s' hq => ?_)
  cases r with
  | error e => exact L2N.passes_call tk hW pz σZ HZ s1 e s' I1 hq
  | ok fl =>
    cases fl with
    | ret u => exact I1.after hq
    | next => exact False.elim hq
    | brk => exact False.elim hq
    | cont => exact False.elim hq
end
end Wm

set_option Elab.async false
set_option linter.all false
set_option maxRecDepth 100000
set_option maxHeartbeats 3200000
namespace Wm
open PySem PySem.Spec PyProof.Rows L2 HotX

section
variable {X : Cx} {p : Addr × Obj} {E : Nat → Addr} {i j k : Nat} {x y : Str} {q q1 pos : Pos}
/-- a name, by the length of the frame -/
theorem pe_varL (hN : X.N[j]? = some y) (hvis : Vis X.env.scope y) (hd : (y == ("__debug__" : Str)) = false := by decide) (hcd : (y == ("__classdict__" : Str)) = false := by decide) :
    PE X (.Name y q) (fun σ H Q => ∃ v, (σ.length = X.N.length → σ[j]? = some (some v)) ∧ Q v H) :=
  ⟨fun pins s σ H Q I ⟨v, h, hq⟩ => (pe_var (pos := q) hN hvis hd hcd).run pins s σ H Q I ⟨v, h I.len, hq⟩⟩
/-- the refusal's name, asked where it is handled -/
theorem pe_kin (hot : HotP X p) (KF : KinFn X.prog X.w X.K X.mg X.base k x E) (hr : L2H.RoomH k X.A) (h1 : 1 ≤ i) (h7 : i ≤ 7) (hz : Zc (.ref (E i)) none p.2) (hf : ∃ vs, p.2.data = .fields vs) (hg : Gl X x) (hN : X.N[j]? = some y) (hvis : Vis X.env.scope y)
    (hdx : (x == ("__debug__" : Str)) = false := by decide) (hd : (y == ("__debug__" : Str)) = false := by decide) (hcd : (y == ("__classdict__" : Str)) = false := by decide)
    (he : starEach [.Name y q1] X.env = (false, eval (.Name y q1) X.env) :: starEach [] X.env := by rfl) (hpl : (backTo pos (starEach [] X.env)).any (·.1) = false := by rfl) :
    PE X (.Call (.Name x q) [.Name y q1] [] pos) (fun σ H Q => (σ.length = X.N.length → σ[j]? = some (some (.ref p.1))) ∧ ∃ ρ S, SW X.K ρ H S ∧ ∀ ρ' H', Ext ρ H ρ' H' → SW X.K ρ' H' (S ++ kinJunk i) → Q (.str (kinName i)) H') := by
  refine ⟨fun pins s σ H Q I ⟨hs, ρ, S, sw, hq⟩ => ?_⟩
  obtain ⟨f, hm, hk, run⟩ := KF
  refine wpAny_Call_Name_kw (ld_glob I hg hm ?_ hdx)
  refine PySem.W.callWith_K (h₀ := X.base) I.ok.mod.kin hk (thn ((pa_cons (pe_varL (q := q1) hN hvis hd hcd) pa_nil he).run pos pins s σ H (fun vs H1 => vs = [.ref p.1] ∧ H = H1) I ⟨.ref p.1, hs, rfl, rfl⟩) fun us s1 ⟨vs, H1, I1, r, e1, e2⟩ => ⟨I1.kIn, ?_⟩) he hpl
  subst e1 e2
  cases r with
  | cons r r' =>
  cases r'
  cases r
  have P1 := I1.pin p (List.mem_append_left _ hot.2)
  have hpin : L2H.PinOk X.stack H s1 p := ⟨P1.1, P1.2.1, fun hm => (List.mem_cons.mp (I1.stkSub p.1 hm)).elim P1.2.2.1 P1.2.2.2.1, P1.2.2.2.2⟩
  refine wpAny_call (codeAny_mono (run X.A X.stack s1 H p i Q (fun _ _ _ => False) ρ S hr hot.1 hpin I1.env0 h1 h7 hz hf sw hq) fun r s' hr => ?_)
  cases r with
  | error e => exact (cx_no hr).elim
  | ok fl =>
    cases fl with
    | ret u => exact I1.after hr
    | next => exact False.elim hr
    | brk => exact False.elim hr
    | cont => exact False.elim hr
end

/-! ### the def that tells a door's answer, or its refusal -/
abbrev tryN : List Str := ["door", "found", "e"]
/-- the text of that def -/
structure TryText (st : Stmt) : Prop where
  sc : FnScope tryN ["door"] (defScope st)
  vd : (defScope st).names.lookup ("door" : Str) = some .local
  vf : (defScope st).names.lookup ("found" : Str) = some .local
  ve : (defScope st).names.lookup ("e" : Str) = some .local
  gk : (defScope st).names.lookup ("_law_kin" : Str) = some .globalImplicit
  gt : (defScope st).names.lookup ("TooMany" : Str) = some .globalImplicit
  gj : (defScope st).names.lookup ("JoinError" : Str) = some .globalImplicit
  bd : ∃ (a1 a2 a3 b1 b2 b3 b4 b5 b6 c1 c2 d1 d2 d3 d4 d5 d6 d7 t1 r1 r2 : Pos) (j1 j2 k : Nat) (s1 : Stmt) (ss1 : List Stmt), defBody st = [.Assign [.Name "found" a1] (.Constant .none j1 a2) a3,
    .Try [.Assign [.Name "found" b1] (.Tuple [.Constant (.str "told") j2 b2, .Call (.Name "door" b3) [] [] b4] k b5) b6] [.ExceptHandler (some (.Name "TooMany" c1)) (some "e") (s1 :: ss1) c2,
      .ExceptHandler (some (.Name "JoinError" d1)) (some "e") [.Assign [.Name "found" d2] (.Call (.Name "_law_kin" d3) [.Name "e" d4] [] d5) d6] d7] [] [] t1,
    .Return (some (.Name "found" r1)) r2]
def kinOf (E : Nat → Addr) (x : Exn) : Option Nat := match x.d with
  | none => [1, 2, 3, 4, 5, 6, 7].find? fun i => decide (E i = x.C)
  | some _ => none
theorem kinOf_is {E : Nat → Addr} {x : Exn} {i : Nat} (h : kinOf E x = some i) : 1 ≤ i ∧ i ≤ 7 ∧ x = ⟨E i, none⟩ := by
  obtain ⟨C, d⟩ := x
  unfold kinOf at h
  cases d with
  | some n => cases h
  | none =>
    have h1 := List.find?_some h
    have h2 := List.mem_of_find?_eq_some h
    have h1 : E i = C := of_decide_eq_true h1
    simp only [List.mem_cons, List.not_mem_nil, or_false] at h2
    exact ⟨by omega, by omega, by rw [h1]⟩
def mTry (P : Addr) (q : Str) (n0 : Nat) (E : Nat → Addr) (fb : FE W) : FE W := fun φ S => match S[n0]? with
  | some (.tab P' q') => if P' = P ∧ q' = q then match fb φ S with
      | .ok w S1 => ofO (tupO [.str "told", w] S1)
      | .ex x S1 => match kinOf E x with
        | some i => .ok (.str (kinName i)) (S1 ++ kinJunk i)
        | none => .bad
      | .bad => .bad
    else .bad
  | _ => .bad
def tabsIn (S : Sto) : List (Addr × Str) := S.filterMap fun o => match o with
  | .tab P q => some (P, q)
  | _ => none
theorem mem_tabsIn {S : Sto} {P : Addr} {q : Str} : (P, q) ∈ tabsIn S ↔ ∃ n : Nat, S[n]? = some (.tab P q) := by
  unfold tabsIn
  rw [List.mem_filterMap]
  constructor
  · rintro ⟨o, ho, e⟩
    obtain ⟨n, hn, e2⟩ := List.mem_iff_getElem.mp ho
    cases o <;> cases e
    exact ⟨n, by rw [List.getElem?_eq_getElem hn, e2]⟩
  · rintro ⟨n, hn⟩
    exact ⟨_, List.mem_of_getElem? hn, rfl⟩
theorem SW.tabs {K : PySem.W.Frag} {ρ : List Addr} {H : Hp} {S : Sto} (s : SW K ρ H S) : LamX.Tabs (tabsIn S) H := fun ⟨P, q⟩ hp => by
  obtain ⟨n, hn⟩ := mem_tabsIn.mp hp
  obtain ⟨a, ha, e, h⟩ := s.at hn
  subst e
  exact h
theorem SW.tabU {K : PySem.W.Frag} {ρ : List Addr} {H : Hp} {S : Sto} (s : SW K ρ H S) {P : Addr} {q q' : Str} (h : (P, q) ∈ tabsIn S) (h' : (P, q') ∈ tabsIn S) : q = q' := by
  obtain ⟨n, hn⟩ := mem_tabsIn.mp h
  obtain ⟨m, hm⟩ := mem_tabsIn.mp h'
  obtain ⟨a, ha, e, _⟩ := s.at hn
  obtain ⟨b, hb, e', _⟩ := s.at hm
  have en : n = m := by
    obtain ⟨h1, e1⟩ := List.getElem?_eq_some_iff.mp ha
    obtain ⟨h2, e2⟩ := List.getElem?_eq_some_iff.mp hb
    exact (List.getElem_inj s.nd).mp (e1.trans ((e.trans e'.symm).trans e2.symm))
  subst en
  rw [hn] at hm
  cases hm
  rfl
/-- all but the tables stay, the tables are tables still -/
theorem SW.extN {K : PySem.W.Frag} {ρ : List Addr} {H H1 : Hp} {S : Sto} (s : SW K ρ H S) (e : LamX.ExtN H H1) (t : LamX.Tabs (tabsIn S) H1) : Ext ρ H ρ H1 ∧ SW K ρ H1 S := by
  have ex : Ext ρ H ρ H1 := ⟨fun _ _ h => h, fun a xs h => e a _ h (fun _ z => nomatch z), fun a o u h => e a _ h (fun _ z => nomatch z), fun a φ h => e a _ h (fun _ z => nomatch z)⟩
  refine ⟨ex, s.len, s.nd, fun n a o ha ho => ?_⟩
  have w := s.ob n a o ha ho
  cases o with
  | tab P q =>
    obtain ⟨e1, _⟩ := w
    subst e1
    exact ⟨rfl, t (a, q) (mem_tabsIn.mpr ⟨n, ho⟩)⟩
  | lst ws => obtain ⟨vs, h1, _⟩ := id w; exact w.mono ex (by rw [h1]; exact e a _ h1 fun _ z => nomatch z)
  | dic ws => obtain ⟨vs, h1, _⟩ := id w; exact w.mono ex (by rw [h1]; exact e a _ h1 fun _ z => nomatch z)
  | ins C ws => obtain ⟨dx, vs, h1, _⟩ := id w; exact w.mono ex (by rw [h1]; exact e a _ h1 fun _ z => nomatch z)
  | xd ws => obtain ⟨vs, h1, _⟩ := id w; exact w.mono ex (by rw [h1]; exact e a _ h1 fun _ z => nomatch z)
end Wm

set_option Elab.async false
set_option linter.all false
set_option maxRecDepth 100000
set_option maxHeartbeats 3200000
namespace Wm
open PySem PySem.Spec PyProof.Rows L2 HotX

section
variable {X : Cx} {Wx : WX} {kb kk : Nat} {st : Stmt} {g : Addr} {fd : FuncData} {E : Nat → Addr} {cc P : Addr} {qn : Str} {params : Arguments} {body : Expr} {scope : Scope} {lpos p pos : Pos} {fb : FE W}
/-- _law_try(lambda: body) -/
theorem se_try (n0 : Nat) (c : Cn X Wx (kb + 2)) (Fg : Fun X.K "_law_try" "_law_try" st g fd) (hm : X.mg "_law_try" = some (.ref g)) (b : Binds X.K fd ["door"] []) (T : TryText st) (KF : KinFn X.prog X.w X.K X.mg X.base kk "_law_kin" E) (hkk : kk ≤ kb + 1) (XE : XCn X.K X.mg E)
    (TB : LamX.TabB X.base X.mg cc P) (hcode : X.env.code = .ref cc) (hqn : X.env.qual ++ "<lambda>" = qn) (L : LamX.LamS X.env.scope scope) (hdef : defaultsOf params X.env = ([], []))
    (hbind : ∀ (q : Str) (cl : List (Str × Addr)) (pm cv ctv : Value), bindArgs (PySem.W.kla_fn "<lambda>" q params body scope cl pm cv ctv) ⟨[], []⟩ = pure [])
    (hbody : ∀ (A : Around) (outer : List Env) (s : Shared) (H : Hp) (EE : XK) (f c' : Addr), Cn (lamC X A outer s H EE scope f c') (fun cls d _ H => EE cls d H) kb → SE (lamC X A outer s H EE scope f c') (fun cls d _ H => EE cls d H) body fb)
    (hg : Gl X "_law_try" := by rfl) : SE X Wx (.Call (.Name "_law_try" p) [.Lambda params body scope lpos] [] pos) (mTry P qn n0 E fb) := by
  refine ⟨fun pins s σ H Q I ⟨ρ, φ, S, F, sw, q⟩ => ?_⟩
  obtain ⟨oc, od, kV, doc, pm, an, cdv, ct, osl, rfl, lk, hcd⟩ := Fg.ex
  unfold mTry at q
  split at q
  · rename_i P' q' hS
    split at q
    · rename_i hPq
      obtain ⟨rfl, rfl⟩ := hPq
      subst hqn
      have hmem := mem_tabsIn.mpr ⟨n0, hS⟩
      refine wpAny_Call_Name_kw (ld_glob I hg hm ?_ (by decide))
      refine PySem.W.callWith_K (h₀ := X.base) I.ok.mod.kin Fg.kp ?_ (by rfl) (by rfl)
      show wpAny _ _ (spliced ((false, eval (.Lambda params body scope lpos) X.env) :: backTo pos (starEach [] X.env))) _ _ s
      refine Calls.spliced_cons (LamX.lam_make2 I TB hcode hmem (fun p' hp e => ?_) sw.tabs hdef (L.has I.ok) fun f c' pm' ctv H1 s' I1 eN T1 hf hfn hfr hco => ?_)
      · obtain ⟨P2, q2⟩ := p'
        obtain rfl : P2 = P' := e
        exact sw.tabU hp hmem
      · refine Calls.spliced_nil ⟨I1.kIn, ?_⟩
        obtain ⟨ex1, sw1⟩ := sw.extN eN T1
        have F1 := F.mono ex1
        have rc : codeAny (model X.prog X.w) X.A (.call (.ref g) ⟨[.ref f], []⟩) (CR (L2N.CX X.prog X.w) X.stack X.prog X.w H1 s' Q (fun _ _ _ => False)) s' := by
          refine LamX.run_ofS (N := tryN) (ps := ["door"]) (us := [.ref f]) (vs := [.ref f]) lk hcd T.sc c.hr I1.env0 ?_ (.cons rfl .nil) rfl fun hr' => ?_
          · have bi := b s' [.ref f] I1.kIn rfl
            rw [List.append_nil] at bi
            exact bi
          · obtain ⟨a1, a2, a3, b1, b2, b3, b4, b5, b6, c1, c2, d1, d2, d3, d4, d5, d6, d7, t1, r1, r2, j1, j2, k, s1, ss1, hbd⟩ := T.bd
            rw [hbd]
            let Z : Cx := cxOf (L2N.CX X.prog X.w) X.prog X.w X.K X.mg X.base tryN "_law_try" (defScope st) g cdv X.A X.stack s' H1 (fun _ _ _ => False)
            let ts : Addr → Value → Option Addr → TS := fun a cls d D σ H => ∃ i ρ S, 1 ≤ i ∧ i ≤ 7 ∧ cls = .ref (E i) ∧ d = none ∧ (σ.length = 3 → σ[2]? = some (some (.ref a))) ∧ SW X.K ρ H S ∧ ∀ ρ' H', Ext ρ H ρ' H' → SW X.K ρ' H' (S ++ kinJunk i) → D.nx (σ.set 1 (some (.str (kinName i)))) H'
            let tb : WX → TS := fun Wt D σ0 HZ => ∃ Ech : XK, (∀ cls d σ' H', Ech cls d H' → Wt cls d σ' H') ∧
              tTupF (tCons (tC (.str "told")) (tCons (fun σZ HZ Q => σZ[0]? = some (some (.ref f)) ∧ HZ c' = some (LamX.CodeO c' (X.env.qual ++ "<lambda>")) ∧ tI X.K (RW X.K) (fun cls d _ H' => Ech cls d H') fb σ HZ Q) tNil)) σ0 HZ (fun x H' => gName 1 x σ0 H' D.nx)
            have nd : (tryN).Nodup := T.sc.nd
            have hb : ∀ (Wt : WX) (pn : List (Addr × Obj)) (xe : Value → Shared → Prop), L2N.Takes (Z.tr pn xe) Wt → PassesOwn (model Z.prog Z.w) Z.A Z.env xe →
                PSs (Z.tr pn xe) [.Assign [.Name "found" b1] (.Tuple [.Constant (.str "told") j2 b2, .Call (.Name "door" b3) [] [] b4] k b5) b6] (tb Wt) := fun Wt pn xe tk _ =>
              ⟨fun pins2 s2 σ2 H2 D I2 ⟨Ech, hW, h2⟩ =>
                (pss_one (ps_set (pos := b6) (pos' := b1) (i := 1) nd rfl (.inl T.vf) (pe_tupF (pa_cons pe_str (pa_cons (pe_door (p1 := b3) (p2 := b4) (k := kb) (i := 0) (E := Ech) I1 L hf hfn hfr (hbind _ _ _ _ _) tk hW hr' (fun A outer s H hr2 => hbody A outer s H Ech f c' (lamC_cn c.nd hr2)) rfl (.inl T.vd)) pa_nil))) rfl (.inl rfl))).run pins2 s2 σ2 H2 D I2 h2⟩
            have hrH : L2H.RoomH kk (X.A.deeper (envOfC "_law_try" (defScope st) s'.heap.objs.size g cdv)) := (L2H.roomH_of hr').mono hkk
            have hsu : ∀ (a : Addr) (oe : Obj) (cls : Value) (d : Option Addr) (pn : List (Addr × Obj)), L2N.Zn cls d oe → (∃ vs, oe.data = .fields vs) → PSs (Z.suite a ((a, oe) :: pn)) [.Assign [.Name "found" d2] (.Call (.Name "_law_kin" d3) [.Name "e" d4] [] d5) d6] (ts a cls d) := fun a oe cls d pn hz hfl =>
              ⟨fun pins2 s2 σ2 H2 D I2 ⟨i, ρ2, S2, h1, h7, e1, e2, hs2, sw2, hq2⟩ => by
                subst e1 e2
                have hot : HotP (Z.suite a ((a, oe) :: pn)) (a, oe) := ⟨⟨rfl, by obtain ⟨vs, hv⟩ := hfl; exact ⟨vs, hv, hz.2.2 vs hv⟩⟩, List.mem_cons_self⟩
                exact (pss_one (ps_set (pos := d6) (pos' := d2) (i := 1) nd rfl (.inl T.vf) (pe_kin (X := Z.suite a ((a, oe) :: pn)) (q := d3) (q1 := d4) (pos := d5) (p := (a, oe)) (i := i) (j := 2) hot KF ⟨hrH.dp, hrH.un⟩ h1 h7 hz.zc hfl T.gk rfl (.inl T.ve)) rfl (.inl rfl))).run pins2 s2 σ2 H2 D I2 ⟨hs2, ρ2, S2, sw2, hq2⟩⟩
            refine ⟨_, pss_cons (ps_set (X := Z) (pos := a3) (pos' := a1) (i := 1) nd rfl (.inl T.vf) pe_non rfl (.inl rfl)) (pss_cons (ps_try2 (X := Z) (i := 2) (c1 := .ref (E 8)) (c2 := .ref (E 0)) (tb := tb) (ts := ts) rfl rfl nd rfl T.ve ⟨T.gt, by decide, .inl XE.n8⟩ ⟨T.gj, by decide, .inl XE.n0⟩ hb hsu) (pss_one (ps_ret (pos := r2) (pe_varL (X := Z) (q := r1) (j := 1) rfl (.inl T.vf))))), ?_⟩
            refine ⟨fun cls d H' => ∃ i ρ' S1, 1 ≤ i ∧ i ≤ 7 ∧ cls = .ref (E i) ∧ d = none ∧ SW X.K ρ' H' S1 ∧ ∀ ρ2 H2, Ext ρ' H' ρ2 H2 → SW X.K ρ2 H2 (S1 ++ kinJunk i) → Q (.str (kinName i)) H2, ?_, rfl, hco, ρ, φ, S, F1, sw1, ?_⟩
            · rintro cls d σ' H' ⟨i, ρ', S1, h1, h7, rfl, rfl, sw', hq'⟩
              refine ⟨XE.exm8 i h1 h7, XE.exm0 i h1 h7, fun a na => ⟨i, ρ', S1, h1, h7, rfl, rfl, fun hl => ?_, sw', fun ρ2 H2 e2 s2 => ⟨.str (kinName i), fun hl => ?_, hq' ρ2 H2 e2 s2⟩⟩⟩
              · rw [List.length_set] at hl
                exact List.getElem?_set_self (by omega)
              · have hl' : (((σ'.set 2 (some (V.ref a))).set 1 (some (.str (kinName i)))).set 2 none).length = 3 := hl
                rw [List.length_set, List.length_set, List.length_set] at hl'
                show (((σ'.set 2 (some (V.ref a))).set 1 (some (.str (kinName i)))).set 2 none)[1]? = _
                rw [List.getElem?_set_ne (by decide), List.getElem?_set_self (by rw [List.length_set]; omega)]
            · cases o : fb φ S with
              | bad => rw [o] at q; exact q.elim
              | ok w S1 =>
                rw [o] at q
                intro v ρ' H' e r s2
                obtain ⟨z, kq⟩ := tup_new s2 (.cons (.str "told") (RWs.one r)) (PosR.of (OutR.step q (ex1.trans e)))
                refine ⟨z, fun pa oa hpa hda => ?_⟩
                exact ⟨.ref pa, fun _ => rfl, kq pa oa hpa hda⟩
              | ex x S1 =>
                rw [o] at q
                dsimp only at q
                split at q
                · rename_i i hi
                  obtain ⟨h1, h7, ex⟩ := kinOf_is hi
                  subst ex
                  intro cls d ρ' H' e xr s2
                  obtain ⟨x1, x2⟩ := xr
                  exact ⟨i, ρ', S1, h1, h7, x1, x2, s2, fun ρ2 H2 e2 s3 => q _ ρ2 H2 ((ex1.trans e).trans e2) (.str _) s3⟩
                · exact q.elim
        refine wpAny_call (codeAny_mono rc fun r s2 hq => ?_)
        cases r with
        | error e => exact (cx_no hq).elim
        | ok fl =>
          cases fl with
          | ret u => exact I1.after hq
          | next => exact False.elim hq
          | brk => exact False.elim hq
          | cont => exact False.elim hq
    · exact q.elim
  · exact q.elim
end
end Wm

set_option Elab.async false
set_option linter.all false
set_option maxRecDepth 100000
set_option maxHeartbeats 3200000
namespace Wm
open PySem PySem.Spec PyProof.Rows L2

/-! ### the end, with tables of code objects -/
def spLawT (K : PySem.W.Frag) (cs : List (Addr × Addr)) : Sp := fun vs H Q _ => ∃ (a : Addr) (ns : List Int), vs = [.ref a] ∧ SqL K H a (ns.map V.int) ∧ ns.length ≤ 63 ∧ (∀ p ∈ cs, H p.2 = some (.tbl #[])) ∧ ∀ H', Q (.bl true) H'
/-- the law is True, whatever stands in the store, its tables ahead of all else -/
def LawTrueT (m : FM) (ts : List (Addr × Str)) : Prop := ∀ (ns : List Int) (w : W) (S : Sto), ns.length ≤ 63 → asQ S w = some (false, ns.map W.int) → (∀ (j : Nat) (t : Addr × Str), ts[j]? = some t → S[j]? = some (.tab t.1 t.2)) → ∃ S', m [w] S = .ok (.bl true) S'
theorem sw_tabs {K : PySem.W.Frag} {H : Hp} {ts : List (Addr × Str)} (nd : (ts.map (·.1)).Nodup) (h : ∀ t ∈ ts, LamX.TabS H t.1 t.2) : SW K (ts.map (·.1)) H (ts.map fun t => .tab t.1 t.2) :=
  ⟨by simp, nd, fun n a o ha ho => by
    rw [List.getElem?_map] at ha ho
    obtain ⟨t, e1, rfl⟩ := Option.map_eq_some_iff.mp ha
    obtain ⟨t', e2, rfl⟩ := Option.map_eq_some_iff.mp ho
    rw [e1] at e2
    cases e2
    exact ⟨rfl, h _ (List.mem_of_getElem? e1)⟩⟩
theorem law_okT {P : Program} {w : World} {K : PySem.W.Frag} {mg : Str → Option Value} {base : Heap} {C : CXT} {k : Nat} {f : Addr} {fd : FuncData} {ps : List Str} {m : FM} {cs : List (Addr × Addr)} {ts : List (Addr × Str)} (F : FnOk P w K mg base C k f fd ps (spM K 1 m)) (t : LawTrueT m ts)
    (nd : (ts.map (·.1)).Nodup) (hc : ∀ t ∈ ts, ∃ p ∈ cs, p.2 = t.1) : FnOk P w K mg base C k f fd ps (spLawT K cs) :=
  F.imp fun vs H Q E ⟨a, ns, e, hS, hl, hT, k⟩ => by
    subst e
    have tb : ∀ t ∈ ts, LamX.TabS H t.1 t.2 := fun t ht => by
      obtain ⟨p, hp, e⟩ := hc t ht
      exact LamX.TabS.nil (by rw [← e]; exact hT p hp)
    have sw := sw_tabs (K := K) nd tb
    have at1 : ∀ (T : Sto) (j : Nat) (t : Addr × Str), ts[j]? = some t → ((ts.map fun t => Ob.tab t.1 t.2) ++ T)[j]? = some (.tab t.1 t.2) := fun T j t h => by
      have hj := (List.getElem?_eq_some_iff.mp h).1
      rw [List.getElem?_append_left (by rw [List.length_map]; exact hj), List.getElem?_map, h]
      rfl
    have fin : ∀ (ρ : List Addr) (S : Sto) (w : W), SW K ρ H S → RW K ρ H (.ref a) w → asQ S w = some (false, ns.map W.int) → (∀ (j : Nat) (t : Addr × Str), ts[j]? = some t → S[j]? = some (.tab t.1 t.2)) → spM K 1 m [.ref a] H Q E := fun ρ S w s r hq ht => by
      obtain ⟨S', h⟩ := t ns w S hl hq ht
      refine ⟨ρ, [w], S, .one r, s, ?_⟩
      rw [show chk 1 m [w] S = m [w] S from rfl, h]
      intro v ρ' H' _ r _
      cases r
      exact k H'
    have fz : Fz K H a (ns.map V.int) → spM K 1 m [.ref a] H Q E := fun z => fin _ _ (.cl (ns.map W.int)) sw (.cl z (rws_ints ns)) rfl fun j t h => by
      have := at1 [] j t h
      rwa [List.append_nil] at this
    rcases hS with (h | h) | h
    · have na : a ∉ ts.map (·.1) := fun z => by
        obtain ⟨t, ht, e⟩ := List.mem_map.mp z
        obtain ⟨ps, h2, _⟩ := tb t ht
        rw [e, h] at h2
        cases h2
      refine fin (ts.map (·.1) ++ [a]) ((ts.map fun t => .tab t.1 t.2) ++ [.lst (ns.map W.int)]) (.ref ts.length) ⟨by simp, ?_, fun n b o hb ho => ?_⟩ (.ref (by simp)) ?_ (at1 _)
      · rw [List.nodup_append]
        exact ⟨nd, by simp, fun x hx y hy e => na (by rw [List.mem_singleton.mp hy] at e; rw [← e]; exact hx)⟩
      · by_cases hn : n < ts.length
        · rw [List.getElem?_append_left (by simpa using hn)] at hb ho
          exact (sw.ob n b o hb ho).mono ⟨fun n c h => get_snoc h, fun _ _ h => h, fun _ _ _ h => h, fun _ _ h => h⟩ rfl
        · have e : n = ts.length := by
            have := (List.getElem?_eq_some_iff.mp ho).1
            simp at this
            omega
          subst e
          have e1 : b = a := by simpa using hb.symm
          have e2 : o = .lst (ns.map W.int) := by simpa using ho.symm
          subst e1 e2
          exact ⟨_, h, rws_ints ns⟩
      · exact ref_q (by simp)
    · exact fz (.inl h)
    · exact fz (.inr h)
/-- a law that looks at the first cells, one by one -/
theorem law_cellsT {B F : SM} {r K : Nat} {ts : List (Addr × Str)} (hr : 1 ≤ r) (hB : ∀ (cell : Int) (φ : Fr) (S : Sto), φ.length = r + 1 → φ[1]? = some (some (.int cell)) → (∀ (j : Nat) (t : Addr × Str), ts[j]? = some t → S[j]? = some (.tab t.1 t.2)) → Goes (fun φ' S' => φ'.length = r + 1 ∧ Kp [] S S') (B φ S))
    (hF : ∀ (φ : Fr) (S : Sto), φ.length = r + 1 → (∀ (j : Nat) (t : Addr × Str), ts[j]? = some t → S[j]? = some (.tab t.1 t.2)) → ∃ S', F φ S = .rt (.bl true) S') : LawTrueT (mFn r (mSeq (mFor (mItQ (mSl (mBin oAdd (mLst (mCons (mC (.int 0)) mNil)) (mVar 0)) none (some (mC (.int (K : Int)))))) (.one 1) B) F)) ts := by
  intro ns w S hns hq ht
  have key : (fun o : SO => ∃ S', o = .rt (.bl true) S') ((mSeq (mFor (mItQ (mSl (mBin oAdd (mLst (mCons (mC (.int 0)) mNil)) (mVar 0)) none (some (mC (.int (K : Int)))))) (.one 1) B) F) ([some w] ++ List.replicate r none) S) := by
    have l1 := lstO_ok (S := S) (show [W.int 0].length ≤ bigL from (by decide : 1 ≤ bigL))
    have k1 : Kp [] S (S ++ [.lst [.int 0]]) := Kp.push _ _ _
    have q1 := k1.qn hq
    have at1 := at_new S (.lst [.int 0])
    generalize hS1 : S ++ [.lst [.int 0]] = S1 at *
    have qw : asL S1 w = some (ns.map W.int) := by
      cases w with
      | ref n => simp only [asQ] at q1; obtain ⟨l, e, e2⟩ := Option.map_eq_some_iff.mp q1; cases e2; exact e
      | cl l => simp only [asQ] at q1; obtain ⟨l, e, e2⟩ := Option.map_eq_some_iff.mp q1; cases e2; exact e
      | tup l => cases q1
      | _ => simp [asQ, asL] at q1
    have l2 : oAdd (.ref S.length) w S1 = some (.ref S1.length, S1 ++ [.lst (.int 0 :: ns.map W.int)]) := add_ll (l := [.int 0]) (m := ns.map W.int) (ref_l at1) qw (by
      have : 1000 ≤ bigL := by decide
      rw [List.length_append, List.length_map]
      simp only [List.length_cons, List.length_nil]
      omega)
    generalize hcs : ([0] ++ ns).take K = cells
    have hc : cutW (W.int 0 :: ns.map W.int) none (some (K : Int)) = cells.map W.int := by
      rw [cut_to, ← hcs, List.map_take, List.map_append]; rfl
    have cl : cells.length ≤ 64 := by
      rw [← hcs, List.length_take]
      simp only [List.length_append, List.length_cons, List.length_nil]
      omega
    have at2 := at_new S1 (.lst (.int 0 :: ns.map W.int))
    have k2 : Kp [] S1 (S1 ++ [.lst (.int 0 :: ns.map W.int)]) := Kp.push _ _ _
    generalize hS2 : S1 ++ [.lst (.int 0 :: ns.map W.int)] = S2 at *
    have l3 : oSl (.ref S1.length) none (some (K : Int)) S2 = some (.ref S2.length, S2 ++ [.lst (cells.map W.int)]) := sl_ref at2 hc (by rw [List.length_map]; exact Nat.le_trans cl (by decide))
    have q0 : asQ (S2 ++ [.lst (cells.map W.int)]) (.ref S2.length) = some (false, cells.map W.int) := ref_q (at_new _ _)
    have k3 : Kp [] S (S2 ++ [.lst (cells.map W.int)]) := (k1.trans k2).trans (Kp.push _ _ _)
    generalize hS0 : S2 ++ [.lst (cells.map W.int)] = S0 at *
    refine seq_then (P := fun o => ∃ S', o = .rt (.bl true) S') ?_
    refine for_ind (P := ThenP (fun o => ∃ S', o = .rt (.bl true) S') F) (φ := [some w] ++ List.replicate r none) (S := S) (S1 := S0) (l := cells.map W.int) (d := []) (m := itL (.ref S2.length)) (fun i φ S => φ.length = r + 1 ∧ Kp [] S0 S) ?_ (wk_l q0 fun _ _ z => nomatch z) (by rw [List.length_map]; exact Nat.lt_of_le_of_lt cl (by decide)) ⟨by simp, Kp.refl _ _⟩ (fun i φ S h => h.2) (fun i x φ Sx e h => ?_) (fun φ Sx h => ?_)
    · have hv : mVar 0 ([some w] ++ List.replicate r none) S1 = .ok w S1 := rfl
      simp only [mFn, mCall, chk, mSeq, mRet, mRetN, mNext, mSet, mDrop, mIfS, mIf, mPar, mTg, mAug, mCB, mCons, mNil, mBin, mChain, mTest, bOf, mAndT, mOrT, mNotT, mAnd, mOr, mNot, mNeg, mVar, mC, mTup, mLst, mYes, mItQ, mItR1, mItR2, mItE, mItZ, mRaise, mIsi, mMt, mDNew, mStore, mGet2, mSl, mPart, bindS_ok, bindS_ex, bindS_bad, Out.bind_ok, Out.bind_ex, Out.bind_bad, ofO_some, ofO_none, List.map_cons, List.map_nil, List.replicate, List.cons_append, List.nil_append, List.append_nil, List.getElem?_cons_zero, List.getElem?_cons_succ, List.set_cons_zero, List.set_cons_succ, List.length_cons, List.length_nil, List.length_append, List.length_map, wipeF, setAll, tgM, if_true, if_false, Bool.not_true, Bool.not_false, Nat.zero_add, reduceCtorEq, Bool.false_eq_true, l1, l2, l3, q0]
    · obtain ⟨hφ, hk⟩ := h
      rw [List.getElem?_map] at e
      obtain ⟨cell, e2, rfl⟩ := Option.map_eq_some_iff.mp e
      have hb := hB cell (φ.set 1 (some (.int cell))) Sx (by rw [List.length_set]; exact hφ) (List.getElem?_set_self (by omega)) fun j t h => (k3.trans hk).at' _ _ (by simp) (ht j t h)
      refine ⟨_, rfl, Goes.loop ?_⟩
      cases o : B (φ.set 1 (some (.int cell))) Sx with
      | nx φ' S' => rw [o] at hb; exact ⟨hb.1, hk.trans hb.2⟩
      | ct φ' S' => rw [o] at hb; exact ⟨hb.1, hk.trans hb.2⟩
      | bk φ' S' => rw [o] at hb; exact hb.elim
      | rt w S' => rw [o] at hb; exact hb.elim
      | ex x φ' S' => rw [o] at hb; exact hb.elim
      | bad => rw [o] at hb; exact hb.elim
    · exact hF φ Sx h.1 fun j t e => (k3.trans h.2).at' _ _ (by simp) (ht j t e)
  obtain ⟨S', h⟩ := key
  refine ⟨S', ?_⟩
  show (match (mSeq _ F) ([some w] ++ List.replicate r none) S with | .rt w S' => Out.ok w S' | .nx _ S' => .ok .non S' | .ex x _ S' => .ex x S' | _ => .bad) = _
  rw [h]
/-- the classes are told apart -/
def Inj9 (E : Nat → Addr) : Prop := ∀ i j, i ≤ 8 → j ≤ 8 → E i = E j → i = j
theorem kinOf_E {E : Nat → Addr} (h : Inj9 E) {i : Nat} (h1 : 1 ≤ i) (h7 : i ≤ 7) : kinOf E ⟨E i, none⟩ = some i := by
  unfold kinOf
  dsimp only
  have key : ∀ l : List Nat, i ∈ l → (∀ j ∈ l, j ≤ 8) → (l.find? fun j => decide (E j = E i)) = some i := by
    intro l
    induction l with
    | nil => intro z; simp at z
    | cons j l ih =>
      intro hm hb
      rw [List.find?_cons]
      by_cases e : E j = E i
      · rw [decide_eq_true e]
        rw [h j i (hb j (by simp)) (by omega) e]
      · rw [decide_eq_false e]
        rcases List.mem_cons.mp hm with z | z
        · exact absurd (by rw [z]) e
        · exact ih z fun j hj => hb j (by simp [hj])
  exact key _ (by simp; omega) (by simp)
end Wm

set_option Elab.async false
set_option linter.all false
set_option maxRecDepth 100000
set_option maxHeartbeats 3200000
namespace Wm
open PySem PySem.Spec PyProof.Rows L2 HotX

section
variable {X : Cx} {Wx : WX} {p : Addr × Obj} {D : Addr}
/-- isinstance(e, C), C a class of the program, e the handled refusal -/
theorem se_isJ {y x : Str} {C : Addr} {b : Bool} {i : Nat} {q q1 q2 pos : Pos} (hp : HotP X p) (Ce : ExcC X.K D) (hz : Zc (.ref D) none p.2) (hf : ∃ vs, p.2.data = .fields vs) (hm : X.mg x = some (.ref C)) (hk : PySem.W.kitOne X.K (.ref D) (.ref C) = some b) (hi : X.mg "isinstance" = none)
    (hv : bootBuiltins "isinstance" = some (.builtin "isinstance") := by decide +kernel) (hgT : Gl X x := by rfl) (hdT : (x == ("__debug__" : Str)) = false := by decide) (hg : Gl X "isinstance" := by rfl) (hN : X.N[i]? = some y := by rfl) (hvis : Vis X.env.scope y := by first | exact Or.inl rfl | exact Or.inr (Or.inl rfl) | exact Or.inr (Or.inr rfl))
    (hd : (y == ("__debug__" : Str)) = false := by decide) (hcd : (y == ("__classdict__" : Str)) = false := by decide)
    (hs1 : starEach [.Name y q1, .Name x q2] X.env = (false, eval (.Name y q1) X.env) :: starEach [.Name x q2] X.env := by rfl) (hs2 : starEach [.Name x q2] X.env = (false, eval (.Name x q2) X.env) :: starEach [] X.env := by rfl)
    (hpl : (backTo pos (starEach [.Name x q2] X.env)).any (·.1) = false := by rfl) : SE X Wx (.Call (.Name "isinstance" q) [.Name y q1, .Name x q2] [] pos) (mIsE i p.1 b) :=
  se_isE Ce hz hf hp.2 (pe_glob (v := .ref C) hgT hm rfl hdT) (fun _ z => z) hk hi hv hg hN hvis hd hcd hs1 hs2 hpl
theorem se_isV {y x : Str} {T : String} {b : Bool} {i : Nat} {q q1 q2 pos : Pos} (hp : HotP X p) (Ce : ExcC X.K D) (hz : Zc (.ref D) none p.2) (hf : ∃ vs, p.2.data = .fields vs) (hm : X.mg x = none) (hb : bootBuiltins x = some (.type T)) (hk : PySem.W.kitOne X.K (.ref D) (.type T) = some b) (hi : X.mg "isinstance" = none)
    (hv : bootBuiltins "isinstance" = some (.builtin "isinstance") := by decide +kernel) (hgT : Gl X x := by rfl) (hnT : x ≠ "__name__" := by decide) (hdT : (x == ("__debug__" : Str)) = false := by decide) (hg : Gl X "isinstance" := by rfl) (hN : X.N[i]? = some y := by rfl) (hvis : Vis X.env.scope y := by first | exact Or.inl rfl | exact Or.inr (Or.inl rfl) | exact Or.inr (Or.inr rfl))
    (hd : (y == ("__debug__" : Str)) = false := by decide) (hcd : (y == ("__classdict__" : Str)) = false := by decide)
    (hs1 : starEach [.Name y q1, .Name x q2] X.env = (false, eval (.Name y q1) X.env) :: starEach [.Name x q2] X.env := by rfl) (hs2 : starEach [.Name x q2] X.env = (false, eval (.Name x q2) X.env) :: starEach [] X.env := by rfl)
    (hpl : (backTo pos (starEach [.Name x q2] X.env)).any (·.1) = false := by rfl) : SE X Wx (.Call (.Name "isinstance" q) [.Name y q1, .Name x q2] [] pos) (mIsE i p.1 b) :=
  se_isE Ce hz hf hp.2 (pe_bltn (v := .ty T) hgT hm hb rfl hnT hdT) (fun _ z => z) hk hi hv hg hN hvis hd hcd hs1 hs2 hpl
end
/-- nothing is promised of a statement -/
def mNoS : SM := fun _ _ => .bad
theorem ss_no {X : Cx} {Wx : WX} {st : Stmt} : SS X Wx st mNoS := ⟨fun pins s σ H D I ⟨ρ, φ, S, F, sw, q⟩ => q.elim⟩
/-- the def that tells refusals, its helper, the classes -/
structure TryB (P : Program) (w : World) (K : PySem.W.Frag) (mg : Str → Option Value) (base : Heap) (E : Nat → Addr) (st : Stmt) : Prop where
  ex : ∃ g fd, Fun K "_law_try" "_law_try" st g fd ∧ mg "_law_try" = some (.ref g) ∧ Binds K fd ["door"] []
  tt : TryText st
  kin : KinFn P w K mg base 1 "_law_kin" E
  xe : XCn K mg E
theorem tryB_mk {P : Program} {w : World} {K : PySem.W.Frag} {mg : Str → Option Value} {base : Heap} {E : Nat → Addr} {st : Stmt} {g : Addr} {fd : FuncData} (XE : XCn K mg E) (F : Fun K "_law_try" "_law_try" st g fd) (hm : mg "_law_try" = some (.ref g)) (T : TryText st) (KF : KinFn P w K mg base 1 "_law_kin" E) (hb : Binds K fd ["door"] []) : TryB P w K mg base E st :=
  ⟨⟨g, fd, F, hm, hb⟩, T, KF, XE⟩
theorem se_tryB {X : Cx} {Wx : WX} {kb : Nat} {st : Stmt} {E : Nat → Addr} {cc P : Addr} {qn : Str} {params : Arguments} {body : Expr} {scope : Scope} {lpos p pos : Pos} {fb : FE W} (n0 : Nat) (c : Cn X Wx (kb + 2)) (B : TryB X.prog X.w X.K X.mg X.base E st)
    (TB : LamX.TabB X.base X.mg cc P) (hcode : X.env.code = .ref cc) (hqn : X.env.qual ++ "<lambda>" = qn) (L : LamX.LamS X.env.scope scope) (hdef : defaultsOf params X.env = ([], []))
    (hbind : ∀ (q : Str) (cl : List (Str × Addr)) (pm cv ctv : Value), bindArgs (PySem.W.kla_fn "<lambda>" q params body scope cl pm cv ctv) ⟨[], []⟩ = pure [])
    (hbody : ∀ (A : Around) (outer : List Env) (s : Shared) (H : Hp) (EE : XK) (f c' : Addr), Cn (lamC X A outer s H EE scope f c') (fun cls d _ H => EE cls d H) kb → SE (lamC X A outer s H EE scope f c') (fun cls d _ H => EE cls d H) body fb)
    (hg : Gl X "_law_try" := by rfl) : SE X Wx (.Call (.Name "_law_try" p) [.Lambda params body scope lpos] [] pos) (mTry P qn n0 E fb) := by
  obtain ⟨g, fd, F, hm, hb⟩ := B.ex
  exact se_try n0 c F hm hb B.tt B.kin (by omega) B.xe TB hcode hqn L hdef hbind hbody hg
theorem funL_mk {K : PySem.W.Frag} {x qual : Str} {st : Stmt} {f cc : Addr} {oc : Value} {od an : Option Addr} {osl : Array (Option Value)} {kV doc pm ct : Value} (l : K.lookup f = some ⟨oc, od, .func (PySem.W.fnOf x qual (defArgs st) (defBody st) (defScope st) .none kV doc pm an (.ref cc) ct), osl⟩)
    (c : PySem.W.codeIn K (.ref cc) qual = true) (k : PySem.W.keepIn K (.ref f) = true) : FunL K x qual st f (PySem.W.fnOf x qual (defArgs st) (defBody st) (defScope st) .none kV doc pm an (.ref cc) ct) cc := ⟨⟨oc, od, kV, doc, pm, an, ct, osl, rfl, l, c⟩, k⟩
theorem try_ex {P : Addr} {q : Str} {n0 : Nat} {E : Nat → Addr} {fb : FE W} {φ : Fr} {S S1 : Sto} {i : Nat} (inj : Inj9 E) (hS : S[n0]? = some (.tab P q)) (h1 : 1 ≤ i) (h7 : i ≤ 7) (hf : fb φ S = .ex ⟨E i, none⟩ S1) : mTry P q n0 E fb φ S = .ok (.str (kinName i)) (S1 ++ kinJunk i) := by
  unfold mTry
  rw [hS]
  dsimp only
  rw [if_pos ⟨rfl, rfl⟩, hf]
  dsimp only
  rw [kinOf_E inj h1 h7]
theorem try_told {P : Addr} {q : Str} {n0 : Nat} {E : Nat → Addr} {fb : FE W} {φ : Fr} {S S1 : Sto} {w : W} (hS : S[n0]? = some (.tab P q)) (hf : fb φ S = .ok w S1) : mTry P q n0 E fb φ S = .ok (.tup [.str "told", w]) S1 := by
  unfold mTry
  rw [hS]
  dsimp only
  rw [if_pos ⟨rfl, rfl⟩, hf]
  dsimp only
  rw [tupO_ok (show [W.str "told", w].length ≤ bigL from (by decide : 2 ≤ bigL))]
  rfl
/-! the classes, by one look -/
def clsB (K : PySem.W.Frag) (D : Addr) : Bool :=
  decide (PySem.W.findIn K (.ref D) "__getattribute__" = some (some (.builtin "BaseException.__getattribute__"))) && (decide (PySem.W.findIn K (.ref D) "__getattr__" = some none) && (decide (PySem.W.subIn K (.ref D) (.type "BaseException") = some true) && (PySem.W.hasDictIn K D &&
    (decide (PySem.W.findIn K (.ref D) "__class__" = some (some (.builtin "object.__class__"))) && (decide (PySem.W.specialIn K (.builtin "object.__class__") "__get__" = some (some (.builtin "getset_descriptor.__get__"))) && (decide (PySem.W.takesIn K (.builtin "object.__class__") = some true) &&
      decide (PySem.W.mroIn K D (.type "object") = some true)))))))
theorem clsB_ok {K : PySem.W.Frag} {D : Addr} (h : clsB K D = true) : ExcC K D := by
  unfold clsB at h
  simp only [Bool.and_eq_true, decide_eq_true_eq] at h
  obtain ⟨h1, h2, h3, h4, h5, h6, h7, h8⟩ := h
  exact ⟨h1, h2, h3, h4, h5, h6, h7, h8⟩
def xcB (K : PySem.W.Frag) (C : Nat → Addr) : Bool := [1, 2, 3, 4, 5, 6, 7].all fun i => clsB K (C i) && (([1, 2, 3, 4, 5, 6, 7, 8].all fun j => decide (PySem.W.kitOne K (.ref (C i)) (.ref (C j)) = some (decide (i = j)))) &&
  (decide (PySem.W.kitOne K (.ref (C i)) (.type "ValueError") = some true) && (decide (PySem.W.exmOne K (.ref (C i)) (.ref (C 8)) = some false) && decide (PySem.W.exmOne K (.ref (C i)) (.ref (C 0)) = some true))))
theorem xcn_of {K : PySem.W.Frag} {mg : Str → Option Value} {E E' : Nat → Addr} (h : xcB K E = true) (n0 : mg "JoinError" = some (.ref (E 0))) (n1 : mg "NoStand" = some (.ref (E 1))) (n2 : mg "NoCount" = some (.ref (E 2))) (n3 : mg "NoHerds" = some (.ref (E 3))) (n4 : mg "NoFirst" = some (.ref (E 4)))
    (n5 : mg "NoWish" = some (.ref (E 5))) (n6 : mg "NotSmall" = some (.ref (E 6))) (n7 : mg "Full" = some (.ref (E 7))) (n8 : mg "TooMany" = some (.ref (E 8))) (nv : mg "ValueError" = none) (ni : mg "isinstance" = none) (nz : mg "zip" = none) (a : ∀ i, i < 9 → E' i = E i) : XCn K mg E' := by
  have key : ∀ i, 1 ≤ i → i ≤ 7 → clsB K (E i) = true ∧ (∀ j, 1 ≤ j → j ≤ 8 → PySem.W.kitOne K (.ref (E i)) (.ref (E j)) = some (decide (i = j))) ∧ PySem.W.kitOne K (.ref (E i)) (.type "ValueError") = some true ∧ PySem.W.exmOne K (.ref (E i)) (.ref (E 8)) = some false ∧ PySem.W.exmOne K (.ref (E i)) (.ref (E 0)) = some true := fun i h1 h7 => by
    have hi := List.all_eq_true.mp h i (by simp; omega)
    simp only [Bool.and_eq_true, decide_eq_true_eq] at hi
    obtain ⟨x1, x2, x3, x4, x5⟩ := hi
    exact ⟨x1, fun j j1 j8 => of_decide_eq_true (List.all_eq_true.mp x2 j (by simp; omega)), x3, x4, x5⟩
  refine ⟨by rw [a 0 (by omega)]; exact n0, by rw [a 1 (by omega)]; exact n1, by rw [a 2 (by omega)]; exact n2, by rw [a 3 (by omega)]; exact n3, by rw [a 4 (by omega)]; exact n4, by rw [a 5 (by omega)]; exact n5, by rw [a 6 (by omega)]; exact n6, by rw [a 7 (by omega)]; exact n7, by rw [a 8 (by omega)]; exact n8, nv, ni, nz,
    fun i h1 h7 => ?_, fun i j h1 h7 j1 j8 => ?_, fun i h1 h7 => ?_, fun i h1 h7 => ?_, fun i h1 h7 => ?_⟩
  · rw [a i (by omega)]; exact clsB_ok (key i h1 h7).1
  · rw [a i (by omega), a j (by omega)]; exact (key i h1 h7).2.1 j j1 j8
  · rw [a i (by omega)]; exact (key i h1 h7).2.2.1
  · rw [a i (by omega), a 8 (by omega)]; exact (key i h1 h7).2.2.2.1
  · rw [a i (by omega), a 0 (by omega)]; exact (key i h1 h7).2.2.2.2
theorem inj9_of {l : List Addr} {E : Nat → Addr} (h : l.Nodup) (a : ∀ i, i < 9 → l[i]? = some (E i)) : Inj9 E := fun i j hi hj e => by
  obtain ⟨h1, e1⟩ := List.getElem?_eq_some_iff.mp (a i (by omega))
  obtain ⟨h2, e2⟩ := List.getElem?_eq_some_iff.mp (a j (by omega))
  exact (List.getElem_inj h).mp (e1.trans (e.trans e2.symm))
end Wm

set_option Elab.async false
set_option linter.all false
set_option maxRecDepth 100000
set_option maxHeartbeats 2000000
namespace Wm
open PySem PySem.Spec PyProof.Rows L2

/-! ### truth values counted, and told -/
section
variable {X : Cx}
theorem op_add_bi : OpR X (binaryOp .Add) (fun x y H Q => ∃ k i, x = .bl k ∧ y = .int i ∧ Q (.int ((if k = true then (1 : Int) else 0) + i)) H) := by
  intro pins s σ H x y v u Q I rx ry h
  obtain ⟨k, i, rfl, rfl, q⟩ := h
  obtain ⟨t, rfl⟩ := ry
  cases rx
  exact PySem.IntBool.add_bool_int ⟨.int _, H, I.tok _, ⟨_, rfl⟩, q⟩
theorem op_sub_bi : OpR X (binaryOp .Sub) (fun x y H Q => ∃ k i, x = .bl k ∧ y = .int i ∧ Q (.int ((if k = true then (1 : Int) else 0) - i)) H) := by
  intro pins s σ H x y v u Q I rx ry h
  obtain ⟨k, i, rfl, rfl, q⟩ := h
  obtain ⟨t, rfl⟩ := ry
  cases rx
  exact PySem.IntBool.sub_bool_int ⟨.int _, H, I.tok _, ⟨_, rfl⟩, q⟩
def oAddB : BOp
  | .bl k, .int i, S => some (.int ((if k = true then (1 : Int) else 0) + i), S)
  | _, _, _ => none
def oSubB : BOp
  | .bl k, .int i, S => some (.int ((if k = true then (1 : Int) else 0) - i), S)
  | _, _, _ => none
theorem ow_addB : OpW X (binaryOp .Add) oAddB := opw op_add_bi fun ρ H S x y w1 w2 Q s r1 r2 q => by
  unfold oAddB at q
  split at q
  · cases r1; cases r2
    exact ⟨_, _, rfl, rfl, q _ ρ H (Ext.refl _ _) (.int _) s⟩
  · exact q.elim
theorem ow_subB : OpW X (binaryOp .Sub) oSubB := opw op_sub_bi fun ρ H S x y w1 w2 Q s r1 r2 q => by
  unfold oSubB at q
  split at q
  · cases r1; cases r2
    exact ⟨_, _, rfl, rfl, q _ ρ H (Ext.refl _ _) (.int _) s⟩
  · exact q.elim
def oAddX : BOp := orOp oAdd oAddB
def oSubX : BOp := orOp oSubI oSubB
theorem ow_addX : OpW X (binaryOp .Add) oAddX := opw_or ow_add ow_addB
theorem ow_subX : OpW X (binaryOp .Sub) oSubX := opw_or ow_subI ow_subB
theorem call_str_bl : CallR X (.type "str") (fun xs H Q => ∃ k, xs = [.bl k] ∧ Q (.str (if k then "True" else "False")) H) := by
  intro pins s σ H xs us Q I r h
  obtain ⟨i, rfl, q⟩ := h
  obtain ⟨u, rfl, rx⟩ := vals1 r
  cases rx
  exact PySem.P.str_of_bool ⟨.str _, H, I.tok _, ⟨_, rfl⟩, q⟩
def oStrB : COp
  | [.bl k], S => some (.str (if k then "True" else "False"), S)
  | _, _ => none
theorem cw_strB : CallW X (.type "str") oStrB := cw call_str_bl fun ρ H S vs ws Q s r q => by
  unfold oStrB at q
  split at q
  · obtain ⟨v, rfl, r1⟩ := r.of1
    cases r1
    exact ⟨_, rfl, q _ ρ H (Ext.refl _ _) (.str _) s⟩
  · exact q.elim
def oStrX : COp := orC oStrI oStrB
theorem cw_strX : CallW X (.type "str") oStrX := cw_or cw_strI cw_strB
end

/-! ### x[::-1] -/
section
variable {prog : Program} {w : World} {A : Around} {E : Value → Shared → Prop} {s : Shared}
theorem pick_rev (xs : Array Value) : ((List.range xs.size).filterMap fun (m : Nat) => xs[(((xs.size : Int) - 1) + (m : Int) * (-1)).toNat]?).toArray = xs.toList.reverse.toArray := by
  congr 1
  have e : ∀ m ∈ List.range xs.size, (fun (m : Nat) => xs[(((xs.size : Int) - 1) + (m : Int) * (-1)).toNat]?) m = (fun m => xs.toList.reverse[m]?) m := by
    intro m hm
    have hm' := List.mem_range.mp hm
    show xs[(((xs.size : Int) - 1) + (m : Int) * (-1)).toNat]? = xs.toList.reverse[m]?
    rw [List.getElem?_reverse (by simpa using hm'), Array.length_toList, Array.getElem?_toList]
    congr 1
    omega
  have cg : ∀ (l : List Nat), (∀ m ∈ l, (fun (m : Nat) => xs[(((xs.size : Int) - 1) + (m : Int) * (-1)).toNat]?) m = (fun m => xs.toList.reverse[m]?) m) → l.filterMap (fun (m : Nat) => xs[(((xs.size : Int) - 1) + (m : Int) * (-1)).toNat]?) = l.filterMap (fun m => xs.toList.reverse[m]?) := by
    intro l
    induction l with
    | nil => intro _; rfl
    | cons a l ih =>
      intro h
      have h1 := h a List.mem_cons_self
      rw [List.filterMap_cons, List.filterMap_cons]
      have h1' : xs[(((xs.size : Int) - 1) + (a : Int) * (-1)).toNat]? = xs.toList.reverse[a]? := h1
      rw [h1', ih fun m hm => h m (List.mem_cons_of_mem _ hm)]
  rw [cg _ e]
  have z : ∀ l : List Value, (List.range l.length).filterMap (fun m => l[m]?) = l := by
    intro l
    induction l with
    | nil => rfl
    | cons a l ih =>
      rw [List.length_cons, List.range_succ_eq_map, List.filterMap_cons]
      simp only [List.getElem?_cons_zero, List.filterMap_map]
      congr 1
  have := z xs.toList.reverse
  rw [List.length_reverse, Array.length_toList] at this
  exact this
theorem sliceApplied_rev {sl : Addr} {vs : Value} {n : Nat} {Q : Int × Int × Nat → Shared → Prop} (hs : s.heap.IsSliceOf sl .none .none vs) (ps : IsPart vs (some (-1)))
    (h : Q ((n : Int) - 1, -1, n) s) : wpAny (model prog w) A (Builtin.Slice.sliceApplied (.ref sl) (pure (n : Int))) Q E s := by
  obtain ⟨os, hos, hcs, hds⟩ := id hs
  unfold Builtin.Slice.sliceApplied Builtin.Slice.sliceFields
  refine wpAny_bind (wpAny_bind (wpAny_field hos hds (x := .none) rfl (wpAny_bind (wpAny_field hos hds (x := .none) rfl (wpAny_bind (wpAny_field hos hds (x := vs) rfl (wpAny_pure ?_)))))))
  refine wpAny_bind (HT.slicePart_ ps ?_)
  show wpAny _ _ (if ((-1 : Int) == 0) = true then _ else _) _ _ s
  rw [if_neg (by decide)]
  refine wpAny_bind (HT.slicePart_ IsPart.none (wpAny_bind (HT.slicePart_ IsPart.none (wpAny_bind (wpAny_pure ?_)))))
  show wpAny _ _ (match Builtin.Slice.sliceAdjust none none (-1) (n : Int) with | (lo, hi) => pure (lo, (-1 : Int), Builtin.Slice.slicePlaces lo hi (-1))) _ _ s
  have e1 : Builtin.Slice.sliceAdjust none none (-1) (n : Int) = ((n : Int) - 1, -1) := by
    unfold Builtin.Slice.sliceAdjust
    simp
  rw [e1]
  show wpAny _ _ (pure ((n : Int) - 1, (-1 : Int), Builtin.Slice.slicePlaces ((n : Int) - 1) (-1) (-1))) _ _ s
  have e2 : Builtin.Slice.slicePlaces ((n : Int) - 1) (-1) (-1) = n := by
    unfold Builtin.Slice.slicePlaces
    have h1 : ¬ ((-1 : Int) > 0) := by omega
    simp only [h1, if_false, Int.neg_neg, Int.ediv_one]
    split <;> omega
  rw [e2]
  exact wpAny_pure h
theorem getItem_tuple_rev {t sl : Addr} {items : Array Value} {vs : Value} {Q : Value → Shared → Prop} (ht : IsTup s.heap t items) (hs : s.heap.IsSliceOf sl .none .none vs) (ps : IsPart vs (some (-1)))
    (h : Q (.ref s.heap.objs.size) { s with heap := s.heap.push { cls := .type "tuple", data := .seq items.toList.reverse.toArray } })
    (hsz : items.size ≤ sizeLine) : wpAny (model prog w) A (getItem (.ref t) (.ref sl)) Q E s := by
  have htake : sizeOk (.seq items.toList.reverse.toArray) := by
    show items.toList.reverse.toArray.size ≤ sizeLine
    rw [List.size_toArray, List.length_reverse, Array.length_toList]
    exact hsz
  obtain ⟨os, hos, hcs, hds⟩ := id hs
  have hTs : s.TypeIs (.ref sl) "slice" := ⟨os, hos, hcs⟩
  unfold getItem
  try with_reducible refine wpAny_holding ?_
  first | refine wpAny_bind (wpAny_pure ?_) | skip
  refine wpAny_bind (wpAny_sequenceKey ht.typeIs (by decide) ?_)
  refine wpAny_bind (wpAny_callSpecial?_slot (name := Str.ofString "__getitem__") ht.typeIs PyProof.Rows.slot_tuple_getitem
    (wpAny_call_entry PyProof.Rows.slot_tuple_getitem ht.typeIs entry_tuple_getitem ?_ (args_tuple_getitem _ _)))
  show wpAny _ _ (Builtin.Tuple.tupleItemsOf (.ref t) >>= _) _ _ s
  refine wpAny_bind (tupleItemsOf_ ht ?_)
  refine wpAny_bind (wpAny_typeOf hTs ?_)
  rw [if_pos (by decide)]
  refine wpAny_bind (sliceApplied_rev hs ps ?_)
  show wpAny _ _ (if (((items.size : Int) - 1) == 0 && (-1 : Int) == 1 && items.size == items.size) = true then _ else _) _ _ s
  have hno : ¬ ((((items.size : Int) - 1) == 0 && (-1 : Int) == 1 && items.size == items.size) = true) := by
    intro q
    rw [Bool.and_eq_true, Bool.and_eq_true] at q
    exact absurd (eq_of_beq q.1.2) (by decide)
  rw [if_neg hno, pick_rev]
  first
    | exact wpAny_bind (m := Builtin.Tuple.tupleExact _) (wpAny_newObj_type (wpAny_pure ⟨_, rfl, wpAny_pure h⟩) htake)
    | exact wpAny_bind (m := Builtin.Tuple.tupleExact _) (wpAny_newObj_type (wpAny_bind (wpAny_pure (wpAny_pure ⟨_, rfl, wpAny_pure h⟩))) htake)
    | exact wpAny_bind (wpAny_bind (m := Builtin.Tuple.tupleExact _) (wpAny_newObj_type (wpAny_pure (wpAny_pure ⟨_, rfl, wpAny_pure h⟩)) htake))
    | exact wpAny_bind (wpAny_bind (m := Builtin.Tuple.tupleExact _) (wpAny_newObj_type (wpAny_pure ⟨_, rfl, wpAny_pure h⟩) htake))
end
def tRevB (K : PySem.W.Frag) (te : TE) : TE := fun σ H Q => te σ H fun x H1 => ∃ a xs, x = .ref a ∧ ((SqL K H1 a xs ∧ ∀ p, H1 p = none → Q (.ref p) (upd H1 p (.lst xs.reverse))) ∨ (SqT K H1 a xs ∧ ∀ p o, H1 p = none → o.dict = none → Q (.ref p) (upd H1 p (.frz o (.tup xs.reverse)))))
section
variable {X : Cx}
theorem pe_revB {e : Expr} {te : TE} {k : Nat} {p1 p2 p3 pos : Pos} (he : PE X e te) : PE X (.Subscript e (.Slice none none (some (.UnaryOp .USub (.Constant (.int 1) k p1) p2)) p3) pos) (tRevB X.K te) := by
  refine ⟨fun pins s σ H Q I h => ?_⟩
  refine Subscript_ (thn (he.run pins s σ H _ I h) fun v s1 ⟨x, H1, I1, r1, q1⟩ => ?_)
  obtain ⟨a, xs, ex, q1⟩ := q1
  subst ex
  cases r1
  have hst : PO X (some (.UnaryOp .USub (.Constant (.int 1) k p1) p2)) (tPart (tUn (rU fun i => .int (-i)) (tC (.int 1)))) := po_some (pe_un un_neg pe_int)
  refine wpAny_Slice (thn (po_none.run pins s1 σ H1 (fun o H2 => o = none ∧ H2 = H1) I1 ⟨rfl, rfl⟩) fun vl s2 ⟨l, H2, I2, pl, el, e2⟩ => ?_)
  subst el e2
  refine thn (po_none.run pins s2 σ H2 (fun o H3 => o = none ∧ H3 = H2) I2 ⟨rfl, rfl⟩) fun vu s3 ⟨u, H3, I3, pu, eu, e3⟩ => ?_
  subst eu e3
  refine thn (hst.run pins s3 σ H3 (fun o H4 => o = some (-1) ∧ H4 = H3) I3 ⟨1, rfl, -1, rfl, rfl, rfl⟩) fun vs s4 ⟨o, H4, I4, ps, eo, e4⟩ => ?_
  subst eo e4
  have I5 : Inv X pins σ H4 { s4 with heap := s4.heap.push { cls := .type "slice", data := .fields #[vl, vu, vs] } } := I4.kept (t' := s4.toks) fun b ob q => Heap.get?_push_of_some _ q
  show wpAny (model X.prog X.w) X.A (subscriptTail e (.Slice none none (some (.UnaryOp .USub (.Constant (.int 1) k p1) p2)) p3) (.ref a) (.ref s4.heap.objs.size)) (EP X pins σ Q) X.xe { s4 with heap := s4.heap.push { cls := .type "slice", data := .fields #[vl, vu, vs] } }
  rcases q1 with ⟨hx, q⟩ | ⟨hx, q⟩
  · obtain ⟨its, r, ht, hz⟩ := I5.list hx
    have hlen := r.length
    refine tail_any (ops := [.ref a, .ref s4.heap.objs.size]) ht.isList.typeIs (PySem.slot_list_getitem.lookup) ?_ (by with_unfolding_all rfl)
    refine wpAny_getItem_list_slice ht.isList (Heap.IsSliceOf.new _ vl vu vs) pl pu ps (by decide) ?_ (by rw [List.size_toArray]; omega)
    rw [PySem.W.krv_pick]
    refine ⟨.ref _, _, I5.laid (t' := s4.toks) (o := .lst xs.reverse) (fun b ob q => Heap.get?_push_of_some _ q) (Nat.le_refl _) ?_, rfl, q _ (I5.hok.fresh (Nat.le_refl _))⟩
    exact ⟨by rw [List.length_reverse]; exact hz, _, 0, r.reverse, Heap.get?_push_size _ rfl⟩
  · obtain ⟨its, r, ht, hz⟩ := I5.tuple hx
    have hlen := r.length
    refine tail_any (ops := [.ref a, .ref s4.heap.objs.size]) ht.typeIs (PyProof.Rows.slot_tuple_getitem.lookup) ?_ (by with_unfolding_all rfl)
    cases pl
    cases pu
    refine getItem_tuple_rev ht (Heap.IsSliceOf.new _ .none .none vs) ps ?_ (by rw [List.size_toArray]; omega)
    refine ⟨.ref _, _, I5.laid (t' := s4.toks) (o := .frz { cls := .type "tuple", data := .seq its.toArray.toList.reverse.toArray } (.tup xs.reverse)) (fun b ob q => Heap.get?_push_of_some _ q) (Nat.le_refl _) ?_, rfl, q _ _ (I5.hok.fresh (Nat.le_refl _)) rfl⟩
    exact ⟨Heap.get?_push_size _ rfl, by rw [List.length_reverse]; exact hz, _, r.reverse, IsTup.new _ _⟩
end
def oRev (w : W) (S : Sto) : Option (W × Sto) := match asQ S w with
  | some (true, l) => tupO l.reverse S
  | some (false, l) => lstO l.reverse S
  | none => none
def mRev (f : FE W) : FE W := fun φ S => (f φ S).bind fun w S1 => ofO (oRev w S1)
theorem RWs.rev {K : PySem.W.Frag} {ρ : List Addr} {H : Hp} : ∀ {vs : List V} {ws : List W}, RWs K ρ H vs ws → RWs K ρ H vs.reverse ws.reverse
  | _, _, .nil => .nil
  | _, _, .cons h r => by rw [List.reverse_cons, List.reverse_cons]; exact (RWs.rev r).append (.cons h .nil)
section
variable {X : Cx} {Wx : WX} {e : Expr} {pos p2 : Pos} {f : FE W}
theorem se_rev {k : Nat} {p1 p2 p3 : Pos} (he : SE X Wx e f) : SE X Wx (.Subscript e (.Slice none none (some (.UnaryOp .USub (.Constant (.int 1) k p1) p2)) p3) pos) (mRev f) :=
  weakE (pe_revB he) fun σ H Q ⟨ρ, φ, S, F, s, q⟩ =>
  into F s q fun w S1 v ρ1 H1 e1 r1 s1 F1 q1 => by
    have q4 := PosR.of q1
    clear q1
    unfold oRev at q4
    split at q4
    · rename_i l g
      have e := asQ_tup g
      subst e
      obtain ⟨ad, vs, rfl, hq, rs⟩ := asT_of r1
      exact ⟨ad, vs, rfl, .inr ⟨hq, (tup_new s1 rs.rev q4).2⟩⟩
    · rename_i l g
      obtain ⟨ad, vs, rfl, hq, rs⟩ := asL_of s1 r1 (asQ_lst g)
      exact ⟨ad, vs, rfl, .inl ⟨hq, (lst_new s1 rs.rev q4).2⟩⟩
    · exact q4.elim
end

/-! ### isinstance(x, (tuple, list)) -/
def mIsi2 (T U : Ty) (f : FE W) : FE W := fun φ S => (f φ S).bind fun w S1 => match tyW S1 w with
  | some t => .ok (.bl (isT t T || isT t U)) S1
  | none => .bad
theorem kit_any2 {K : PySem.W.Frag} (t T U : Ty) (h : T ≠ .non) (h2 : U ≠ .non) : PySem.W.kitAny K (.type t.name) [.type T.name, .type U.name] = some (isT t T || isT t U) := by
  have a := kit_ty (K := K) (kit_isT t T h)
  have b := kit_ty (K := K) (kit_isT t U h2)
  unfold PySem.W.kitAny
  rw [a]
  cases isT t T with
  | true => rfl
  | false =>
    show PySem.W.kitAny K (.type t.name) [.type U.name] = _
    unfold PySem.W.kitAny
    rw [b]
    cases isT t U <;> rfl
section
variable {X : Cx} {Wx : WX} {e : Expr} {pos p pT pU p3 : Pos} {f : FE W}
theorem se_isi2 (T U : Ty) {x y : Str} {k : Nat} (hi : X.mg "isinstance" = none) (hT : X.mg x = none) (hU : X.mg y = none) (hv : bootBuiltins "isinstance" = some (.builtin "isinstance")) (hvT : bootBuiltins x = some (.type T.name)) (hvU : bootBuiltins y = some (.type U.name)) (he : SE X Wx e f) (hg : Gl X "isinstance" := by rfl) (hgT : Gl X x := by rfl) (hgU : Gl X y := by rfl) (hN : T ≠ .non := by decide) (hN2 : U ≠ .non := by decide)
    (hn : x ≠ "__name__" := by decide) (hd : (x == ("__debug__" : Str)) = false := by decide)
    (hn2 : y ≠ "__name__" := by decide) (hd2 : (y == ("__debug__" : Str)) = false := by decide)
    (hs1 : starEach [e, .Tuple [.Name x pT, .Name y pU] k p3] X.env = (false, eval e X.env) :: starEach [.Tuple [.Name x pT, .Name y pU] k p3] X.env := by rfl) (hs2 : starEach [.Tuple [.Name x pT, .Name y pU] k p3] X.env = (false, eval (.Tuple [.Name x pT, .Name y pU] k p3) X.env) :: starEach [] X.env := by rfl)
    (ht1 : starEach [.Name x pT, .Name y pU] X.env = (false, eval (.Name x pT) X.env) :: starEach [.Name y pU] X.env := by rfl) (ht2 : starEach [.Name y pU] X.env = (false, eval (.Name y pU) X.env) :: starEach [] X.env := by rfl)
    (hpl : (backTo pos (starEach [.Tuple [.Name x pT, .Name y pU] k p3] X.env)).any (·.1) = false := by rfl) :
    SE X Wx (.Call (.Name "isinstance" p) [e, .Tuple [.Name x pT, .Name y pU] k p3] [] pos) (mIsi2 T U f) :=
  weakE (pe_callB call_isiT hg hi hv (pa_cons he (pa_cons (pe_tup (pa_cons (pe_bltn (v := .ty T.name) hgT hT hvT rfl hn hd) (pa_cons (pe_bltn (v := .ty U.name) hgU hU hvU rfl hn2 hd2) pa_nil ht2) ht1)) pa_nil hs2) hs1) (he := hs1) (hpl := hpl)) fun σ H Q ⟨ρ, φ, S, F, s, q⟩ =>
  into F s q fun w S1 v ρ1 H1 e1 r1 s1 F1 q1 => by
    split at q1
    · rename_i t g
      refine ⟨by show 2 ≤ sizeLine; decide, fun p hp => ?_⟩
      exact ⟨v, p, [.ty T.name, .ty U.name], .type t.name, [.type T.name, .type U.name], isT t T || isT t U, rfl, upd_same, .cons (.ty _) (.cons (.ty _) .nil), tyW_of (s1.tup hp) (r1.mono (Ext.new hp)) g, kit_any2 t T U hN hN2, q1 _ ρ1 _ (Ext.new hp) (.bl _) (s1.tup hp)⟩
    · exact q1.elim
end
end Wm

set_option Elab.async false
set_option linter.all false
set_option maxRecDepth 100000
set_option maxHeartbeats 2000000
namespace Wm
open PySem PySem.Spec PyProof.Rows L2

/-! ### instances of an own class: attributes -/
def putFW (f : Str) (w : W) : List (Str × W) → List (Str × W)
  | [] => [(f, w)]
  | (g, x) :: r => if g = f then (g, w) :: r else (g, x) :: putFW f w r
theorem FWs.look {K : PySem.W.Frag} {ρ : List Addr} {H : Hp} {f : Str} : ∀ {gs : List (Str × V)} {fs : List (Str × W)}, FWs K ρ H gs fs → (∀ w, fs.lookup f = some w → ∃ v, gs.lookup f = some v ∧ RW K ρ H v w) ∧ (fs.lookup f = none → gs.lookup f = none)
  | _, _, .nil => ⟨(fun w z => by cases z), fun _ => rfl⟩
  | (g, v) :: gs, (g', w) :: fs, .cons ⟨e, r⟩ t => by
    obtain ⟨a, b⟩ := FWs.look (f := f) t
    have e' : g = g' := e
    subst e'
    rw [List.lookup_cons, List.lookup_cons]
    cases q : f == g with
    | true => exact ⟨(fun w' z => by cases z; exact ⟨v, rfl, r⟩), fun z => by cases z⟩
    | false => exact ⟨a, b⟩
theorem FWs.len {K : PySem.W.Frag} {ρ : List Addr} {H : Hp} : ∀ {gs : List (Str × V)} {fs : List (Str × W)}, FWs K ρ H gs fs → gs.length = fs.length
  | _, _, .nil => rfl
  | _, _, .cons _ t => by rw [List.length_cons, List.length_cons, FWs.len t]
/-- an own class whose instances bear the attributes herds and gone -/
structure PlC (K : PySem.W.Frag) (C : Addr) : Prop where
  cl : Cls K C
  nh : NoAttr K C "herds"
  ng : NoAttr K C "gone"
  ca : PySem.W.findIn K (.ref C) "__class__" = some (some (.builtin "object.__class__"))
  cn : PySem.W.specialIn K (.builtin "object.__class__") "__get__" = some (some (.builtin "getset_descriptor.__get__"))
  ck : PySem.W.takesIn K (.builtin "object.__class__") = some true
  cm : PySem.W.mroIn K C (.type "object") = some true
def isFld (f : Str) : Bool := decide (f = "herds") || decide (f = "gone")
theorem PlC.no {K : PySem.W.Frag} {C : Addr} (c : PlC K C) {f : Str} (h : isFld f = true) : NoAttr K C f := by
  unfold isFld at h
  rw [Bool.or_eq_true] at h
  rcases h with h | h
  · rw [of_decide_eq_true h]; exact c.nh
  · rw [of_decide_eq_true h]; exact c.ng
/-- the attributes of an instance of the class at C -/
def insOf (C : Addr) (S : Sto) : W → Option (Nat × List (Str × W))
  | .ref n => match S[n]? with
    | some (.ins C' fs) => if C' = C then some (n, fs) else none
    | _ => none
  | _ => none
theorem insOf_is {C : Addr} {S : Sto} {w : W} {n : Nat} {fs : List (Str × W)} (h : insOf C S w = some (n, fs)) : w = .ref n ∧ S[n]? = some (.ins C fs) := by
  unfold insOf at h
  split at h
  · split at h
    · rename_i g
      split at h
      · rename_i e
        cases h
        subst e
        exact ⟨rfl, g⟩
      · cases h
    · cases h
  · cases h
def mFld (C : Addr) (f : Str) (fo : FE W) : FE W := fun φ S => (fo φ S).bind fun w S1 => match insOf C S1 w with
  | some (_, fs) => match fs.lookup f with
    | some x => .ok x S1
    | none => .bad
  | none => .bad
section
variable {X : Cx} {Wx : WX} {e o : Expr} {es : List Expr} {f : Str} {pos pos' tpos apos p : Pos} {fo fv : FE W} {C : Addr} {k j n : Nat}
theorem se_fld (c : PlC X.K C) (hf : isFld f = true) (he : SE X Wx e fo) (hb : attributeBase e f X.env (eval e X.env) = eval e X.env := by rfl) : SE X Wx (.Attribute e f pos) (mFld C f fo) :=
  weakE (pe_fld he hb) fun σ H Q ⟨ρ, φ, S, F, s, q⟩ =>
  into F s q fun w S1 v ρ1 H1 e1 r1 s1 F1 q1 => by
    split at q1
    · rename_i n fs g
      split at q1
      · rename_i x l
        obtain ⟨rfl, hn⟩ := insOf_is g
        cases r1 with
        | ref ha =>
          obtain ⟨dx, gs, hH, hfs⟩ := s1.ob _ _ _ ha hn
          obtain ⟨v, lv, rv⟩ := (hfs.look (f := f)).1 x l
          exact ⟨_, C, dx, gs, v, rfl, hH, c.cl, c.no hf, lv, q1 _ ρ1 H1 (Ext.refl _ _) rv s1⟩
      · exact q1.elim
    · exact q1.elim
theorem FWs.put {K : PySem.W.Frag} {ρ : List Addr} {H : Hp} {f : Str} {v : V} {w : W} (r : RW K ρ H v w) : ∀ {gs : List (Str × V)} {fs : List (Str × W)}, FWs K ρ H gs fs → FWs K ρ H (L2.putF f v gs) (putFW f w fs)
  | _, _, .nil => .cons ⟨rfl, r⟩ .nil
  | (g, v') :: gs, (g', w') :: fs, .cons ⟨e, r'⟩ t => by
    have e' : g = g' := e
    subst e'
    unfold L2.putF putFW
    by_cases h : g = f
    · rw [if_pos h, if_pos h]; exact .cons ⟨rfl, r⟩ t
    · rw [if_neg h, if_neg h]; exact .cons ⟨rfl, r'⟩ (FWs.put r t)
/-- o.f = e -/
def mSetF (C : Addr) (f : Str) (fo fv : FE W) : SM := fun φ S => bindS (fv φ S) φ fun v S1 => bindS (fo φ S1) φ fun o S2 => match insOf C S2 o with
  | some (n, fs) => if fs.length < 100 then .nx φ (S2.set n (.ins C (putFW f v fs))) else .bad
  | none => .bad
theorem ss_setF (c : PlC X.K C) (hf : isFld f = true) (ho : SE X Wx o fo) (hv : SE X Wx e fv) (hs : swapsWith e (some (.Attribute o f pos')) pos.line X.env = pure false := by rfl) : SS X Wx (.Assign [.Attribute o f pos'] e pos) (mSetF C f fo fv) :=
  weakS (ps_fld ho hv hs) fun D σ H ⟨ρ, φ, S, F, s, q⟩ =>
  intoS F s q fun v S1 vv ρ1 H1 e1 r1 s1 F1 q1 => intoS F1 s1 q1 fun ow S2 vo ρ2 H2 e2 r2 s2 F2 q2 => by
    split at q2
    · rename_i n fs g
      split at q2
      · rename_i hl
        obtain ⟨rfl, hn⟩ := insOf_is g
        cases r2 with
        | ref ha =>
          obtain ⟨dx, gs, hH, hfs⟩ := s2.ob _ _ _ ha hn
          refine ⟨_, C, dx, gs, rfl, hH, c.cl, c.no hf, by rw [hfs.len]; omega, ?_⟩
          have ex := Ext.upd (u := .ins C dx (L2.putF f vv gs)) s2 ha hn
          exact q2 ρ2 σ _ ex (F2.mono ex) (s2.set ha hn ⟨dx, _, upd_same, ((hfs.mono ex).put ((r1.mono e2).mono ex))⟩)
      · exact q2.elim
    · exact q2.elim
/-- o.f += e, whole numbers -/
def mAugF (C : Addr) (f : Str) (fo fv : FE W) : SM := fun φ S => bindS (fo φ S) φ fun o S1 => match insOf C S1 o with
  | some (n, fs) => match fs.lookup f with
    | some (.int i) => bindS (fv φ S1) φ fun w S2 => match w, insOf C S2 o with
      | .int j, some (_, gs) => if gs.length < 100 then .nx φ (S2.set n (.ins C (putFW f (.int (i + j)) gs))) else .bad
      | _, _ => .bad
    | _ => .bad
  | none => .bad
theorem ss_augF (c : PlC X.K C) (hf : isFld f = true) (ho : SE X Wx o fo) (hv : SE X Wx e fv) : SS X Wx (.AugAssign (.Attribute o f tpos) .Add e pos) (mAugF C f fo fv) :=
  weakS (ps_fldaug (rd := rI0 fun i j => .int (i + j)) ho hv (fun pins s σ H x y u v Q I rx ry h => iop_add pins s σ H x y u v Q I rx ry h)) fun D σ H ⟨ρ, φ, S, F, s, q⟩ =>
  intoS F s q fun ow S1 vo ρ1 H1 e1 r1 s1 F1 q1 => by
    split at q1
    · rename_i n fs g
      obtain ⟨rfl, hn⟩ := insOf_is g
      split at q1
      · rename_i i l
        cases r1 with
        | @ref a _ ha =>
          obtain ⟨dx, gs, hH, hfs⟩ := s1.ob _ _ _ ha hn
          obtain ⟨v, lv, rv⟩ := (hfs.look (f := f)).1 _ l
          cases rv
          refine ⟨a, C, dx, gs, .int i, rfl, hH, c.cl, c.no hf, lv, ?_⟩
          refine intoS F1 s1 q1 fun w S2 vv ρ2 H2 e2 r2 s2 F2 q2 => ?_
          split at q2
          · rename_i j m gs2 g2
            split at q2
            · rename_i hl
              obtain ⟨e3, hn2⟩ := insOf_is g2
              cases e3
              cases r2
              have ha2 := e2.pre _ _ ha
              obtain ⟨dx2, gs3, hH2, hfs2⟩ := s2.ob _ _ _ ha2 hn2
              refine ⟨i, j, rfl, rfl, dx2, gs3, hH2, by rw [hfs2.len]; omega, ?_⟩
              have ex := Ext.upd (u := .ins C dx2 (L2.putF f (.int (i + j)) gs3)) s2 ha2 hn2
              exact q2 ρ2 σ _ ex (F2.mono ex) (s2.set ha2 hn2 ⟨dx2, _, upd_same, (hfs2.mono ex).put (.int _)⟩)
            · exact q2.elim
          · exact q2.elim
      · exact q1.elim
    · exact q1.elim
/-- the method m of the class at C does what mm tells (n: its parameters, self among them) -/
def MFn (P : Program) (w : World) (K : PySem.W.Frag) (mg : Str → Option Value) (base : Heap) (C : Addr) (k : Nat) (m : Str) (n : Nat) (mm : FM) : Prop :=
  ∃ f fd ps, Meth K C m f ∧ Binds K fd ps [] ∧ ps.length = n ∧ FnOk P w K mg base (L2N.CX P w) k f fd ps (spM K n mm)
/-- o.m(..) -/
def mMeth (C : Addr) (m : Str) (n : Nat) (mm : FM) (fo : FE W) (fr : FE (List W)) : FE W := fun φ S => (fo φ S).bind fun o S1 => match insOf C S1 o with
  | some (_, fs) => if fs.lookup m = none then (fr φ S1).bind fun ws S2 => chk n mm (o :: ws) S2 else .bad
  | none => .bad
end
end Wm

set_option Elab.async false
set_option linter.all false
set_option maxRecDepth 100000
set_option maxHeartbeats 2000000
namespace Wm
open PySem PySem.Spec PyProof.Rows L2

section
variable {X : Cx} {CX : CXT} {k : Nat} {f C : Addr} {fd : FuncData} {ps : List Str} {sp : Sp} {E : L2.St → XK} {x m : Str} {p pos apos : Pos} {e o : Expr} {es : List Expr} {ta : TE} {t : TA}
def tMethSD (C : Addr) (m : Str) (sp : Sp) (E : L2.St → XK) (ta : TE) (t : TA) : TE := fun σ H Q => ta σ H fun x H1 => ∃ a dx fs, x = .ref a ∧ H1 a = some (.ins C dx fs) ∧ fs.lookup m = none ∧ t σ H1 fun vs H2 => sp ((x :: vs) ++ []) H2 Q (E σ)
theorem pe_methSD {pl : Sem Bool} (he : PE X o ta) (c : Cls X.K C) (hm : Meth X.K C m f) (F : FnOk X.prog X.w X.K X.mg X.base CX k f fd ps sp) (hr : Room k X.A) (hb : Binds X.K fd ps []) (hx : ∀ σ, PassesAt CX X σ (E σ)) (ha : PA X (e :: es) t)
    (hst : starEach (e :: es) X.env = (false, eval e X.env) :: starEach es X.env := by rfl) (hpl : (backTo pos (starEach es X.env)).any (·.1) = false := by rfl)
    (ht : eval (.Call (.Attribute o m apos) (e :: es) [] pos) X.env = (do
      let ov ← eval o X.env
      standAt apos.atName
      let (f, first) ← holding [ov] (getMethod ov m pl)
      callWith pos f first (backTo pos (starEach (e :: es) X.env)) (backToKw pos (keywordEach [] X.env))) := by rfl) :
    PE X (.Call (.Attribute o m apos) (e :: es) [] pos) (tMethSD C m sp E ta t) := by
  refine ⟨fun pins s σ H Q I h => ?_⟩
  refine PySem.W.methodCall_KW (pl := pl) (thn (he.run pins s σ H _ I h) fun u s1 ⟨x, H1, I1, rx, a, dx, fs, ex, ea, l, q⟩ => ?_) ht
  subst ex
  obtain rfl : u = Value.ref a := rx
  refine getmeth_ok I1 ea c hm l ?_
  refine PySem.W.callWith_K (first := [.ref a]) (h₀ := X.base) I.ok.mod.kin hm.kp (thn (ha.run pos pins s1 σ H1 _ I1 q) fun us s2 ⟨vs, H2, I2, r, q2⟩ => ⟨I2.kIn, ?_⟩) hst hpl
  exact run_fnSD (us := .ref a :: us) (vs := .ref a :: vs) F hr hb .nil (hx σ) I2 (.cons rfl r) q2
theorem pe_methSD0 {pl : Sem Bool} (he : PE X o ta) (c : Cls X.K C) (hm : Meth X.K C m f) (F : FnOk X.prog X.w X.K X.mg X.base CX k f fd ps sp) (hr : Room k X.A) (hb : Binds X.K fd ps []) (hx : ∀ σ, PassesAt CX X σ (E σ))
    (ht : eval (.Call (.Attribute o m apos) [] [] pos) X.env = (do
      let ov ← eval o X.env
      standAt apos.atName
      let (f, first) ← holding [ov] (getMethod ov m pl)
      callWith pos f first (backTo pos (starEach [] X.env)) (backToKw pos (keywordEach [] X.env))) := by rfl) :
    PE X (.Call (.Attribute o m apos) [] [] pos) (tMethSD C m sp E ta tNil) := by
  refine ⟨fun pins s σ H Q I h => ?_⟩
  refine PySem.W.methodCall_KW (pl := pl) (thn (he.run pins s σ H _ I h) fun u s1 ⟨x, H1, I1, rx, a, dx, fs, ex, ea, l, q⟩ => ?_) ht
  subst ex
  obtain rfl : u = Value.ref a := rx
  refine getmeth_ok I1 ea c hm l ?_
  exact PySem.W.callWith_K0 (first := [.ref a]) I1.kIn hm.kp (run_fnSD (us := [.ref a]) (vs := [.ref a]) F hr hb .nil (hx σ) I1 (.cons rfl .nil) q)
end
section
variable {X : Cx} {Wx : WX} {e o : Expr} {es : List Expr} {m : Str} {pos apos p : Pos} {fo : FE W} {fr : FE (List W)} {C : Addr} {k j n : Nat} {mm : FM}
theorem se_meth {pl : Sem Bool} (cn : Cn X Wx k) (c : PlC X.K C) (M : MFn X.prog X.w X.K X.mg X.base C j m n mm) (hj : j ≤ k) (ho : SE X Wx o fo) (ha : SA X Wx (e :: es) fr)
    (hst : starEach (e :: es) X.env = (false, eval e X.env) :: starEach es X.env := by rfl) (hpl : (backTo pos (starEach es X.env)).any (·.1) = false := by rfl)
    (ht : eval (.Call (.Attribute o m apos) (e :: es) [] pos) X.env = (do
      let ov ← eval o X.env
      standAt apos.atName
      let (f, first) ← holding [ov] (getMethod ov m pl)
      callWith pos f first (backTo pos (starEach (e :: es) X.env)) (backToKw pos (keywordEach [] X.env))) := by rfl) : SE X Wx (.Call (.Attribute o m apos) (e :: es) [] pos) (mMeth C m n mm fo fr) := by
  obtain ⟨f, fd, ps, h1, h2, h3, h4⟩ := M
  refine weakE (pe_methSD (pl := pl) (E := WE Wx) ho c.cl h1 h4 (cn.hr.mono hj) h2 (fun σ => L2N.passAt cn.tk σ) ha hst hpl ht) fun σ H Q ⟨ρ, φ, S, F, s, q⟩ => ?_
  refine into F s q fun w S1 v ρ1 H1 e1 r1 s1 F1 q1 => ?_
  split at q1
  · rename_i n' fs g
    obtain ⟨rfl, hn⟩ := insOf_is g
    split at q1
    · rename_i hl
      cases r1 with
      | @ref a _ ha' =>
        obtain ⟨dx, gs, hH, hfs⟩ := s1.ob _ _ _ ha' hn
        refine ⟨a, dx, gs, rfl, hH, (hfs.look (f := m)).2 hl, ?_⟩
        refine into F1 s1 q1 fun ws S2 vs ρ2 H2 e2 r2 s2 F2 q2 => ?_
        exact ⟨ρ2, .ref n' :: ws, S2, by rw [List.append_nil]; exact .cons (.ref (e2.pre _ _ ha')) r2, s2, q2⟩
    · exact q1.elim
  · exact q1.elim
theorem se_meth0 {pl : Sem Bool} (cn : Cn X Wx k) (c : PlC X.K C) (M : MFn X.prog X.w X.K X.mg X.base C j m n mm) (hj : j ≤ k) (ho : SE X Wx o fo)
    (ht : eval (.Call (.Attribute o m apos) [] [] pos) X.env = (do
      let ov ← eval o X.env
      standAt apos.atName
      let (f, first) ← holding [ov] (getMethod ov m pl)
      callWith pos f first (backTo pos (starEach [] X.env)) (backToKw pos (keywordEach [] X.env))) := by rfl) : SE X Wx (.Call (.Attribute o m apos) [] [] pos) (mMeth C m n mm fo mNil) := by
  obtain ⟨f, fd, ps, h1, h2, h3, h4⟩ := M
  refine weakE (pe_methSD0 (pl := pl) (E := WE Wx) ho c.cl h1 h4 (cn.hr.mono hj) h2 (fun σ => L2N.passAt cn.tk σ) ht) fun σ H Q ⟨ρ, φ, S, F, s, q⟩ => ?_
  refine into F s q fun w S1 v ρ1 H1 e1 r1 s1 F1 q1 => ?_
  split at q1
  · rename_i n' fs g
    obtain ⟨rfl, hn⟩ := insOf_is g
    split at q1
    · rename_i hl
      cases r1 with
      | @ref a _ ha' =>
        obtain ⟨dx, gs, hH, hfs⟩ := s1.ob _ _ _ ha' hn
        refine ⟨a, dx, gs, rfl, hH, (hfs.look (f := m)).2 hl, ?_⟩
        exact ⟨ρ1, [.ref n'], S1, .cons (.ref ha') .nil, s1, q1⟩
    · exact q1.elim
  · exact q1.elim
end

/-! ### an instance is made -/
section
variable {X : Cx} {CX : CXT} {k : Nat} {f C : Addr} {fd : FuncData} {ps : List Str} {sp : Sp} {E : L2.St → XK} {x m : Str} {p pos apos : Pos} {e o : Expr} {es : List Expr} {ta : TE} {t : TA}
def tMakeSD (C : Addr) (sp : Sp) (E : L2.St → XK) (t : TA) : TE := fun σ H Q => t σ H fun vs H1 => ∀ x dx, H1 x = none → H1 dx = none → dx ≠ x → sp (.ref x :: vs) (upd (upd H1 dx (.own x)) x (.ins C dx [])) (fun v H2 => v = .non ∧ Q (.ref x) H2) (E σ)
theorem run_makeSD {pins : List (Addr × Obj)} {σ : L2.St} {H : Hp} {s : Shared} {Q : VK} {us : List Value} {vs : List V} (M : Mk X.K C f) (F : FnOk X.prog X.w X.K X.mg X.base CX k f fd ps sp) (hr : Room (k + 1) X.A) (hb : Binds X.K fd ps [])
    (hx : PassesAt CX X σ (E σ)) (I : Inv X pins σ H s) (r : Vals vs us)
    (h : ∀ x dx, H x = none → H dx = none → dx ≠ x → sp (.ref x :: vs) (upd (upd H dx (.own x)) x (.ins C dx [])) (fun v H2 => v = .non ∧ Q (.ref x) H2) (E σ)) :
    wpAny (model X.prog X.w) X.A (call (.ref C) us) (EP X pins σ Q) X.xe s := by
  have hq := h (s.heap.objs.size + 1) s.heap.objs.size (I.hok.fresh (Nat.le_succ _)) (I.hok.fresh (Nat.le_refl _)) (Nat.ne_of_lt (Nat.lt_succ_self _))
  have I2 := Inv.made (C := C) I
  have r2 : Vals (V.ref (s.heap.objs.size + 1) :: vs) (Value.ref (s.heap.objs.size + 1) :: us) := .cons rfl r
  have hl : (Value.ref (s.heap.objs.size + 1) :: us ++ []).length = ps.length := by
    have e := r2.length
    rw [F.len _ _ _ _ hq] at e
    rw [List.append_nil]
    exact e.symm
  have b := hb _ (Value.ref (s.heap.objs.size + 1) :: us) I2.kIn hl
  rw [List.append_nil] at b
  refine wpAny_call (make_map (f := f) I.kIn M.makes M.init (beq_iff_eq.mp M.fn) (codeAny_mono (F.run _ X.stack _ _ ⟨Value.ref (s.heap.objs.size + 1) :: us, []⟩ (Value.ref (s.heap.objs.size + 1) :: us) _ _ (E σ) (hr.make C us [])
    (I2.env0.make C us []) b r2 hq) fun r s' hq' => ?_))
  cases r with
  | error e => exact hx pins _ _ e s' I2 hq'
  | ok fl =>
    cases fl with
    | ret u =>
      obtain ⟨v, H', I3, rv, ev, q3⟩ := I2.after hq'
      subst ev
      exact ⟨rv, ⟨V.ref (s.heap.objs.size + 1), H', I3, rfl, q3⟩⟩
    | next => exact False.elim hq'
    | brk => exact False.elim hq'
    | cont => exact False.elim hq'
theorem pe_makeSD (M : Mk X.K C f) (F : FnOk X.prog X.w X.K X.mg X.base CX k f fd ps sp) (hr : Room (k + 1) X.A) (hg : Gl X x) (hm : X.mg x = some (.ref C)) (hb : Binds X.K fd ps []) (hx : ∀ σ, PassesAt CX X σ (E σ))
    (ha : PA X (e :: es) t) (hdb : (x == ("__debug__" : Str)) = false := by decide) (he : starEach (e :: es) X.env = (false, eval e X.env) :: starEach es X.env := by rfl) (hpl : (backTo pos (starEach es X.env)).any (·.1) = false := by rfl) :
    PE X (.Call (.Name x p) (e :: es) [] pos) (tMakeSD C sp E t) := by
  refine ⟨fun pins s σ H Q I h => ?_⟩
  refine wpAny_Call_Name_kw (ld_glob I hg hm ?_ hdb)
  refine PySem.W.callWith_K (h₀ := X.base) I.ok.mod.kin M.kp (thn (ha.run pos pins s σ H _ I h) fun us s1 ⟨vs, H1, I1, r, q⟩ => ⟨I1.kIn, ?_⟩) he hpl
  exact run_makeSD M F hr hb (hx σ) I1 r q
end
/-- the class at C, its instances made by what mm tells (n: the parameters of __init__, self among them) -/
def KFn (P : Program) (w : World) (K : PySem.W.Frag) (mg : Str → Option Value) (base : Heap) (C : Addr) (k : Nat) (x : Str) (n : Nat) (mm : FM) : Prop :=
  ∃ f fd ps, mg x = some (.ref C) ∧ Mk K C f ∧ Binds K fd ps [] ∧ ps.length = n ∧ FnOk P w K mg base (L2N.CX P w) k f fd ps (spM K n mm)
def mMake (C : Addr) (n : Nat) (mm : FM) (fr : FE (List W)) : FE W := fun φ S => (fr φ S).bind fun ws S1 => match chk n mm (.ref S1.length :: ws) (S1 ++ [.ins C []]) with
  | .ok .non S2 => .ok (.ref S1.length) S2
  | .ok _ _ => .bad
  | .ex x S2 => .ex x S2
  | .bad => .bad
section
variable {X : Cx} {Wx : WX} {e o : Expr} {es : List Expr} {x : Str} {pos apos p : Pos} {fo : FE W} {fr : FE (List W)} {C : Addr} {k j n : Nat} {mm : FM}
theorem se_make (cn : Cn X Wx k) (M : KFn X.prog X.w X.K X.mg X.base C j x n mm) (hj : j + 1 ≤ k) (ha : SA X Wx (e :: es) fr) (hg : Gl X x := by rfl)
    (hdb : (x == ("__debug__" : Str)) = false := by decide) (he : starEach (e :: es) X.env = (false, eval e X.env) :: starEach es X.env := by rfl) (hpl : (backTo pos (starEach es X.env)).any (·.1) = false := by rfl) :
    SE X Wx (.Call (.Name x p) (e :: es) [] pos) (mMake C n mm fr) := by
  obtain ⟨f, fd, ps, h1, h2, h3, h4, h5⟩ := M
  refine weakE (pe_makeSD (E := WE Wx) h2 h5 (cn.hr.mono hj) hg h1 h3 (fun σ => L2N.passAt cn.tk σ) ha hdb he hpl) fun σ H Q ⟨ρ, φ, S, F, s, q⟩ => ?_
  refine into F s q fun ws S1 vs ρ1 H1 e1 r1 s1 F1 q1 => fun a dx na nd ne => ?_
  have ex1 : Ext ρ1 H1 ρ1 (upd H1 dx (.own a)) := Ext.new nd
  have s2 := s1.tup (o := .own a) nd
  have na2 : upd H1 dx (.own a) a = none := by rw [upd_ne (Ne.symm ne)]; exact na
  have ex2 : Ext ρ1 (upd H1 dx (.own a)) (ρ1 ++ [a]) (upd (upd H1 dx (.own a)) a (.ins C dx [])) := Ext.push na2
  have s3 := s2.push (u := .ins C dx []) (o := .ins C []) na2 ⟨dx, [], upd_same, .nil⟩
  refine ⟨ρ1 ++ [a], .ref S1.length :: ws, S1 ++ [.ins C []], .cons (.ref (push_at s1 a)) (r1.mono (ex1.trans ex2)), s3, ?_⟩
  cases g : chk n mm (.ref S1.length :: ws) (S1 ++ [.ins C []]) with
  | ok w S2 =>
    rw [g] at q1
    cases w with
    | non =>
      intro v ρ4 H4 e4 r4 s4
      cases r4
      exact ⟨rfl, q1 _ ρ4 H4 ((ex1.trans ex2).trans e4) (.ref (e4.pre _ _ (push_at s1 a))) s4⟩
    | _ => exact q1.elim
  | ex x' S2 =>
    rw [g] at q1
    intro cls d ρ4 H4 e4 r4 s4
    exact q1 cls d ρ4 H4 ((ex1.trans ex2).trans e4) r4 s4
  | bad => rw [g] at q1; exact q1.elim
end
end Wm

set_option Elab.async false
set_option linter.all false
set_option maxRecDepth 100000
set_option maxHeartbeats 2000000
namespace Wm
open PySem PySem.Spec PyProof.Rows L2

/-! ### an instance and a tuple, told apart; own ==, own len -/
structure PlX (K : PySem.W.Frag) (C : Addr) : Prop where
  c : PlC K C
  nt : PySem.W.notFirst K C (.type "tuple") = true
  kt : PySem.W.kitOne K (.type "tuple") (.ref C) = some false
def kinC (C : Addr) (S : Sto) (w : W) : Option Bool := match insOf C S w with
  | some _ => some true
  | none => match w with
    | .tup _ => some false
    | _ => none
def kinT (C : Addr) : Bool → Value
  | true => .ref C
  | false => .type "tuple"
theorem kinC_of {K : PySem.W.Frag} {ρ : List Addr} {H : Hp} {S : Sto} {x : V} {w : W} {C : Addr} {b : Bool} (c : PlC K C) (s : SW K ρ H S) (r : RW K ρ H x w) (h : kinC C S w = some b) : TyX K H x (kinT C b) := by
  unfold kinC at h
  split at h
  · rename_i p g
    cases h
    obtain ⟨rfl, hn⟩ := insOf_is (n := p.1) (fs := p.2) g
    cases r with
    | ref ha =>
      obtain ⟨dx, gs, hH, _⟩ := s.ob _ _ _ ha hn
      exact .base (.ins hH c.cl c.ca c.cn c.ck c.cm)
  · split at h
    · cases h
      cases r with
      | tup e _ _ => exact .fTuple e
    · cases h
theorem kit_kin {K : PySem.W.Frag} {C : Addr} (px : PlX K C) : ∀ b, PySem.W.kitOne K (kinT C b) (.ref C) = some b
  | true => by
    unfold PySem.W.kitOne kinT
    rw [if_pos (by simp)]
  | false => px.kt
theorem first_kin {K : PySem.W.Frag} {C : Addr} (px : PlX K C) : ∀ b, PySem.W.notFirst K C (kinT C b) = true
  | true => by
    unfold PySem.W.notFirst kinT
    simp
  | false => px.nt
def mIsiC (C : Addr) (f : FE W) : FE W := fun φ S => (f φ S).bind fun w S1 => match kinC C S1 w with
  | some b => .ok (.bl b) S1
  | none => .bad
def oEqP (C : Addr) (mm : FM) : BOp := fun x y S => match insOf C S x, kinC C S y with
  | some _, some _ => match chk 2 mm [x, y] S with
    | .ok (.bl b) S1 => some (.bl b, S1)
    | _ => none
  | _, _ => none
def oLenP (C : Addr) (mm : FM) : COp
  | [w], S => match insOf C S w with
    | some _ => match chk 1 mm [w] S with
      | .ok (.int i) S1 => if 0 ≤ i ∧ i < 2 ^ 63 then some (.int i, S1) else none
      | _ => none
    | none => none
  | _, _ => none
section
variable {X : Cx} {Wx : WX} {e : Expr} {pos p pT : Pos} {f : FE W} {C : Addr} {k j : Nat} {mm : FM}
theorem se_isiC (px : PlX X.K C) {x : Str} (hi : X.mg "isinstance" = none) (hT : X.mg x = some (.ref C)) (hv : bootBuiltins "isinstance" = some (.builtin "isinstance")) (he : SE X Wx e f) (hg : Gl X "isinstance" := by rfl) (hgT : Gl X x := by rfl)
    (hd : (x == ("__debug__" : Str)) = false := by decide)
    (hs1 : starEach [e, .Name x pT] X.env = (false, eval e X.env) :: starEach [.Name x pT] X.env := by rfl) (hs2 : starEach [.Name x pT] X.env = (false, eval (.Name x pT) X.env) :: starEach [] X.env := by rfl)
    (hpl : (backTo pos (starEach [.Name x pT] X.env)).any (·.1) = false := by rfl) :
    SE X Wx (.Call (.Name "isinstance" p) [e, .Name x pT] [] pos) (mIsiC C f) :=
  weakE (pe_callB call_isi hg hi hv (pa_cons he (pa_cons (pe_glob (v := .ref C) hgT hT rfl hd) pa_nil hs2) hs1) (he := hs1) (hpl := hpl)) fun σ H Q ⟨ρ, φ, S, F, s, q⟩ =>
  into F s q fun w S1 v ρ1 H1 e1 r1 s1 F1 q1 => by
    split at q1
    · rename_i b g
      exact ⟨v, .ref C, kinT C b, .ref C, b, rfl, .own C, kinC_of px.c s1 r1 g, kit_kin px b, q1 _ ρ1 H1 (Ext.refl _ _) (.bl _) s1⟩
    · exact q1.elim
theorem ow_eqP (cn : Cn X Wx k) (px : PlX X.K C) (M : MFn X.prog X.w X.K X.mg X.base C j "__eq__" 2 mm) (hj : j ≤ k) : OpW X (compareOp .Eq) (oEqP C mm) := by
  intro pins s σ H x y v u Q I rx ry ⟨ρ, S, w1, w2, ss, r1, r2, q⟩
  unfold oEqP at q
  split at q
  · rename_i pr kb g1 g2
    split at q
    · rename_i b S1 g3
      obtain ⟨rfl, hn⟩ := insOf_is (n := pr.1) (fs := pr.2) g1
      cases r1 with
      | @ref a _ ha =>
        obtain ⟨dx, gs, hH, hfs⟩ := ss.ob _ _ _ ha hn
        obtain rfl : v = Value.ref a := rx
        obtain ⟨f, fd, ps, M1, hb, hl, F⟩ := M
        obtain ⟨mA, J, _⟩ := ins_get I.hok hH
        obtain ⟨od, J, _⟩ := J.look
        obtain ⟨m, hF⟩ := I.fr
        obtain ⟨P, Z, pp, hx⟩ := kit_of I ry (kinC_of px.c ss r2 g2)
        show wpAny _ _ (richCompare .Eq (.ref a) u) _ _ _
        have hroom := cn.hr.mono hj
        refine PySem.W.cmp_K (op := .Eq) (tb := kinT C kb) hroom.units0 hF I.ok.mod.kin J (Z.ty _ _ I.kIn pp) (first_kin px kb) M1.at_ M1.fn ?_
        have hsp : spM X.K 2 mm ([.ref a, y] ++ []) H (fun v H' => v = .bl b ∧ Q (.bl b) H') (fun _ _ _ => False) := by
          refine ⟨ρ, [.ref pr.1, w2], S, .cons (.ref ha) (.cons r2 .nil), ss, ?_⟩
          rw [g3]
          intro v ρ' H' e' r' s'
          cases r'
          exact ⟨rfl, q _ ρ' H' e' (.bl _) s'⟩
        refine wpAny_mono (run_fnSD (E := fun _ _ _ _ => False) (σ := σ) (us := [.ref a, u]) (vs := [.ref a, y]) F hroom hb .nil (fun _ _ _ _ _ _ c => (cx_no c).elim) I (.cons rfl (.cons ry .nil)) hsp) (fun v' s' hq => ?_) fun _ _ x => x
        obtain ⟨z, H', I', rz, ez, qz⟩ := hq
        subst ez
        cases rz
        exact ⟨.bl b, H', I', rfl, qz⟩
    · exact q.elim
  · exact q.elim
theorem cw_lenP (cn : Cn X Wx k) (c : PlC X.K C) (M : MFn X.prog X.w X.K X.mg X.base C j "__len__" 1 mm) (hj : j + 1 ≤ k) : CallW X (.builtin "len") (oLenP C mm) := by
  intro pins s σ H xs us Q I r ⟨ρ, S, ws, ss, rs, q⟩
  unfold oLenP at q
  split at q
  · rename_i w
    split at q
    · rename_i pr g1
      split at q
      · rename_i i S1 g3
        split at q
        · rename_i hi
          obtain ⟨x, rfl, r1⟩ := rs.of1
          obtain ⟨rfl, hn⟩ := insOf_is (n := pr.1) (fs := pr.2) g1
          cases r1 with
          | @ref a _ ha =>
            obtain ⟨dx, gs, hH, hfs⟩ := ss.ob _ _ _ ha hn
            obtain ⟨u, rfl, rx⟩ := vals1 r
            obtain rfl : u = Value.ref a := rx
            obtain ⟨f, fd, ps, M1, hb, hl, F⟩ := M
            obtain ⟨mA, J, _⟩ := ins_get I.hok hH
            obtain ⟨od, J, _⟩ := J.look
            obtain ⟨m, hF⟩ := I.fr
            refine PySem.W.len_K hF I.ok.mod.kin J M1.at_ M1.fn ?_
            have hsp : spM X.K 1 mm [.ref a] H (fun v H' => v = .int i ∧ Q (.int i) H') (fun _ _ _ => False) := by
              refine ⟨ρ, [.ref pr.1], S, .cons (.ref ha) .nil, ss, ?_⟩
              rw [g3]
              intro v ρ' H' e' r' s'
              cases r'
              exact ⟨rfl, q _ ρ' H' e' (.int _) s'⟩
            have e0 : Env0 X.prog X.w X.K X.mg X.base X.A.in1 X.stack s H := by
              have e := I.env0
              exact ⟨e.frames, e.mod, e.bs, e.bsz, e.funs, e.frf, e.hok, e.bare⟩
            have b := hb s [.ref a] I.kIn (by rw [List.append_nil]; exact hl.symm)
            rw [List.append_nil] at b
            refine wpAny_call (codeAny_mono (F.run X.A.in1 X.stack s H ⟨[.ref a], []⟩ [.ref a] [.ref a] _ (fun _ _ _ => False) (cn.hr.mono hj).in1 e0 b (.cons rfl .nil) hsp) fun r s' hq => ?_)
            cases r with
            | error e => exact (cx_no hq).elim
            | ok fl =>
              cases fl with
              | ret w =>
                obtain ⟨z, H', I', rz, ez, qz⟩ := I.after hq
                subst ez
                obtain ⟨t, rfl⟩ := rz
                exact ⟨hi, .int i, H', I'.tok _, ⟨_, rfl⟩, qz⟩
              | next => exact False.elim hq
              | brk => exact False.elim hq
              | cont => exact False.elim hq
        · exact q.elim
      · exact q.elim
    · exact q.elim
  · exact q.elim
end
end Wm

set_option Elab.async false
set_option linter.all false
set_option maxRecDepth 100000
set_option maxHeartbeats 2000000
namespace Wm
open PySem PySem.Calls PyProof.Rows PyProof.V PySem.Spec

/-! ### the pairs of a dict, walked by a name: the iterator's own tuple may be there still, or not -/
section
variable {prog : Program} {w : World} {K : Type} [DecidableEq K] {knd : KeyKind prog w K} {A : Around} {E : Value → Shared → Prop} {s : Shared}
theorem kdx_dead {a : Addr} {Q : Option Obj → Shared → Prop} (ho : s.heap.get? a = none) (h : Q none s) : wpAny (model prog w) A (loadIfAlive a) Q E s := by
  have h' : Q (s.heap.get? a) s := by rw [ho]; exact h
  exact fun _ _ _ => h'
theorem kdx_next_any {it d a : Addr} {f : Bool} {i ep : Nat} {kvs : List (K × Value)} {k : K} {v ok ov : Value} {Q : Option Value → Shared → Prop} (hit : PySem.W.KdxIt s.heap it d i kvs.length ep ok ov a f)
    (hm : s.heap.DictAt knd d kvs ep) (hx : kvs[i]? = some (k, v))
    (hQ : ∀ key h', knd.is k key = true → (∃ ok' ov' a' f', PySem.W.KdxIt h' it d (i + 1) kvs.length ep ok' ov' a' f') →
      h'.get? s.heap.objs.size = some { cls := .type "tuple", data := .seq #[key, v] } → h'.objs.size = s.heap.objs.size + 1 →
      (∀ b o, b ≠ it → s.heap.get? b = some o → h'.get? b = some o) → Q (some (.ref s.heap.objs.size)) { s with heap := h' }) :
    wpAny (model prog w) A (pyNext (.ref it)) Q E s := by
  obtain ⟨hp, g, dr, tk, os⟩ := s
  obtain ⟨od, es, hod, hcd, hdd, hk, hpr, hn⟩ := id hm
  have hT : Shared.TypeIs ⟨hp, g, dr, tk, os⟩ (.ref it) "dict_itemiterator" := ⟨_, hit, rfl⟩
  unfold pyNext
  refine wpAny_bind (wpAny_attempt (wpAny_callSpecial?_slot (name := Str.ofString "__next__") hT PySem.F.slot_dict_itemiterator_next
    (wpAny_call_entry PySem.F.slot_dict_itemiterator_next hT PySem.F.entry_dict_itemiterator_next ?_ (PySem.F.args_dict_itemiterator_next_1 _))))
  refine wpAny_bind (wpAny_pure ?_)
  refine wpAny_bind ?_
  refine wpAny_bind ?_
  first | refine wpAny_bind (wpAny_typeNameOfWhole_itemiter hT (wpAny_pure ?_)) | refine wpAny_bind (wpAny_typeNameOf_itemiter hT (wpAny_pure ?_))
  refine wpAny_bind (wpAny_fieldsOf hit rfl ?_)
  have hown : Builtin.Dict_items.ownsTuple "dict_itemiterator" = true := by decide
  simp only [hown, if_true]
  show wpAny _ _ (if (Value.ref d == Value.none) = true then _ else _) _ _ _
  rw [if_neg (show ¬ ((Value.ref d == Value.none) = true) from Bool.false_ne_true)]
  refine wpAny_bind (wpAny_pure ?_)
  refine wpAny_bind (wpAny_dictEntries hod hdd ?_)
  have hsz : es.size = kvs.length := by rw [← hpr.length]; simp
  rw [if_neg (by rw [hsz]; simp)]
  refine wpAny_bind (wpAny_pure ?_)
  refine wpAny_bind (wpAny_dictEpoch hod hdd ?_)
  rw [if_neg (by simp)]
  refine wpAny_pure ?_
  have hlt : i < kvs.length := by
    rcases Nat.lt_or_ge i kvs.length with h | h
    · exact h
    · simp [List.getElem?_eq_none h] at hx
  have hlt' : i < es.size := by rw [hsz]; exact hlt
  obtain ⟨hkey, hval⟩ := hpr.get? (e := es[i]) (by simp [hlt']) hx
  simp only [show ¬ ((i : Int) < 0) from by omega, if_false, Int.toNat_natCast, Array.getElem?_eq_getElem hlt']
  refine wpAny_bind ?_
  first | refine wpAny_bind (wpAny_typeNameOfWhole_itemiter hT (wpAny_pure ?_)) | refine wpAny_bind (wpAny_typeNameOf_itemiter hT (wpAny_pure ?_))
  refine wpAny_bind (wpAny_isOneOf_itemiter hT ?_)
  show wpAny _ _ (setField (.ref it) 3 (rawInt ((i : Int) + 1)) >>= _) _ _ ⟨hp, g, dr, tk, os⟩
  refine wpAny_bind (wpAny_setField_rec hit (by simp) fun h₁ he₁ hs₁ => ?_)
  replace hs₁ : Heap.SameBut it hp h₁ := hs₁
  replace he₁ : PySem.W.KdxIt h₁ it d (i + 1) kvs.length ep ok ov a f := by
    have e : ((i + 1 : Nat) : Int) = (i : Int) + 1 := by omega
    unfold PySem.W.KdxIt; rw [e]; simpa [rawInt] using he₁
  have hT₁ : Shared.TypeIs ⟨h₁, g, dr, tk, os⟩ (.ref it) "dict_itemiterator" := ⟨_, he₁, rfl⟩
  refine wpAny_bind (wpAny_holding ?_)
  refine wpAny_bind (wpAny_isOneOf_itemiter hT₁ ?_)
  refine wpAny_bind (wpAny_isOneOf_itemiter hT₁ ?_)
  show wpAny _ _ (Builtin.Dict_items.pairFromOwner (.ref it) 6 es[i].key es[i].val) _ _ ⟨h₁, g, dr, tk, os⟩
  unfold Builtin.Dict_items.pairFromOwner
  refine wpAny_bind (wpAny_newTuple ?_)
  have he₂ : PySem.W.KdxIt (h₁.push { cls := .type "tuple", data := .seq #[es[i].key, es[i].val] }) it d (i + 1) kvs.length ep ok ov a f := Heap.get?_push_of_some _ he₁
  generalize hh₂ : h₁.push { cls := .type "tuple", data := .seq #[es[i].key, es[i].val] } = h₂ at he₂
  have hz₁ : h₁.objs.size = hp.objs.size := hs₁.1
  have hil : it < hp.objs.size := Heap.lt_size hit
  have ht₂ : h₂.get? hp.objs.size = some { cls := .type "tuple", data := .seq #[es[i].key, es[i].val] } := by rw [← hh₂, ← hz₁]; exact Heap.get?_push_size _ rfl
  have hz₂ : h₂.objs.size = hp.objs.size + 1 := by rw [← hh₂, Heap.size_push, hz₁]
  have hk₂ : ∀ b o, b ≠ it → hp.get? b = some o → h₂.get? b = some o := fun b o hb e => by rw [← hh₂]; exact Heap.get?_push_of_some _ (hs₁.extBut b o hb e)
  show wpAny _ _ (Builtin.Dict_items.ownedTupleIsFree (.ref it) >>= _) _ _ ⟨h₂, g, dr, tk, os⟩
  rw [hz₁]
  clear hh₂ he₁ hs₁ hT₁ hz₁ h₁
  refine wpAny_bind ?_
  unfold Builtin.Dict_items.ownedTupleIsFree
  refine wpAny_bind (wpAny_field he₂ rfl (x := rawInt a) rfl ?_)
  show wpAny _ _ (loadIfAlive ((a : Int).toNat) >>= _) _ _ _
  rw [Int.toNat_natCast]
  have fin : ∀ (h₃ : Heap) (ok' ov' : Value) (a' : Addr) (f' : Bool), PySem.W.KdxIt h₃ it d (i + 1) kvs.length ep ok' ov' a' f' → Heap.SameBut it h₂ h₃ → Q (some (.ref hp.objs.size)) ⟨h₃, g, dr, tk, os⟩ := fun h₃ ok' ov' a' f' he₃ hs₃ =>
    hQ es[i].key h₃ hkey ⟨ok', ov', a', f', he₃⟩ (by rw [← hval]; exact hs₃.extBut _ _ (Nat.ne_of_gt hil) ht₂) (by show h₃.objs.size = hp.objs.size + 1; rw [hs₃.1, hz₂]) fun b o hb e => hs₃.extBut b o hb (hk₂ b o hb e)
  cases hal : h₂.get? a with
  | some oa =>
    refine wpAny_bind (PySem.W.kdx_alive hal ?_)
    simp only [Option.isNone_some, Bool.false_eq_true, if_false]
    refine wpAny_bind (wpAny_field he₂ rfl (x := .bool f) rfl ?_)
    cases f with
    | true =>
      rw [if_neg (show ¬ ((Value.bool true != Value.bool true) = true) from Bool.false_ne_true)]
      refine wpAny_pure ?_
      simp only [Bool.false_eq_true, if_false]
      exact wpAny_pure (wpAny_pure ⟨_, rfl, wpAny_pure (fin h₂ _ _ _ _ he₂ (Heap.SameBut.refl _ _))⟩)
    | false =>
      rw [if_pos (show (Value.bool false != Value.bool true) = true from rfl)]
      refine wpAny_bind (wpAny_setField_rec he₂ (by simp) fun h₃ he₃ hs₃ => ?_)
      replace hs₃ : Heap.SameBut it h₂ h₃ := hs₃
      replace he₃ : PySem.W.KdxIt h₃ it d (i + 1) kvs.length ep ok ov a true := he₃
      refine wpAny_pure ?_
      simp only [Bool.false_eq_true, if_false]
      exact wpAny_pure (wpAny_pure ⟨_, rfl, wpAny_pure (fin h₃ _ _ _ _ he₃ hs₃)⟩)
  | none =>
    refine wpAny_bind (kdx_dead hal ?_)
    simp only [Option.isNone_none, if_true]
    refine wpAny_pure ?_
    simp only [if_true]
    refine wpAny_bind (wpAny_field he₂ rfl (x := ok) rfl ?_)
    refine wpAny_bind (wpAny_field he₂ rfl (x := ov) rfl ?_)
    refine wpAny_bind (wpAny_setField_rec he₂ (by simp) fun h₃ he₃ hs₃ => ?_)
    replace hs₃ : Heap.SameBut it h₂ h₃ := hs₃
    replace he₃ : PySem.W.KdxIt h₃ it d (i + 1) kvs.length ep es[i].key ov a f := he₃
    refine wpAny_bind (wpAny_setField_rec he₃ (by simp) fun h₄ he₄ hs₄ => ?_)
    replace hs₄ : Heap.SameBut it h₃ h₄ := hs₄
    replace he₄ : PySem.W.KdxIt h₄ it d (i + 1) kvs.length ep es[i].key es[i].val a f := he₄
    refine wpAny_bind (wpAny_setField_rec he₄ (by simp) fun h₅ he₅ hs₅ => ?_)
    replace hs₅ : Heap.SameBut it h₄ h₅ := hs₅
    replace he₅ : PySem.W.KdxIt h₅ it d (i + 1) kvs.length ep es[i].key es[i].val hp.objs.size f := he₅
    refine wpAny_bind (wpAny_setField_rec he₅ (by simp) fun h₆ he₆ hs₆ => ?_)
    replace hs₆ : Heap.SameBut it h₅ h₆ := hs₆
    replace he₆ : PySem.W.KdxIt h₆ it d (i + 1) kvs.length ep es[i].key es[i].val hp.objs.size false := he₆
    exact wpAny_bind (wpAny_letGo (wpAny_pure (wpAny_pure ⟨_, rfl, wpAny_pure (fin h₆ _ _ _ _ he₆ (((hs₃.trans hs₄).trans hs₅).trans hs₆))⟩)))
end
end Wm

set_option Elab.async false
set_option linter.all false
set_option maxRecDepth 100000
set_option maxHeartbeats 2000000
namespace Wm
open PySem PySem.Spec PyProof.Rows L2

/-- the pairs, each a new tuple as it was made -/
def ItiF (d : Addr) (o : Obj) (kvs : List (Key × V)) : It :=
  ⟨fun i H => H d = some (.frz o (.dK kvs)) ∧ i < kvs.length, fun i H x H' => ∃ T k v ot, kvs[i]? = some (k, v) ∧ x = .ref T ∧ H T = none ∧ ot.dict = none ∧ H' = upd H T (.frz ot (.tup [kV k, v])), fun i H => H d = some (.frz o (.dK kvs)) ∧ kvs.length ≤ i⟩
def KSt (h : Heap) (it d : Addr) (i n ep : Nat) : Prop := (∃ ok ov, IsItemIter h it d i n ep ok ov) ∨ ∃ ok ov a f, PySem.W.KdxIt h it d i n ep ok ov a f
section
variable {P : Program} {w : World} {K : PySem.W.Frag} {d : Addr} {o : Obj} {es : Array DictEntry} {ep : Nat}
theorem turn_itemsN {kvs : List (Key × V)} {y : Str} {tpos : Pos} (it : Addr) (hod : o.data = .dict es ep) :
    Turn P w K (.Name y tpos) (ItiF d o kvs) [it] it (fun i h => KSt h it d i kvs.length ep) where
  mem := by simp
  obj := fun i h st b hb => by
    have e : b = it := by simpa using hb
    subst e
    rcases st with ⟨ok, ov, e⟩ | ⟨ok, ov, a, f, e⟩
    · exact ⟨_, e, fun v z => nomatch z⟩
    · exact ⟨_, e, fun v z => nomatch z⟩
  keep := fun i h h' st k => by
    rcases st with ⟨ok, ov, e⟩ | ⟨ok, ov, a, f, e⟩
    · exact .inl ⟨ok, ov, k it (by simp) _ e⟩
    · exact .inr ⟨ok, ov, a, f, k it (by simp) _ e⟩
  item := by
    intro X hP hw hK hc i pins s σ H E I hf st hg
    subst hP hw hK
    obtain ⟨hd, hi⟩ := hg
    obtain ⟨hs, hgd, hx, es', ep', vs, hdt, hsz, kv, hm⟩ := I.frzK hd
    obtain ⟨rfl, rfl⟩ := dict_ep hod hdt
    obtain ⟨⟨k, v⟩, hkv⟩ : ∃ p, kvs[i]? = some p := ⟨kvs[i], List.getElem?_eq_getElem hi⟩
    obtain ⟨u, hu, ru⟩ := kv_get kv hkv
    have hl : kvs.length = vs.length := Paired.length kv
    have hlt : it < s.heap.objs.size := by
      rcases st with ⟨ok, ov, e⟩ | ⟨ok, ov, a, f, e⟩
      · exact Heap.lt_size e
      · exact Heap.lt_size e
    have fin : ∀ key h', (mixKind X.prog X.w).is k key = true → KSt h' it d (i + 1) vs.length ep' → h'.get? s.heap.objs.size = some { cls := .type "tuple", data := .seq #[key, u] } → h'.objs.size = s.heap.objs.size + 1 → (∀ b o, b ≠ it → s.heap.get? b = some o → h'.get? b = some o) →
        ∃ u', some (Value.ref s.heap.objs.size) = some u' ∧ wpAny (model X.prog X.w) X.A (letOwnedTupleGo (.Name y tpos) (.ref it) u') (fun _ s2 => ∃ x H', Inv X pins σ H' s2 ∧ RelV x u' ∧ (ItiF d o kvs).yld i H x H' ∧ KSt s2.heap it d (i + 1) kvs.length ep' ∧ ∀ b ∈ [it], H' b = none) E { s with heap := h' } := by
      intro key h' hkey hst hT hz hk
      refine ⟨_, rfl, show wpAny _ _ (pure ()) _ _ _ from wpAny_pure ?_⟩
      have new : ObjOk X.prog X.w (upd H s.heap.objs.size (.frz { cls := .type "tuple", data := .seq #[key, u] } (.tup [kV k, v]))) h' s.heap.objs.size (.frz { cls := .type "tuple", data := .seq #[key, u] } (.tup [kV k, v])) :=
        ⟨hT, by show 2 ≤ sizeLine; decide, [key, u], .cons (relV_key (show keyIs k key = true from hkey)) (.cons ru .nil), ⟨_, hT, rfl, _, rfl⟩⟩
      have I1 : Inv X pins σ (upd H s.heap.objs.size (.frz { cls := .type "tuple", data := .seq #[key, u] } (.tup [kV k, v]))) { s with heap := h' } :=
        I.turnedNew (t' := s.toks) (ch := [it]) (fun b ob hb e => hk b ob (by simpa using hb) e) hf (Nat.le_refl _) new
      refine ⟨.ref s.heap.objs.size, _, I1, rfl, ⟨_, k, v, _, hkv, rfl, I.hok.fresh (Nat.le_refl _), rfl, rfl⟩, by rw [hl]; exact hst, fun b hb => ?_⟩
      have e : b = it := by simpa using hb
      rw [e, upd_ne (Nat.ne_of_lt hlt)]
      exact (hf it (by simp)).1
    rw [hl] at st
    rcases st with ⟨ok, ov, he⟩ | ⟨ok, ov, a, f, he⟩
    · exact wpAny_pyNext_items_item he hm hu fun key h' hkey ho hT hz hk => fin key h' hkey (.inr ⟨_, _, _, _, ho⟩) hT hz hk
    · exact kdx_next_any he hm hu fun key h' hkey ho hT hz hk => fin key h' hkey (.inr ho) hT hz hk
  done := by
    intro X hP hw hK hc i pins s σ H E I hf st hg
    subst hP hw hK
    obtain ⟨hd, hi⟩ := hg
    obtain ⟨f0, f1, f2, f3, f4, f5⟩ := hf it (by simp)
    obtain ⟨hs, hgd, hx, es', ep', vs, hdt, hsz, kv, hm⟩ := I.frzK hd
    obtain ⟨rfl, rfl⟩ := dict_ep hod hdt
    have hl : kvs.length = vs.length := Paired.length kv
    rw [hl] at st
    rcases st with ⟨ok, ov, he⟩ | ⟨ok, ov, a, f, he⟩
    · exact wpAny_pyNext_items_end (I.ok.hd hc) he hm (List.getElem?_eq_none (by omega)) fun h' eb => ⟨rfl, I.turned (t' := s.toks) (fun b ob hb e => eb b ob hb e) f0 f1 f3 f4 f5⟩
    · exact PySem.W.kdx_end_out (I.ok.hd hc) he hm (List.getElem?_eq_none (by omega)) fun h' eb => ⟨rfl, I.turned (t' := s.toks) (fun b ob hb e => eb b ob hb e) f0 f1 f3 f4 f5⟩
  self := fun A i s Q E st h => by
    rcases st with ⟨ok, ov, e⟩ | ⟨ok, ov, a, f, e⟩
    · exact PySem.W.kcp_self e h
    · have hT : s.TypeIs (.ref it) "dict_itemiterator" := ⟨_, e, rfl⟩
      refine wpAny_pyIter_slot hT PySem.F.slot_dict_itemiterator_iter (wpAny_call_entry PySem.F.slot_dict_itemiterator_iter hT PySem.W.kcp_entry ?_ (PySem.F.args_dict_itemiterator_iter_1 _))
      show wpAny _ _ (ret (.ref it)) _ _ s
      exact wpAny_pure ⟨_, rfl, "dict_itemiterator", _, hT, PySem.F.slot_dict_itemiterator_next.lookup, h⟩
end
def iItemsF (td : TE) : TI := fun σ H R => td σ H fun x H1 => ∃ d o kvs, x = .ref d ∧ H1 d = some (.frz o (.dK kvs)) ∧ R (ItiF d o kvs) H1
section
variable {X : Cx} {e : Expr} {td : TE} {apos cpos : Pos}
theorem pi_itemsN {y : Str} {tpos : Pos} (he : PE X e td) (hbase : attributeBase e "items" X.env (eval e X.env) = eval e X.env := by rfl) (hline : (apos.endLine == cpos.line) = true := by rfl) :
    PI X (.Name y tpos) (.Call (.Attribute e "items" apos) [] [] cpos) (iItemsF td) := by
  refine ⟨fun pins s σ H R I h => ?_⟩
  refine wpAny_Call_method (T := "dict") (id := "dict.items") hbase rfl hline F.plainAttrs_dict F.slot_dict_items F.type_dict_items (thn (he.run pins s σ H _ I h) fun u s1 ⟨x, H1, I1, rx, d, o, kvs, ex, hd, q⟩ => ?_)
  subst ex
  obtain rfl : u = Value.ref d := rx
  obtain ⟨hs, hgd, hx, es, ep, vs, hdt, hsz, kv, hm⟩ := I1.frzK hd
  have hl : kvs.length = vs.length := Paired.length kv
  refine ⟨hm.dictOf.typeIs, hm.dictOf.mapOf.noDict, ?_⟩
  have I2 : Inv X pins σ H1 { s1 with heap := s1.heap.push { cls := .type "dict_items", data := .fields #[.ref d] } } := I1.kept (t' := s1.toks) fun b ob q => Heap.get?_push_of_some _ q
  have fin : wpAny (model X.prog X.w) X.A (pyIter (.ref s1.heap.objs.size)) (PIE X pins σ (.Name y tpos) R) X.xe { s1 with heap := s1.heap.push { cls := .type "dict_items", data := .fields #[.ref d] } } := by
    refine wpAny_pyIter_items (d := d) (knd := mixKind X.prog X.w) ⟨_, Heap.get?_push_size _ rfl, rfl, rfl⟩ (hm.push _) (pi_one (tk := s1.toks) I2 _ (turn_itemsN _ hdt) (.inl ⟨.none, .none, ?_⟩) q)
    rw [hl]
    exact Heap.get?_push_size _ rfl
  show wpAny _ _ (callWith cpos (.builtin "dict.items") [.ref d] [] []) _ X.xe s1
  exact method_meetsIn F.slot_dict_items F.entry_dict_items rfl (PySem.evalArgs_none ⟨rfl, hm.dictOf.typeIs, F.args_dict_items_1 _, _, meets_dict_items (mixKind X.prog X.w) d hs, ⟨vs, hm.dictOf⟩, fin⟩)
end
end Wm

set_option Elab.async false
set_option linter.all false
set_option maxRecDepth 100000
set_option maxHeartbeats 2000000
namespace Wm
open PySem PySem.Spec PyProof.Rows L2

/-! ### [row for row in d.items() if row[1] > 0], numbers to numbers -/
def posP (p : Int × Int) : Bool := decide (0 < p.2)
def mItP (i j : Nat) : FE W := fun φ S => match φ[i]? with
  | some (some (.ref n)) => match S[n]? with
    | some (.dic kvs) => match intPairs kvs with
      | some ps => if j < φ.length then ofO (lstO ((ps.filter posP).map tp) S) else .bad
      | none => .bad
    | _ => .bad
  | _ => .bad
theorem tups_of {H : Hp} : ∀ {as : List Addr} {ps : List (Int × Int)}, Paired (fun (t : Addr) (p : Int × Int) => TupF H t [.int p.1, .int p.2]) as ps → Paired (fun (v : V) (p : Int × Int) => ∃ t, v = .ref t ∧ TupF H t [.int p.1, .int p.2]) (as.map V.ref) ps
  | _, _, .nil => .nil
  | _, _, .cons h r => .cons ⟨_, rfl, h⟩ (tups_of r)
theorem tups_up {H H' : Hp} (k : ∀ t xs, TupF H t xs → TupF H' t xs) : ∀ {as : List Addr} {ps : List (Int × Int)}, Paired (fun (t : Addr) (p : Int × Int) => TupF H t [.int p.1, .int p.2]) as ps → Paired (fun (t : Addr) (p : Int × Int) => TupF H' t [.int p.1, .int p.2]) as ps
  | _, _, .nil => .nil
  | _, _, .cons h r => .cons (k _ _ h) (tups_up k r)
theorem paired_snoc {α β : Type} {R : α → β → Prop} {a : α} {b : β} (h : R a b) : ∀ {as : List α} {bs : List β}, Paired R as bs → Paired R (as ++ [a]) (bs ++ [b])
  | _, _, .nil => .cons h .nil
  | _, _, .cons k r => .cons k (paired_snoc h r)
theorem tups_all {H : Hp} : ∀ {as : List Addr} {ps : List (Int × Int)}, Paired (fun (t : Addr) (p : Int × Int) => TupF H t [.int p.1, .int p.2]) as ps → ∀ t ∈ as, ∃ xs, TupF H t xs
  | _, _, .nil, t, h => by cases h
  | _, _, .cons k r, t, h => by
    rcases List.mem_cons.mp h with e | e
    · subst e; exact ⟨_, k⟩
    · exact tups_all r t e
section
variable {X : Cx} {Wx : WX} {k : Nat}
theorem se_itemsP {x r : Str} {scope : Scope} {pos p1 p2 p3 p4 p5 p6 p7 p8 apos cpos : Pos} {j1 j2 : Nat} (i j : Nat) (cn : Cn X Wx k) (ok : blkC X.N X.env.scope scope [(r, j)] = true)
    (hg : ∀ (s : Shared) (H : Hp) (C : Addr) (cl : List (Str × Addr)) (fp : List Addr), Cn (X.blk s H scope (compEnvC scope cl C X.env) fp) W0 k → PG (X.blk s H scope (compEnvC scope cl C X.env) fp) (.Name r p1) (gName j))
    (hr : ∀ (s : Shared) (H : Hp) (C : Addr) (cl : List (Str × Addr)) (fp : List Addr), Cn (X.blk s H scope (compEnvC scope cl C X.env) fp) W0 k → PE (X.blk s H scope (compEnvC scope cl C X.env) fp) (.Name r p2) (tVar j))
    (hr2 : ∀ (s : Shared) (H : Hp) (C : Addr) (cl : List (Str × Addr)) (fp : List Addr), Cn (X.blk s H scope (compEnvC scope cl C X.env) fp) W0 k → PE (X.blk s H scope (compEnvC scope cl C X.env) fp) (.Name r p3) (tVar j))
    (hd : PE X (.Name x p4) (tVar i)) (hbase : attributeBase (.Name x p4) "items" X.env (eval (.Name x p4) X.env) = eval (.Name x p4) X.env := by rfl) (hline : (apos.endLine == cpos.line) = true := by rfl)
    (hs : ∀ y, foldedSetIterable (.Call (.Attribute (.Name x p4) "items" apos) [] [] cpos) X.env y = pure y := by intro _; rfl) :
    SE X Wx (.ListComp (.Name r p2) [⟨.Name r p1, .Call (.Attribute (.Name x p4) "items" apos) [] [] cpos, [.Compare (.Subscript (.Name r p3) (.Constant (.int 1) j1 p5) p6) [.Gt] [.Constant (.int 0) j2 p7] p8], 0⟩] scope pos) (mItP i j) := by
  have hts : ∀ (s : Shared) (H : Hp) (C : Addr) (cl : List (Str × Addr)) (fp : List Addr), PTs (X.blk s H scope (compEnvC scope cl C X.env) fp) [.Compare (.Subscript (.Name r p3) (.Constant (.int 1) j1 p5) p6) [.Gt] [.Constant (.int 0) j2 p7] p8] (tTest (tOp (rI0 fun i j => .bl (decide (i > j))) (tOp (rIx X.K) (tVar j) (tC (.int 1))) (tC (.int 0)))) := fun s H C cl fp =>
    pts_one (pt_cmpR op_gt (pe_ix (r := rIx X.K) (ix_seq (X := X.blk s H scope (compEnvC scope cl C X.env) fp)) (hr2 s H C cl fp (cn.blk ..)) pe_int (by intro _ _; rfl)) pe_int (nomark _))
  refine weakE (pe_lock (pe_lc (own := [(r, j)]) cn.calm cn.nd (pi_itemsN hd hbase hline) (blkOk_by ok) (fun s H C cl fp => hg s H C cl fp (cn.blk ..)) (fun s H C cl fp => hts s H C cl fp) (fun s H C cl fp => hr s H C cl fp (cn.blk ..)) hs)) fun σ H Q ⟨ρ, φ, S, F, s, q⟩ => ?_
  unfold mItP at q
  split at q
  · rename_i n g
    split at q
    · rename_i kvs g2
      split at q
      · rename_i ps hp
        split at q
        · rename_i hj
          have q2 := PosR.of q
          obtain ⟨v, hv, rv⟩ := F.get i _ g
          cases rv with
          | @ref a _ ha =>
            obtain ⟨ks, hH, hk⟩ := s.ob _ _ _ ha g2
            have ek := KWs.ints hk hp
            subst ek
            have hl := lstO_len q2
            rw [List.length_map] at hl
            refine ⟨a, _, hH, trivial, fun od => ⟨.ref a, hv, a, od, _, rfl, upd_same, fun D hD => ?_⟩⟩
            have hDa : D ≠ a := fun z => by rw [z, upd_same] at hD; cases hD
            have hDn : H D = none := by rw [upd_ne hDa] at hD; exact hD
            have hjs : j < σ.length := by rw [F.len]; exact hj
            generalize hHL : upd H a (.frz od (.dK (ps.map fun p => ((Sum.inl p.1 : Key), V.int p.2)))) = HL at hD ⊢
            have hLa : HL a = some (.frz od (.dK (ps.map fun p => ((Sum.inl p.1 : Key), V.int p.2)))) := by rw [← hHL]; exact upd_same
            refine ⟨fun i m H' => m + i = ps.length ∧ ∃ as : List Addr, H' D = some (.lst (as.map V.ref)) ∧ Paired (fun (t : Addr) (p : Int × Int) => TupF H' t [.int p.1, .int p.2]) as ((ps.take i).filter posP) ∧ (∀ b o, HL b = some o → H' b = some o),
              ⟨ps.length, rfl, [], upd_same, .nil, fun b o e => by rw [upd_ne (fun z => by rw [z, hD] at e; cases e)]; exact e⟩, ?_⟩
            rintro i m H1 ⟨hm, as, h1, h2, h3⟩
            have nD : ∀ t ∈ as, t ≠ D := fun t ht z => by
              obtain ⟨xs, o, e, _⟩ := tups_all h2 t ht
              rw [z, h1] at e
              cases e
            by_cases hi : i < ps.length
            · refine .inr ⟨⟨h3 _ _ hLa, by rw [List.length_map]; exact hi⟩, fun H' => m - 1 + (i + 1) = ps.length ∧ ∃ as : List Addr, H' D = some (.lst (as.map V.ref)) ∧ Paired (fun (t : Addr) (p : Int × Int) => TupF H' t [.int p.1, .int p.2]) as ((ps.take (i + 1)).filter posP) ∧ (∀ b o, HL b = some o → H' b = some o),
                fun H' z => ⟨m - 1, by omega, z⟩, ?_⟩
              rintro x H2 ⟨T, kk, v', ot, e1, rfl, hT, hod, rfl⟩
              rw [List.getElem?_map, List.getElem?_eq_getElem hi] at e1
              have e1 := Option.some.inj e1
              generalize hp0 : ps[i] = p0 at e1
              cases e1
              have hTD : T ≠ D := fun z => by rw [z, h1] at hT; cases hT
              have up1 : ∀ b o, H1 b = some o → upd H1 T (.frz ot (.tup [.int p0.1, .int p0.2])) b = some o := fun b o e => by rw [upd_ne (fun z => by rw [z, hT] at e; cases e)]; exact e
              have tk : (ps.take (i + 1)) = ps.take i ++ [p0] := by rw [List.take_succ, List.getElem?_eq_getElem hi, hp0]; rfl
              have ws : wipe (σ.set j (some (V.ref T))) [j] = wipe σ [j] := by
                show (σ.set j (some (V.ref T))).set j none = σ.set j none
                rw [List.set_set]
              show wipe ((σ.set j none).set j (some (V.ref T))) [j] = wipe σ [j] ∧ _
              have sl : ((σ.set j none).set j (some (V.ref T)))[j]? = some (some (V.ref T)) := List.getElem?_set_self (by rw [List.length_set]; exact hjs)
              refine ⟨by show ((σ.set j none).set j (some (V.ref T))).set j none = σ.set j none; rw [List.set_set, List.set_set], ?_⟩
              refine ⟨.ref T, sl, .inr (.inl ⟨T, [.int p0.1, .int p0.2], 1, .int p0.2, rfl, rfl, .inl (.inr ⟨ot, upd_same⟩), rfl, ?_⟩)⟩
              refine ⟨p0.2, 0, rfl, rfl, _, rfl, ?_⟩
              by_cases hpos : 0 < p0.2
              · have hb : decide (p0.2 > 0) = true := decide_eq_true hpos
                rw [hb]
                show (if true = true then _ else _)
                rw [if_pos rfl]
                have tot : (as ++ [T]).length ≤ bigL := by
                  have e := Paired.length h2
                  have e2 : ((ps.take (i + 1)).filter posP).length ≤ (ps.filter posP).length := (List.Sublist.filter posP (List.take_sublist _ _)).length_le
                  rw [tk, List.filter_append, List.length_append] at e2
                  have e3 : ([p0].filter posP).length = 1 := by
                    have : posP p0 = true := hb
                    simp [this]
                  rw [List.length_append]
                  simp only [List.length_cons, List.length_nil]
                  omega
                refine ⟨.ref T, sl, as.map V.ref, up1 _ _ h1, by
                  rw [List.length_append] at tot
                  simp only [List.length_cons, List.length_nil] at tot
                  rw [List.length_map]
                  exact bigL_lt (by omega), by omega, as ++ [T], by rw [upd_same, List.map_append]; rfl, ?_, fun b o e => ?_⟩
                · rw [tk, List.filter_append]
                  have e3 : [p0].filter posP = [p0] := by
                    have : posP p0 = true := hb
                    simp [this]
                  rw [e3]
                  refine paired_snoc ⟨ot, by rw [upd_ne hTD, upd_same]; rfl, hod⟩ (tups_up (fun t xs ⟨o, e, d⟩ => ⟨o, ?_, d⟩) h2)
                  rw [upd_ne (fun z => by rw [z, h1] at e; cases e)]
                  exact up1 _ _ e
                · rw [upd_ne (fun z => by rw [z, hD] at e; cases e)]
                  exact up1 _ _ (h3 _ _ e)
              · have hb : decide (p0.2 > 0) = false := decide_eq_false hpos
                rw [hb]
                show (if false = true then _ else _)
                rw [if_neg (by decide)]
                refine ⟨by omega, as, up1 _ _ h1, ?_, fun b o e => up1 _ _ (h3 _ _ e)⟩
                rw [tk, List.filter_append]
                have e3 : [p0].filter posP = [] := by
                  have : posP p0 = false := hb
                  rw [List.filter_cons, this]
                  rfl
                rw [e3, List.append_nil]
                exact tups_up (fun t xs ⟨o, e, d⟩ => ⟨o, up1 _ _ e, d⟩) h2
            · have ei : i = ps.length := by omega
              refine .inl ⟨⟨h3 _ _ hLa, by rw [List.length_map]; omega⟩, h3 _ _ hLa, ?_⟩
              rw [ei, List.take_length] at h2
              generalize hHf : upd H1 a (.dK (ps.map fun p => ((Sum.inl p.1 : Key), V.int p.2))) = Hf
              have hfD : Hf D = some (.lst (as.map V.ref)) := by rw [← hHf, upd_ne hDa]; exact h1
              have hfk : ∀ b o, H b = some o → Hf b = some o := fun b o e => by
                by_cases hb : b = a
                · rw [hb] at e ⊢
                  rw [hH] at e
                  rw [← hHf, upd_same]
                  exact e
                · rw [← hHf, upd_ne hb]
                  refine h3 _ _ ?_
                  rw [← hHL, upd_ne hb]
                  exact e
              generalize hH0 : (fun b => if b = D then none else Hf b : Hp) = H0
              have h0D : H0 D = none := by rw [← hH0]; simp
              have hf0 : Hf = upd H0 D (.lst (as.map V.ref)) := by
                funext b
                by_cases hb : b = D
                · rw [hb, upd_same, hfD]
                · rw [upd_ne hb, ← hH0]
                  simp [hb]
              have k0 : ∀ b o, H b = some o → H0 b = some o := fun b o e => by
                have hb : b ≠ D := fun z => by rw [z, hDn] at e; cases e
                rw [← hH0]
                show (if b = D then none else Hf b) = some o
                rw [if_neg hb]
                exact hfk b o e
              obtain ⟨E0, s0⟩ := s.grow k0
              have tf : Paired (fun (t : Addr) (p : Int × Int) => TupF (upd H0 D (.lst (as.map V.ref))) t [.int p.1, .int p.2]) as (ps.filter posP) := by
                rw [← hf0]
                refine tups_up (fun t xs ⟨o, e, d⟩ => ⟨o, ?_, d⟩) h2
                rw [← hHf, upd_ne (fun z => by rw [z, h3 _ _ hLa] at e; cases e)]
                exact e
              unfold lstO at q2
              rw [if_pos (by rw [List.length_map]; exact hl)] at q2
              rw [hf0]
              exact q2 _ (ρ ++ [D]) _ (E0.trans (Ext.push h0D)) (.ref (push_at s0 D)) (s0.push h0D ⟨_, upd_same, tups_rw (tups_of tf)⟩)
        · exact q.elim
      · exact q.elim
    · exact q.elim
  · exact q.elim
end
end Wm

set_option Elab.async false
set_option linter.all false
set_option maxRecDepth 100000
set_option maxHeartbeats 2000000
namespace Wm
open PySem PySem.Spec PyProof.Rows L2
theorem pv_var {X : Cx} {x : Str} {pos : Pos} (i : Nat) (hN : X.N[i]? = some x := by rfl) (hv : Vis X.env.scope x := by first | exact Or.inl rfl | exact Or.inr (Or.inl rfl) | exact Or.inr (Or.inr rfl)) (hd : (x == ("__debug__" : Str)) = false := by decide)
    (hcd : (x == ("__classdict__" : Str)) = false := by decide) : PE X (.Name x pos) (tVar i) := pe_var hN hv hd hcd
end Wm

set_option Elab.async false
set_option linter.all false
set_option maxRecDepth 100000
set_option maxHeartbeats 2000000
namespace Wm
open PySem PySem.Spec PyProof.Rows L2
/-! ### a, b, c = x, y, z -/
def mPar3 (i j l : Nat) (fr : FE (List W)) : SM := fun φ S => bindS (fr φ S) φ fun ws S1 => match ws with
  | [u, v, w] => .nx (((φ.set i (some u)).set j (some v)).set l (some w)) S1
  | _ => .bad
theorem ss_par3 {X : Cx} {Wx : WX} {pos : Pos} {x y z : Str} {a b d : Expr} {fr : FE (List W)} {px py pz pt : Pos} {kt k2 pt2} (i j l : Nat) (hc : X.calm = true) (hN : X.N.Nodup) (ha : SA X Wx [a, b, d] fr) (hi : X.N[i]? = some x := by rfl) (hj : X.N[j]? = some y := by rfl) (hl : X.N[l]? = some z := by rfl)
    (hij : i ≠ j := by decide) (hil : i ≠ l := by decide) (hjl : j ≠ l := by decide)
    (hx : X.env.scope.names.lookup x = some .local := by rfl) (hy : X.env.scope.names.lookup y = some .local := by rfl) (hz : X.env.scope.names.lookup z = some .local := by rfl)
    (hw : swappedStores [.Tuple [.Name x px, .Name y py, .Name z pz] kt pt] (.Tuple [a, b, d] k2 pt2) X.env = pure (some [x, y, z]) := by rfl)
    (hs : swapsWithSole [.Tuple [.Name x px, .Name y py, .Name z pz] kt pt] (.Tuple [a, b, d] k2 pt2) pos.line X.env = pure false := by rfl) :
    SS X Wx (.Assign [.Tuple [.Name x px, .Name y py, .Name z pz] kt pt] (.Tuple [a, b, d] k2 pt2) pos) (mPar3 i j l fr) := weakS (ps_par3 hc hN hi hj hl hij hil hjl hx hy hz ha hw hs) fun D σ H ⟨ρ, φ, S, F, s, q⟩ =>
  intoS F s q fun ws S1 vs ρ1 H1 e1 r1 s1 F1 q1 => by
    cases r1 with
    | nil => exact q1.elim
    | cons a1 t1 =>
      cases t1 with
      | nil => exact q1.elim
      | cons a2 t2 =>
        cases t2 with
        | nil => exact q1.elim
        | cons a3 t3 =>
          cases t3 with
          | nil => exact ⟨_, _, _, rfl, q1 ρ1 _ H1 (Ext.refl _ _) (((F1.set i a1).set j a2).set l a3) s1⟩
          | cons _ _ => exact q1.elim
end Wm

set_option Elab.async false
set_option linter.all false
set_option maxRecDepth 100000
set_option maxHeartbeats 2000000
namespace Wm
open PySem

/-! ### herds that come and part: the dict's way and the herds' way -/
theorem key_filter {d : Rows} (hn : (keys d).Nodup) (k : Int) : k ∈ keys (d.filter posP) ↔ 0 < getD d k := by
  constructor
  · intro h
    obtain ⟨p, hp, e⟩ := List.mem_map.mp h
    obtain ⟨h1, h2⟩ := List.mem_filter.mp hp
    have e : p.1 = k := e
    rw [← e, getD_at hn h1]
    exact of_decide_eq_true h2
  · intro h
    by_cases hk : k ∈ keys d
    · obtain ⟨p, hp, e⟩ := List.mem_map.mp hk
      have e : p.1 = k := e
      refine List.mem_map.mpr ⟨p, List.mem_filter.mpr ⟨hp, ?_⟩, e⟩
      rw [← e, getD_at hn hp] at h
      exact decide_eq_true h
    · rw [getD_no hk] at h
      exact absurd h (by decide)
theorem nodup_filter {d : Rows} (hn : (keys d).Nodup) : (keys (d.filter posP)).Nodup := List.Nodup.sublist (List.Sublist.map _ List.filter_sublist) hn
theorem getD_filter {d : Rows} (hn : (keys d).Nodup) (k : Int) : getD (d.filter posP) k = if 0 < getD d k then getD d k else 0 := by
  by_cases h : 0 < getD d k
  · rw [if_pos h]
    obtain ⟨p, hp, e⟩ := List.mem_map.mp ((key_filter hn k).mpr h)
    have e : p.1 = k := e
    rw [← e, getD_at (nodup_filter hn) hp, getD_at hn (List.mem_filter.mp hp).1]
  · rw [if_neg h, getD_no fun z => h ((key_filter hn k).mp z)]
theorem getD_sort {d : Rows} (hn : (keys d).Nodup) (k : Int) : getD (d.mergeSort le2) k = getD d k := by
  have hp := List.mergeSort_perm d le2
  rw [← wsum_ind hn, ← wsum_ind ((hp.map _).nodup_iff.mpr hn), perm_wsum _ hp]
theorem key_sort {d : Rows} (k : Int) : k ∈ keys (d.mergeSort le2) ↔ k ∈ keys d := ((List.mergeSort_perm d le2).map _).mem_iff
/-- what the law's dict tells in the end -/
def lawT (A : Rows) : Rows := ((tally A).filter posP).mergeSort le2
theorem lawT_getD (A : Rows) (k : Int) : getD (lawT A) k = if 0 < wsum (ind k) A then wsum (ind k) A else 0 := by
  have t := tally_ok A
  unfold lawT
  rw [getD_sort (nodup_filter t.nd), getD_filter t.nd, ← wsum_ind t.nd, t.sum]
theorem lawT_key (A : Rows) (k : Int) : k ∈ keys (lawT A) ↔ 0 < wsum (ind k) A := by
  have t := tally_ok A
  unfold lawT
  rw [key_sort, key_filter t.nd, ← wsum_ind t.nd, t.sum]
theorem lawT_rise (A : Rows) : Rise (lawT A) := rise_of (nodup_filter (tally_ok A).nd)
theorem wsum_key {k : Int} : ∀ {A : Rows}, (∀ x ∈ A, 1 ≤ x.2) → 0 ≤ wsum (ind k) A ∧ (k ∈ keys A ↔ 0 < wsum (ind k) A)
  | [], _ => ⟨Int.le_refl _, by simp [keys, wsum_nil]⟩
  | p :: A, h => by
    obtain ⟨i1, i2⟩ := wsum_key (k := k) (A := A) fun x hx => h x (List.mem_cons_of_mem _ hx)
    have hp := h p List.mem_cons_self
    rw [wsum_cons]
    have hk : k ∈ keys (p :: A) ↔ p.1 = k ∨ k ∈ keys A := by
      unfold keys
      rw [List.map_cons, List.mem_cons]
      exact ⟨fun z => z.imp (fun e => e.symm) id, fun z => z.imp (fun e => e.symm) id⟩
    rw [hk]
    by_cases e : p.1 = k
    · rw [show ind k p.1 = 1 from if_pos e, Int.one_mul]
      exact ⟨by omega, fun _ => by omega, fun _ => .inl e⟩
    · rw [show ind k p.1 = 0 from if_neg e, Int.zero_mul, Int.zero_add]
      exact ⟨i1, fun z => i2.mp (z.resolve_left e), fun z => .inr (i2.mpr z)⟩
/-- the two ways agree where the law's counts are those of herds that are there -/
theorem lawT_gath {A B : Rows} (hB : ∀ x ∈ B, 1 ≤ x.2) (h : ∀ k, wsum (ind k) A = wsum (ind k) B) : lawT A = gath B := by
  refine rise_ext (lawT_rise A) (gath_ok B).rise (fun k => ?_) fun k => ?_
  · rw [lawT_key, (gath_ok B).mem, h, (wsum_key hB).2]
  · rw [lawT_getD, gath_getD, h]
    have := (wsum_key (k := k) hB).1
    split <;> omega
def comeR (r : Rows) (s m : Int) : Rows := gath (r ++ [(s, m)])
theorem come_law {r : Rows} (h : ∀ x ∈ r, 1 ≤ x.2) {s m : Int} (hm : 1 ≤ m) : lawT (r ++ [(s, m)]) = comeR r s m :=
  lawT_gath (fun x hx => by
    rcases List.mem_append.mp hx with z | z
    · exact h x z
    · rw [List.mem_singleton.mp z]; exact hm) fun k => rfl
def lessR (r : Rows) (s : Int) : Rows := r.map fun p => (p.1, p.2 - if p.1 = s then 1 else 0)
def partB (r : Rows) (s f : Int) : Rows := (lessR r s).filter posP ++ [(f, 1), (s - f, 1)]
def partR (r : Rows) (s f : Int) : Rows := gath (partB r s f)
theorem wsum_pos {g : Int → Int} : ∀ {A : Rows}, (∀ x ∈ A, 0 ≤ x.2) → wsum g (A.filter posP) = wsum g A
  | [], _ => rfl
  | p :: A, h => by
    have ih := wsum_pos (g := g) (A := A) fun x hx => h x (List.mem_cons_of_mem _ hx)
    have hp := h p List.mem_cons_self
    rw [List.filter_cons, wsum_cons]
    by_cases e : 0 < p.2
    · rw [if_pos (show posP p = true from decide_eq_true e), wsum_cons, ih]
    · rw [if_neg (by unfold posP; simp [e]), ih, show p.2 = 0 by omega, Int.mul_zero, Int.zero_add]
theorem wsum_less {g : Int → Int} {s : Int} : ∀ {r : Rows}, (keys r).Nodup → s ∈ keys r → wsum g (lessR r s) = wsum g r - g s
  | [], _, h => by simp [keys] at h
  | p :: r, hn, h => by
    unfold keys at hn h
    rw [List.map_cons, List.nodup_cons] at hn
    rw [List.map_cons, List.mem_cons] at h
    show wsum g ((p.1, p.2 - if p.1 = s then 1 else 0) :: lessR r s) = _
    rw [wsum_cons, wsum_cons]
    by_cases e : p.1 = s
    · rw [if_pos e]
      have hz : lessR r s = r := by
        unfold lessR
        conv => rhs; rw [← List.map_id r]
        refine List.map_congr_left fun q hq => ?_
        have : q.1 ≠ s := fun z => hn.1 (by rw [e, ← z]; exact List.mem_map.mpr ⟨q, hq, rfl⟩)
        rw [if_neg this, Int.sub_zero]
        rfl
      rw [hz, e, Int.mul_sub, Int.mul_one]
      omega
    · rw [if_neg e, Int.sub_zero, wsum_less hn.2 (h.resolve_left fun z => e z.symm)]
      show g p.1 * p.2 + (wsum g r - g s) = _
      omega
theorem part_pos {r : Rows} {s f : Int} : ∀ x ∈ partB r s f, 1 ≤ x.2 := fun x hx => by
  rcases List.mem_append.mp hx with z | z
  · have : 0 < x.2 := of_decide_eq_true (List.mem_filter.mp z).2
    omega
  · simp only [List.mem_cons, List.not_mem_nil, or_false] at z
    rcases z with rfl | rfl <;> exact Int.le_refl _
theorem less_nn {r : Rows} (h : ∀ x ∈ r, 1 ≤ x.2) {s : Int} : ∀ x ∈ lessR r s, 0 ≤ x.2 := fun x hx => by
  obtain ⟨p, hp, rfl⟩ := List.mem_map.mp hx
  have := h p hp
  dsimp only
  split <;> omega
theorem part_wsum {r : Rows} (hn : (keys r).Nodup) (h : ∀ x ∈ r, 1 ≤ x.2) {s f : Int} (hs : s ∈ keys r) (g : Int → Int) : wsum g (partB r s f) = wsum g r - g s + g f + g (s - f) := by
  unfold partB
  rw [wsum_append, wsum_pos (less_nn h), wsum_less hn hs, wsum_cons, wsum_cons, wsum_nil]
  show wsum g r - g s + (g f * 1 + (g (s - f) * 1 + 0)) = _
  omega
theorem part_law {r : Rows} (hn : (keys r).Nodup) (h : ∀ x ∈ r, 1 ≤ x.2) {s f : Int} (hs : s ∈ keys r) : lawT (r ++ [(s, -1), (f, 1), (s - f, 1)]) = partR r s f :=
  lawT_gath part_pos fun k => by
    rw [part_wsum hn h hs, wsum_append, wsum_cons, wsum_cons, wsum_cons, wsum_nil]
    show wsum (ind k) r + (ind k s * -1 + (ind k f * 1 + (ind k (s - f) * 1 + 0))) = _
    omega
theorem come_folk (r : Rows) (s m : Int) : folkP (comeR r s m) = folkP r + s * m := by
  rw [folk_wsum, folk_wsum]
  unfold comeR
  rw [(gath_ok _).sum, wsum_append, wsum_cons, wsum_nil]
  show _ + (s * m + 0) = _
  omega
theorem part_folk {r : Rows} (hn : (keys r).Nodup) (h : ∀ x ∈ r, 1 ≤ x.2) {s f : Int} (hs : s ∈ keys r) : folkP (partR r s f) = folkP r := by
  rw [folk_wsum, folk_wsum]
  unfold partR
  rw [(gath_ok _).sum, part_wsum hn h hs]
  show _ - s + f + (s - f) = _
  omega
theorem part_hd {r : Rows} (hn : (keys r).Nodup) (h : ∀ x ∈ r, 1 ≤ x.2) {s f : Int} (hs : s ∈ keys r) : hd (partR r s f) = hd r + 1 := by
  rw [hd_wsum, hd_wsum]
  unfold partR
  rw [(gath_ok _).sum, part_wsum hn h hs]
  show _ - 1 + 1 + 1 = _
  omega
/-- the stands behind a deed that is good -/
theorem come_ok {r : Rows} (h : Ok r) {s m : Int} (h1 : 1 ≤ s) (h2 : 1 ≤ m) (l : (comeR r s m).length ≤ 40) (f : folkP (comeR r s m) ≤ bigF) : Ok (comeR r s m) :=
  .mk' (gath_ne (by simp)) l (gath_ok _).rise (gath_bd fun x hx => by
    rcases List.mem_append.mp hx with z | z
    · exact h.bd x z
    · rw [List.mem_singleton.mp z]; exact ⟨h1, h2⟩) f
theorem part_ok {r : Rows} (h : Ok r) {s f : Int} (hs : s ∈ keys r) (h1 : 1 ≤ f) (h2 : f < s) (l : (partR r s f).length ≤ 40) : Ok (partR r s f) :=
  .mk' (gath_ne (by unfold partB; simp)) l (gath_ok _).rise (gath_bd fun x hx => by
    refine ⟨?_, part_pos x hx⟩
    rcases List.mem_append.mp hx with z | z
    · obtain ⟨p, hp, rfl⟩ := List.mem_map.mp (List.mem_filter.mp z).1
      exact (h.bd p hp).1
    · simp only [List.mem_cons, List.not_mem_nil, or_false] at z
      rcases z with rfl | rfl
      · exact h1
      · show 1 ≤ s - f
        omega) (by rw [part_folk (rise_nodup h.rise) (fun x hx => (h.bd x hx).2) hs]; exact h.s60)
end Wm

set_option Elab.async false
set_option linter.all false
set_option maxRecDepth 100000
set_option maxHeartbeats 2000000
set_option exponentiation.threshold 5000
namespace Lw
open PySem Wm

abbrev g_FAR : Int := 1000000000000000000
abbrev g_MOST_FOLK : Int := 1000000000000000000000000000000000000000000000000000000000000
abbrev g_MOST_SIZES : Int := 40
/-- is_whole: thing 0 -/
def b_is_whole (E : Nat → Addr) : SM :=
    (mRet (mAnd (mIsi .int (mVar 0)) (mNot (mIsi .bool (mVar 0)))))
def m_is_whole (E : Nat → Addr) : FM := mFn 0 (b_is_whole E)
/-- is_from: thing 0, low 1, high 2 -/
def b_is_from (E : Nat → Addr) : SM :=
    (mRet (mAnd (mCall 1 (m_is_whole E) (mCons (mVar 0) mNil)) (mChain oLeI oLeI (mVar 1) (mVar 0) (mVar 2))))
def m_is_from (E : Nat → Addr) : FM := mFn 0 (b_is_from E)
/-- are_herds: thing 0, row 1, part 2, one 3, other 4 -/
def b_are_herds (E : Nat → Addr) : SM :=
    (mSeq (mIfS (mOrT (mNotT (mTest (mIsi .tuple (mVar 0)))) (mNotT (mTest (mCB oAll (mCons (mComp [1] (mItQ (mVar 0)) (.one 1) mYes (mAnd (mIsi .tuple (mVar 1)) (mBin oEq (mCB oLen (mCons (mVar 1) mNil)) (mC (.int 2))))) mNil))))) (mRet (mC (.bl false))) mNext)
    (mSeq (mIfS (mNotT (mTest (mCB oAll (mCons (mComp2 [1, 2] [2] (mItQ (mVar 0)) (.one 1) mYes (mItQ (mVar 1)) (.one 2) mYes (mCall 3 (m_is_from E) (mCons (mVar 2) (mCons (mC (.int 1)) (mCons (mC (.int g_MOST_FOLK)) mNil))))) mNil)))) (mRet (mC (.bl false))) mNext)
    (mRet (mCB oAll (mCons (mComp [3, 4] (mItZ (mCons (mVar 0) (mCons (mSl (mVar 0) (some (mC (.int 1))) none) mNil))) (.many [3, 4]) mYes (mBin oLtI (mBin oIx (mVar 3) (mC (.int 0))) (mBin oIx (mVar 4) (mC (.int 0))))) mNil)))))
def m_are_herds (E : Nat → Addr) : FM := mFn 4 (b_are_herds E)
/-- all_folk: rows 0, size 1, many 2 -/
def b_all_folk (E : Nat → Addr) : SM :=
    (mRet (mCB oSum (mCons (mComp [1, 2] (mItQ (mVar 0)) (.many [1, 2]) mYes (mBin oMul (mVar 1) (mVar 2))) mNil)))
def m_all_folk (E : Nat → Addr) : FM := mFn 2 (b_all_folk E)
/-- is_stand: thing 0 -/
def b_is_stand (E : Nat → Addr) : SM :=
    (mSeq (mIfS (mOrT (mNotT (mTest (mCall 1 (m_are_herds E) (mCons (mVar 0) mNil)))) (mNotT (mTest (mChain oLeI oLeI (mC (.int 1)) (mCB oLen (mCons (mVar 0) mNil)) (mC (.int g_MOST_SIZES)))))) (mRet (mC (.bl false))) mNext)
    (mRet (mBin oLeI (mCall 1 (m_all_folk E) (mCons (mVar 0) mNil)) (mC (.int g_MOST_FOLK)))))
def m_is_stand (E : Nat → Addr) : FM := mFn 0 (b_is_stand E)
/-- need_stand: stand 0 -/
def b_need_stand (E : Nat → Addr) : SM :=
    (mIfS (mNotT (mTest (mCall 1 (m_is_stand E) (mCons (mVar 0) mNil)))) (mRaise (E 1)) mNext)
def m_need_stand (E : Nat → Addr) : FM := mFn 0 (b_need_stand E)
/-- Plain.__init__: self 0, stand 1 -/
def b_Plain_init (E : Nat → Addr) : SM :=
    (mSeq (mDrop (mCall 1 (m_need_stand E) (mCons (mVar 1) mNil)))
    (mSeq (mSetF (E 9) "herds" (mVar 0) (mVar 1))
    (mSetF (E 9) "gone" (mVar 0) (mC (.int 0)))))
def m_Plain_init (E : Nat → Addr) : FM := mFn 0 (b_Plain_init E)
/-- Plain.__len__: self 0 -/
def b_Plain_len (E : Nat → Addr) : SM :=
    (mRet (mCB oLen (mCons (mFld (E 9) "herds" (mVar 0)) mNil)))
def m_Plain_len (E : Nat → Addr) : FM := mFn 0 (b_Plain_len E)
/-- Plain.__eq__: self 0, other 1 -/
def b_Plain_eq (E : Nat → Addr) : SM :=
    (mRet (mAnd (mIsiC (E 9) (mVar 1)) (mBin oEq (mTup (mCons (mFld (E 9) "herds" (mVar 0)) (mCons (mFld (E 9) "gone" (mVar 0)) mNil))) (mTup (mCons (mFld (E 9) "herds" (mVar 1)) (mCons (mFld (E 9) "gone" (mVar 1)) mNil))))))
def m_Plain_eq (E : Nat → Addr) : FM := mFn 0 (b_Plain_eq E)
/-- Plain.stand: self 0 -/
def b_Plain_stand (E : Nat → Addr) : SM :=
    (mRet (mFld (E 9) "herds" (mVar 0)))
def m_Plain_stand (E : Nat → Addr) : FM := mFn 0 (b_Plain_stand E)
/-- gathered: herds 0, found 1, size 2, many 3 -/
def b_gathered (E : Nat → Addr) : SM :=
    (mSeq (mSet 1 mDNew)
    (mSeq (mFor (mItQ (mVar 0)) (.many [2, 3]) (mStore (mVar 1) (mVar 2) (mBin oAdd (mGet2 (mVar 1) (mVar 2) (mC (.int 0))) (mVar 3))))
    (mRet (mCB oTuple (mCons (mSortI (mVar 1)) mNil)))))
def m_gathered (E : Nat → Addr) : FM := mFn 3 (b_gathered E)
/-- joined: stand 0, size 1, many 2 -/
def b_joined (E : Nat → Addr) : SM :=
    (mRet (mCall 1 (m_gathered E) (mCons (mComp [1, 2] (mItQ (mVar 0)) (.many [1, 2]) mYes (mTup (mCons (mBin oMul (mVar 1) (mVar 2)) (mCons (mC (.int 1)) mNil)))) mNil)))
def m_joined (E : Nat → Addr) : FM := mFn 2 (b_joined E)
/-- way_on: stand 0, found 1, there 2 -/
def b_way_on (E : Nat → Addr) : SM :=
    (mSeq (mSet 1 (mLst (mCons (mVar 0) mNil)))
    (mSeq (mSet 2 (mCall 1 (m_joined E) (mCons (mVar 0) mNil)))
    (mSeq (mWhile (mTest (mBin oNe (mVar 2) (mBin oIx (mVar 1) (mNeg (mC (.int 1)))))) (mSeq (mDrop (mMt oAppend (mVar 1) (mCons (mVar 2) mNil)))
    (mSet 2 (mCall 1 (m_joined E) (mCons (mVar 2) mNil)))))
    (mRet (mVar 1)))))
def m_way_on (E : Nat → Addr) : FM := mFn 2 (b_way_on E)
/-- Plain.rest: self 0 -/
def b_Plain_rest (E : Nat → Addr) : SM :=
    (mRet (mBin oIx (mCall 1 (m_way_on E) (mCons (mFld (E 9) "herds" (mVar 0)) mNil)) (mNeg (mC (.int 1)))))
def m_Plain_rest (E : Nat → Addr) : FM := mFn 0 (b_Plain_rest E)
/-- Plain.dusks: self 0 -/
def b_Plain_dusks (E : Nat → Addr) : SM :=
    (mRet (mFld (E 9) "gone" (mVar 0)))
def m_Plain_dusks (E : Nat → Addr) : FM := mFn 0 (b_Plain_dusks E)
/-- _law_deck: cell 0, turn 1 -/
def b_l_deck (E : Nat → Addr) : SM :=
    (mSeq (mIfS (mTest (mBin oGeI (mVar 0) (mBin oPowI (mC (.int 10)) (mC (.int 18))))) (mRet (mLst (mCons (mBin oSubI (mVar 0) (mBin oPowI (mC (.int 10)) (mC (.int 18)))) (mCons (mBin oModI (mVar 0) (mC (.int 2147483579))) (mCons (mVar 1) mNil))))) mNext)
    (mRet (mLst (mCons (mC (.int 0)) (mCons (mBin oModI (mVar 0) (mC (.int 2147483579))) (mCons (mVar 1) mNil))))))
def m_l_deck (E : Nat → Addr) : FM := mFn 0 (b_l_deck E)
/-- _law_pick: deck 0, size 1, found 2, number 3 -/
def b_l_pick (E : Nat → Addr) : SM :=
    (mSeq (mIfS (mTest (mBin oGtI (mBin oIx (mVar 0) (mC (.int 0))) (mC (.int 1)))) (mSeq (mSet 2 (mBin oModI (mCB oInt1 (mCons (mBin oIx (mVar 0) (mC (.int 0))) mNil)) (mVar 1)))
    (mSeq (mStore (mVar 0) (mC (.int 0)) (mBin oDivI (mBin oIx (mVar 0) (mC (.int 0))) (mVar 1)))
    (mRet (mVar 2)))) mNext)
    (mSeq (mStore (mVar 0) (mC (.int 2)) (mBin oAdd (mBin oIx (mVar 0) (mC (.int 2))) (mC (.int 1))))
    (mSeq (mSet 3 (mBin oModI (mBin oPowI (mBin oAdd (mBin oIx (mVar 0) (mC (.int 1))) (mBin oMul (mC (.int 15485867)) (mBin oIx (mVar 0) (mC (.int 2))))) (mC (.int 5))) (mC (.int 2147483647))))
    (mSeq (mSet 2 (mBin oDivI (mBin oModI (mBin oPowI (mBin oAdd (mVar 3) (mBin oMul (mC (.int 7919)) (mBin oIx (mVar 0) (mC (.int 2))))) (mC (.int 3))) (mC (.int 2147483629))) (mC (.int 32))))
    (mRet (mBin oModI (mCB oInt1 (mCons (mVar 2) mNil)) (mVar 1)))))))
def m_l_pick (E : Nat → Addr) : FM := mFn 2 (b_l_pick E)
/-- _law_sort: thing 0 -/
def b_l_sort (E : Nat → Addr) : SM :=
    (mSeq (mIfS (mTest (mIsi .bool (mVar 0))) (mRet (mC (.int 1))) mNext)
    (mSeq (mIfS (mTest (mIsi .int (mVar 0))) (mRet (mC (.int 2))) mNext)
    (mSeq (mIfS (mTest (mIsi .str (mVar 0))) (mRet (mC (.int 3))) mNext)
    (mSeq (mIfS (mTest (mIsi .list (mVar 0))) (mRet (mC (.int 4))) mNext)
    (mRet (mIf (mTest (mIsi .tuple (mVar 0))) (mC (.int 5)) (mC (.int 6))))))))
def m_l_sort (E : Nat → Addr) : FM := mFn 0 (b_l_sort E)
/-- _law_same: told 0, due 1, k 2, part 3 -/
def b_l_same (E : Nat → Addr) (mr : FM) : SM :=
    (mSeq (mIfS (mTest (mBin oNe (mCall 1 (m_l_sort E) (mCons (mVar 0) mNil)) (mCall 1 (m_l_sort E) (mCons (mVar 1) mNil)))) (mRet (mC (.bl false))) mNext)
    (mSeq (mIfS (mAndT (mTest (mBin oGtI (mCall 1 (m_l_sort E) (mCons (mVar 0) mNil)) (mC (.int 3)))) (mTest (mBin oLtI (mCall 1 (m_l_sort E) (mCons (mVar 0) mNil)) (mC (.int 6))))) (mSeq (mIfS (mTest (mBin oNe (mCB oLen (mCons (mVar 0) mNil)) (mCB oLen (mCons (mVar 1) mNil)))) (mRet (mC (.bl false))) mNext)
    (mRet (mBin oEq (mComp [2, 3] (mItE (mCons (mVar 0) mNil)) (.many [2, 3]) (mNotT (mTest (mCall 2 mr (mCons (mVar 3) (mCons (mBin oIx (mVar 1) (mVar 2)) mNil))))) (mVar 2)) (mLst mNil)))) mNext)
    (mRet (mBin oEq (mVar 0) (mVar 1)))))
def m_l_same (E : Nat → Addr) : Nat → FM
  | 0 => fun _ _ => .bad
  | n + 1 => mFn 2 (b_l_same E (m_l_same E n))
/-- _law_one: deck 0, some 1 -/
def b_l_one (E : Nat → Addr) : SM :=
    (mRet (mBin oIx (mVar 1) (mCall 2 (m_l_pick E) (mCons (mVar 0) (mCons (mCB oLen (mCons (mVar 1) mNil)) mNil)))))
def m_l_one (E : Nat → Addr) : FM := mFn 0 (b_l_one E)
/-- _law_gathered: herds 0, found 1, size 2 -/
def b_l_gathered (E : Nat → Addr) : SM :=
    (mSeq (mSet 1 mDNew)
    (mSeq (mFor (mItQ (mVar 0)) (.one 2) (mStore (mVar 1) (mVar 2) (mBin oAdd (mGet2 (mVar 1) (mVar 2) (mC (.int 0))) (mC (.int 1)))))
    (mRet (mCB oTuple (mCons (mSortI (mVar 1)) mNil)))))
def m_l_gathered (E : Nat → Addr) : FM := mFn 2 (b_l_gathered E)
/-- _law_few: deck 0, folk_in_all 1, left 2, herds 3, size 4 -/
def b_l_few (E : Nat → Addr) : SM :=
    (mSeq (mPar 2 3 (mCons (mVar 1) (mCons (mLst mNil) mNil)))
    (mSeq (mWhile (mTest (mBin oGtI (mVar 2) (mC (.int 0)))) (mSeq (mSet 4 (mCB oMin2 (mCons (mVar 2) (mCons (mCall 2 (m_l_one E) (mCons (mVar 0) (mCons (mLst (mCons (mC (.int 1)) (mCons (mC (.int 1)) (mCons (mC (.int 2)) (mCons (mC (.int 3)) (mCons (mBin oAdd (mC (.int 1)) (mCall 2 (m_l_pick E) (mCons (mVar 0) (mCons (mC (.int 6)) mNil)))) (mCons (mBin oAdd (mC (.int 1)) (mCall 2 (m_l_pick E) (mCons (mVar 0) (mCons (mVar 2) mNil)))) mNil))))))) mNil))) mNil))))
    (mSeq (mDrop (mMt oAppend (mVar 3) (mCons (mVar 4) mNil)))
    (mSet 2 (mBin oSubI (mVar 2) (mVar 4))))))
    (mRet (mCall 1 (m_l_gathered E) (mCons (mVar 3) mNil)))))
def m_l_few (E : Nat → Addr) : FM := mFn 3 (b_l_few E)
/-- _law_joined: stand 0, size 1, many 2 -/
def b_l_joined (E : Nat → Addr) : SM :=
    (mRet (mCall 1 (m_l_gathered E) (mCons (mComp [1, 2] (mItQ (mVar 0)) (.many [1, 2]) mYes (mBin oMul (mVar 1) (mVar 2))) mNil)))
def m_l_joined (E : Nat → Addr) : FM := mFn 2 (b_l_joined E)
/-- _law_way: stand 0, found 1, there 2 -/
def b_l_way (E : Nat → Addr) : SM :=
    (mSeq (mPar 1 2 (mCons (mLst (mCons (mVar 0) mNil)) (mCons (mCall 1 (m_l_joined E) (mCons (mVar 0) mNil)) mNil)))
    (mSeq (mWhile (mTest (mBin oNe (mVar 2) (mBin oIx (mVar 1) (mNeg (mC (.int 1)))))) (mSeq (mDrop (mMt oAppend (mVar 1) (mCons (mVar 2) mNil)))
    (mSet 2 (mCall 1 (m_l_joined E) (mCons (mVar 2) mNil)))))
    (mRet (mVar 1))))
def m_l_way (E : Nat → Addr) : FM := mFn 2 (b_l_way E)
/-- _law_whole: thing 0 -/
def b_l_whole (E : Nat → Addr) : SM :=
    (mRet (mAnd (mIsi .int (mVar 0)) (mNot (mIsi .bool (mVar 0)))))
def m_l_whole (E : Nat → Addr) : FM := mFn 0 (b_l_whole E)
/-- _law_after: stand 0, deed 1, word 2, one 3, other 4, found 5, table 6, size 7, many 8, row 9 -/
def b_l_after (E : Nat → Addr) : SM :=
    (mSeq (mTg (.many [2, 3, 4]) (mVar 1))
    (mSeq (mIfS (mTest (mBin oEq (mVar 2) (mC (.str "go")))) (mSeq (mSet 5 (mCall 1 (m_l_way E) (mCons (mVar 0) mNil)))
    (mRet (mBin oIx (mVar 5) (mCB oMin2 (mCons (mVar 3) (mCons (mBin oSubI (mCB oLen (mCons (mVar 5) mNil)) (mC (.int 1))) mNil)))))) mNext)
    (mSeq (mSet 6 (mCB oDict (mCons (mVar 0) mNil)))
    (mSeq (mFor (mItQ (mIf (mTest (mBin oEq (mVar 2) (mC (.str "come")))) (mLst (mCons (mTup (mCons (mVar 3) (mCons (mVar 4) mNil))) mNil)) (mLst (mCons (mTup (mCons (mVar 3) (mCons (mNeg (mC (.int 1))) mNil))) (mCons (mTup (mCons (mVar 4) (mCons (mC (.int 1)) mNil))) (mCons (mTup (mCons (mBin oSubI (mVar 3) (mVar 4)) (mCons (mC (.int 1)) mNil))) mNil)))))) (.many [7, 8]) (mStore (mVar 6) (mVar 7) (mBin oAdd (mGet2 (mVar 6) (mVar 7) (mC (.int 0))) (mVar 8))))
    (mRet (mCB oTuple (mCons (mCB oSort (mCons (mItP 6 9) mNil)) mNil)))))))
def m_l_after (E : Nat → Addr) : FM := mFn 8 (b_l_after E)
/-- _law_due: stand 0, deed 1, word 2, one 3, other 4, there 5, size 6, many 7 -/
def b_l_due (E : Nat → Addr) : SM :=
    (mSeq (mTg (.many [2, 3, 4]) (mVar 1))
    (mSeq (mIfS (mTest (mBin oEq (mVar 2) (mC (.str "go")))) (mRet (mIf (mAndT (mTest (mCall 1 (m_l_whole E) (mCons (mVar 3) mNil))) (mTest (mChain oLeI oLeI (mC (.int 1)) (mVar 3) (mBin oPowI (mC (.int 10)) (mC (.int 18)))))) (mC (.str "")) (mC (.str "NoCount+")))) mNext)
    (mSeq (mIfS (mTest (mBin oEq (mVar 2) (mC (.str "come")))) (mSeq (mIfS (mOrT (mNotT (mTest (mCall 1 (m_l_whole E) (mCons (mVar 3) mNil)))) (mOrT (mNotT (mTest (mCall 1 (m_l_whole E) (mCons (mVar 4) mNil)))) (mOrT (mTest (mBin oLtI (mVar 3) (mC (.int 1)))) (mTest (mBin oLtI (mVar 4) (mC (.int 1))))))) (mRet (mC (.str "NoHerds+"))) mNext)
    (mSeq (mSet 5 (mCall 2 (m_l_after E) (mCons (mVar 0) (mCons (mVar 1) mNil))))
    (mRet (mIf (mOrT (mTest (mBin oGtI (mCB oLen (mCons (mVar 5) mNil)) (mC (.int 40)))) (mTest (mBin oGtI (mCB oSum (mCons (mComp [6, 7] (mItQ (mVar 5)) (.many [6, 7]) mYes (mBin oMul (mVar 6) (mVar 7))) mNil)) (mBin oPowI (mC (.int 10)) (mC (.int 60)))))) (mC (.str "Full+")) (mC (.str "")))))) mNext)
    (mSeq (mIfS (mOrT (mNotT (mTest (mCall 1 (m_l_whole E) (mCons (mVar 3) mNil)))) (mTest (mBin oNotIn (mVar 3) (mComp [6, 7] (mItQ (mVar 0)) (.many [6, 7]) mYes (mVar 6))))) (mRet (mC (.str "NoHerds+"))) mNext)
    (mSeq (mIfS (mOrT (mNotT (mTest (mCall 1 (m_l_whole E) (mCons (mVar 4) mNil)))) (mNotT (mTest (mChain oLeI oLtI (mC (.int 1)) (mVar 4) (mVar 3))))) (mRet (mC (.str "NoFirst+"))) mNext)
    (mRet (mIf (mTest (mBin oGtI (mCB oLen (mCons (mCall 2 (m_l_after E) (mCons (mVar 0) (mCons (mVar 1) mNil))) mNil)) (mC (.int 40)))) (mC (.str "Full+")) (mC (.str "")))))))))
def m_l_due (E : Nat → Addr) : FM := mFn 6 (b_l_due E)
/-- Plain.come: self 0, size 1, many 2, there 3 -/
def b_Plain_come (E : Nat → Addr) : SM :=
    (mSeq (mIfS (mOrT (mNotT (mTest (mCall 1 (m_is_whole E) (mCons (mVar 1) mNil)))) (mOrT (mNotT (mTest (mCall 1 (m_is_whole E) (mCons (mVar 2) mNil)))) (mOrT (mTest (mBin oLtI (mVar 1) (mC (.int 1)))) (mTest (mBin oLtI (mVar 2) (mC (.int 1))))))) (mRaise (E 3)) mNext)
    (mSeq (mSet 3 (mCall 1 (m_gathered E) (mCons (mBin oAdd (mFld (E 9) "herds" (mVar 0)) (mTup (mCons (mTup (mCons (mVar 1) (mCons (mVar 2) mNil))) mNil))) mNil)))
    (mSeq (mIfS (mOrT (mTest (mBin oGtI (mCB oLen (mCons (mVar 3) mNil)) (mC (.int g_MOST_SIZES)))) (mTest (mBin oGtI (mCall 1 (m_all_folk E) (mCons (mVar 3) mNil)) (mC (.int g_MOST_FOLK))))) (mRaise (E 7)) mNext)
    (mSetF (E 9) "herds" (mVar 0) (mVar 3)))))
def m_Plain_come (E : Nat → Addr) : FM := mFn 1 (b_Plain_come E)
/-- Plain.part: self 0, size 1, first 2, one 3, many 4, left 5, row 6, there 7 -/
def b_Plain_part (E : Nat → Addr) : SM :=
    (mSeq (mIfS (mOrT (mNotT (mTest (mCall 1 (m_is_whole E) (mCons (mVar 1) mNil)))) (mTest (mBin oNotIn (mVar 1) (mComp [3, 4] (mItQ (mFld (E 9) "herds" (mVar 0))) (.many [3, 4]) mYes (mVar 3))))) (mRaise (E 3)) mNext)
    (mSeq (mIfS (mNotT (mTest (mCall 3 (m_is_from E) (mCons (mVar 2) (mCons (mC (.int 1)) (mCons (mBin oSubI (mVar 1) (mC (.int 1))) mNil)))))) (mRaise (E 4)) mNext)
    (mSeq (mSet 5 (mComp [3, 4] (mItQ (mFld (E 9) "herds" (mVar 0))) (.many [3, 4]) mYes (mTup (mCons (mVar 3) (mCons (mBin oSubI (mVar 4) (mCB oInt1 (mCons (mBin oEq (mVar 3) (mVar 1)) mNil))) mNil)))))
    (mSeq (mSet 7 (mCall 1 (m_gathered E) (mCons (mBin oAdd (mComp [6] (mItQ (mVar 5)) (.one 6) (mTest (mBin oGtI (mBin oIx (mVar 6) (mC (.int 1))) (mC (.int 0)))) (mVar 6)) (mLst (mCons (mTup (mCons (mVar 2) (mCons (mC (.int 1)) mNil))) (mCons (mTup (mCons (mBin oSubI (mVar 1) (mVar 2)) (mCons (mC (.int 1)) mNil))) mNil)))) mNil)))
    (mSeq (mIfS (mTest (mBin oGtI (mCB oLen (mCons (mVar 7) mNil)) (mC (.int g_MOST_SIZES)))) (mRaise (E 7)) mNext)
    (mSetF (E 9) "herds" (mVar 0) (mVar 7)))))))
def m_Plain_part (E : Nat → Addr) : FM := mFn 5 (b_Plain_part E)
/-- Plain.go: self 0, dusks 1, found 2 -/
def b_Plain_go (E : Nat → Addr) : SM :=
    (mSeq (mIfS (mNotT (mTest (mCall 3 (m_is_from E) (mCons (mVar 1) (mCons (mC (.int 1)) (mCons (mC (.int g_FAR)) mNil)))))) (mRaise (E 2)) mNext)
    (mSeq (mSet 2 (mCall 1 (m_way_on E) (mCons (mFld (E 9) "herds" (mVar 0)) mNil)))
    (mSeq (mSetF (E 9) "herds" (mVar 0) (mBin oIx (mVar 2) (mCB oMin2 (mCons (mVar 1) (mCons (mBin oSubI (mCB oLen (mCons (mVar 2) mNil)) (mC (.int 1))) mNil)))))
    (mAugF (E 9) "gone" (mVar 0) (mVar 1)))))
def m_Plain_go (E : Nat → Addr) : FM := mFn 1 (b_Plain_go E)
/-- _law_do: plain 0, deed 1, word 2, one 3, other 4, told 5 -/
def b_l_do (E : Nat → Addr) : SM :=
    (mSeq (mTg (.many [2, 3, 4]) (mVar 1))
    (mSeq (mIfS (mTest (mBin oEq (mVar 2) (mC (.str "go")))) (mSet 5 (mTry (E 100) "_law_do.<locals>.<lambda>" 0 E (mMeth (E 9) "go" 2 (m_Plain_go E) (mVar 0) (mCons (mVar 3) mNil)))) (mIfS (mTest (mBin oEq (mVar 2) (mC (.str "come")))) (mSet 5 (mTry (E 100) "_law_do.<locals>.<lambda>" 0 E (mMeth (E 9) "come" 3 (m_Plain_come E) (mVar 0) (mCons (mVar 3) (mCons (mVar 4) mNil))))) (mSet 5 (mTry (E 100) "_law_do.<locals>.<lambda>" 0 E (mMeth (E 9) "part" 3 (m_Plain_part E) (mVar 0) (mCons (mVar 3) (mCons (mVar 4) mNil)))))))
    (mRet (mIf (mTest (mBin oEq (mVar 5) (mTup (mCons (mC (.str "told")) (mCons (mC .non) mNil))))) (mC (.str "")) (mVar 5)))))
def m_l_do (E : Nat → Addr) : FM := mFn 4 (b_l_do E)
/-- _law_good_deed: deck 0, stand 1, size 2, many 3, sizes 4, way 5 -/
def b_l_good_deed (E : Nat → Addr) : SM :=
    (mSeq (mPar 4 5 (mCons (mComp [2, 3] (mItQ (mVar 1)) (.many [2, 3]) mYes (mVar 2)) (mCons (mCall 2 (m_l_pick E) (mCons (mVar 0) (mCons (mC (.int 6)) mNil))) mNil)))
    (mSeq (mIfS (mTest (mBin oEq (mVar 5) (mC (.int 0)))) (mRet (mTup (mCons (mC (.str "go")) (mCons (mCall 2 (m_l_one E) (mCons (mVar 0) (mCons (mLst (mCons (mC (.int 1)) (mCons (mC (.int 1)) (mCons (mC (.int 2)) (mCons (mC (.int 3)) (mCons (mBin oPowI (mC (.int 10)) (mC (.int 18))) mNil)))))) mNil))) (mCons (mC (.int 0)) mNil))))) mNext)
    (mSeq (mSet 2 (mCall 2 (m_l_one E) (mCons (mVar 0) (mCons (mVar 4) mNil))))
    (mSeq (mIfS (mOrT (mTest (mBin oLtI (mVar 5) (mC (.int 4)))) (mTest (mBin oEq (mVar 2) (mC (.int 1))))) (mRet (mTup (mCons (mC (.str "come")) (mCons (mCall 2 (m_l_one E) (mCons (mVar 0) (mCons (mBin oAdd (mVar 4) (mLst (mCons (mC (.int 1)) (mCons (mC (.int 2)) (mCons (mBin oAdd (mC (.int 1)) (mCall 2 (m_l_pick E) (mCons (mVar 0) (mCons (mC (.int 50)) mNil)))) mNil))))) mNil))) (mCons (mCall 2 (m_l_one E) (mCons (mVar 0) (mCons (mLst (mCons (mC (.int 1)) (mCons (mC (.int 1)) (mCons (mC (.int 2)) (mCons (mC (.int 3)) mNil))))) mNil))) mNil))))) mNext)
    (mRet (mTup (mCons (mC (.str "part")) (mCons (mVar 2) (mCons (mCall 2 (m_l_one E) (mCons (mVar 0) (mCons (mLst (mCons (mC (.int 1)) (mCons (mBin oSubI (mVar 2) (mC (.int 1))) (mCons (mBin oAdd (mC (.int 1)) (mCall 2 (m_l_pick E) (mCons (mVar 0) (mCons (mBin oSubI (mVar 2) (mC (.int 1))) mNil)))) mNil)))) mNil))) mNil)))))))))
def m_l_good_deed (E : Nat → Addr) : FM := mFn 4 (b_l_good_deed E)
/-- dusk: stand 0 -/
def b_dusk (E : Nat → Addr) : SM :=
    (mSeq (mDrop (mCall 1 (m_need_stand E) (mCons (mVar 0) mNil)))
    (mRet (mCall 1 (m_joined E) (mCons (mVar 0) mNil))))
def m_dusk (E : Nat → Addr) : FM := mFn 0 (b_dusk E)
/-- need_dusks: dusks 0 -/
def b_need_dusks (E : Nat → Addr) : SM :=
    (mIfS (mNotT (mTest (mCall 3 (m_is_from E) (mCons (mVar 0) (mCons (mC (.int 0)) (mCons (mC (.int g_FAR)) mNil)))))) (mRaise (E 2)) mNext)
def m_need_dusks (E : Nat → Addr) : FM := mFn 0 (b_need_dusks E)
/-- behind: stand 0, dusks 1, found 2 -/
def b_behind (E : Nat → Addr) : SM :=
    (mSeq (mDrop (mCall 1 (m_need_stand E) (mCons (mVar 0) mNil)))
    (mSeq (mDrop (mCall 1 (m_need_dusks E) (mCons (mVar 1) mNil)))
    (mSeq (mSet 2 (mCall 1 (m_way_on E) (mCons (mVar 0) mNil)))
    (mRet (mBin oIx (mVar 2) (mCB oMin2 (mCons (mVar 1) (mCons (mBin oSubI (mCB oLen (mCons (mVar 2) mNil)) (mC (.int 1))) mNil))))))))
def m_behind (E : Nat → Addr) : FM := mFn 1 (b_behind E)
/-- rest: stand 0, found 1 -/
def b_rest (E : Nat → Addr) : SM :=
    (mSeq (mDrop (mCall 1 (m_need_stand E) (mCons (mVar 0) mNil)))
    (mSeq (mSet 1 (mCall 1 (m_way_on E) (mCons (mVar 0) mNil)))
    (mRet (mTup (mCons (mBin oIx (mVar 1) (mNeg (mC (.int 1)))) (mCons (mBin oSubI (mCB oLen (mCons (mVar 1) mNil)) (mC (.int 1))) mNil))))))
def m_rest (E : Nat → Addr) : FM := mFn 1 (b_rest E)
/-- met_sizes: stand 0, there 1, size 2, many 3 -/
def b_met_sizes (E : Nat → Addr) : SM :=
    (mRet (mCB oSort (mCons (mDComp2 [1, 2, 3] [2, 3] (mItQ (mCall 1 (m_way_on E) (mCons (mVar 0) mNil))) (.one 1) mYes (mItQ (mVar 1)) (.many [2, 3]) mYes (mVar 2) (mC (.bl true))) mNil)))
def m_met_sizes (E : Nat → Addr) : FM := mFn 3 (b_met_sizes E)
/-- met: stand 0 -/
def b_met (E : Nat → Addr) : SM :=
    (mSeq (mDrop (mCall 1 (m_need_stand E) (mCons (mVar 0) mNil)))
    (mRet (mCall 1 (m_met_sizes E) (mCons (mVar 0) mNil))))
def m_met (E : Nat → Addr) : FM := mFn 0 (b_met E)
/-- _law_beside: stand 0 -/
def b_l_beside (E : Nat → Addr) : SM :=
    (mRet (mLst (mCons (mCall 1 (m_dusk E) (mCons (mVar 0) mNil)) (mCons (mCall 1 (m_rest E) (mCons (mVar 0) mNil)) (mCons (mCall 1 (m_met E) (mCons (mVar 0) mNil)) (mCons (mCall 2 (m_behind E) (mCons (mVar 0) (mCons (mC (.int 2)) mNil))) (mCons (mMeth (E 9) "rest" 1 (m_Plain_rest E) (mMake (E 9) 2 (m_Plain_init E) (mCons (mVar 0) mNil)) mNil) mNil)))))))
def m_l_beside (E : Nat → Addr) : FM := mFn 0 (b_l_beside E)
/-- law: script 0, cell 1, deck 2, stand 3, plains_so 4, stands_so 5, gone 6, turn 7, first 8, k 9, deed 10, due 11, j 12, here 13, m 14, same 15 -/
def b_law (E : Nat → Addr) : SM :=
    (mSeq (mFor (mItQ (mSl (mBin oAdd (mLst (mCons (mC (.int 0)) mNil)) (mVar 0)) none (some (mC (.int 6))))) (.one 1) (mSeq (mSet 2 (mCall 2 (m_l_deck E) (mCons (mVar 1) (mCons (mC (.int 19)) mNil))))
    (mSeq (mSet 3 (mCall 2 (m_l_few E) (mCons (mVar 2) (mCons (mBin oAdd (mC (.int 1)) (mCall 2 (m_l_pick E) (mCons (mVar 2) (mCons (mC (.int 40)) mNil)))) mNil))))
    (mSeq (mPar3 4 5 6 (mCons (mLst (mCons (mMake (E 9) 2 (m_Plain_init E) (mCons (mVar 3) mNil)) (mCons (mMake (E 9) 2 (m_Plain_init E) (mCons (mVar 3) mNil)) mNil))) (mCons (mLst (mCons (mVar 3) (mCons (mVar 3) mNil))) (mCons (mLst (mCons (mC (.int 0)) (mCons (mC (.int 0)) mNil))) mNil))))
    (mFor (mItR1 (mCons (mC (.int 40)) mNil)) (.one 7) (mSeq (mIfS (mTest (mBin oEq (mVar 7) (mC (.int 20)))) (mSeq (mSet 8 (mCall 2 (m_l_few E) (mCons (mVar 2) (mCons (mBin oAdd (mC (.int 1)) (mCall 2 (m_l_pick E) (mCons (mVar 2) (mCons (mC (.int 40)) mNil)))) mNil))))
    (mSeq (mDrop (mMt oAppend (mVar 4) (mCons (mMake (E 9) 2 (m_Plain_init E) (mCons (mVar 8) mNil)) mNil)))
    (mSeq (mDrop (mMt oAppend (mVar 5) (mCons (mVar 8) mNil)))
    (mDrop (mMt oAppend (mVar 6) (mCons (mC (.int 0)) mNil)))))) mNext)
    (mSeq (mSet 9 (mCall 2 (m_l_pick E) (mCons (mVar 2) (mCons (mCB oLen (mCons (mVar 4) mNil)) mNil))))
    (mSeq (mSet 10 (mCall 2 (m_l_good_deed E) (mCons (mVar 2) (mCons (mBin oIx (mVar 5) (mVar 9)) mNil))))
    (mSeq (mSet 11 (mCall 2 (m_l_due E) (mCons (mBin oIx (mVar 5) (mVar 9)) (mCons (mVar 10) mNil))))
    (mSeq (mIfS (mTest (mBin oNe (mCall 2 (m_l_do E) (mCons (mBin oIx (mVar 4) (mVar 9)) (mCons (mVar 10) mNil))) (mVar 11))) (mRet (mC (.bl false))) mNext)
    (mSeq (mIfS (mTest (mBin oEq (mVar 11) (mC (.str "")))) (mSeq (mStore (mVar 5) (mVar 9) (mCall 2 (m_l_after E) (mCons (mBin oIx (mVar 5) (mVar 9)) (mCons (mVar 10) mNil))))
    (mStore (mVar 6) (mVar 9) (mBin oAdd (mBin oIx (mVar 6) (mVar 9)) (mIf (mTest (mBin oEq (mBin oIx (mVar 10) (mC (.int 0))) (mC (.str "go")))) (mBin oIx (mVar 10) (mC (.int 1))) (mC (.int 0)))))) mNext)
    (mSeq (mDrop (mCall 1 (m_l_beside E) (mCons (mBin oIx (mVar 5) (mCall 2 (m_l_pick E) (mCons (mVar 2) (mCons (mCB oLen (mCons (mVar 5) mNil)) mNil)))) mNil)))
    (mFor (mItR1 (mCons (mCB oLen (mCons (mVar 4) mNil)) mNil)) (.one 12) (mSeq (mSet 13 (mLst (mCons (mMeth (E 9) "stand" 1 (m_Plain_stand E) (mBin oIx (mVar 4) (mVar 12)) mNil) (mCons (mMeth (E 9) "dusks" 1 (m_Plain_dusks E) (mBin oIx (mVar 4) (mVar 12)) mNil) (mCons (mCB (oLenP (E 9) (m_Plain_len E)) (mCons (mBin oIx (mVar 4) (mVar 12)) mNil)) (mCons (mMeth (E 9) "rest" 1 (m_Plain_rest E) (mBin oIx (mVar 4) (mVar 12)) mNil) mNil))))))
    (mSeq (mIfS (mNotT (mTest (mCall 2 (m_l_same E 8) (mCons (mVar 13) (mCons (mLst (mCons (mBin oIx (mVar 5) (mVar 12)) (mCons (mBin oIx (mVar 6) (mVar 12)) (mCons (mCB oLen (mCons (mBin oIx (mVar 5) (mVar 12)) mNil)) (mCons (mBin oIx (mCall 1 (m_l_way E) (mCons (mBin oIx (mVar 5) (mVar 12)) mNil)) (mNeg (mC (.int 1)))) mNil))))) mNil))))) (mRet (mC (.bl false))) mNext)
    (mFor (mItR1 (mCons (mCB oLen (mCons (mVar 4) mNil)) mNil)) (.one 14) (mSeq (mSet 15 (mBin oEq (mTup (mCons (mBin oIx (mVar 5) (mVar 12)) (mCons (mBin oIx (mVar 6) (mVar 12)) mNil))) (mTup (mCons (mBin oIx (mVar 5) (mVar 14)) (mCons (mBin oIx (mVar 6) (mVar 14)) mNil)))))
    (mIfS (mNotT (mTest (mCall 2 (m_l_same E 8) (mCons (mBin (oEqP (E 9) (m_Plain_eq E)) (mBin oIx (mVar 4) (mVar 12)) (mBin oIx (mVar 4) (mVar 14))) (mCons (mVar 15) mNil))))) (mRet (mC (.bl false))) mNext))))))))))))))))))
    (mRet (mC (.bl true))))
def m_law (E : Nat → Addr) : FM := mFn 15 (b_law E)

end Lw
namespace Lw
open PySem PySem.Spec PyProof.Rows L2 Wm
def topS (i : Nat) : Stmt := PySem.Challenge.pw_likejoin_k19_whole_two_plains_by_turns.main.body.getD i (.Pass ⟨0, 0, 0, 0⟩)
section
variable {P : Program} {w : World} {K : PySem.W.Frag} {mg : Str → Option Value} {base : Heap} {E : Nat → Addr}
/-- what the top has: numbers, built-ins, errors -/
structure Tx (K : PySem.W.Frag) (mg : Str → Option Value) (E : Nat → Addr) : Prop where
  c_FAR : ∃ t, mg "FAR" = some (.int g_FAR t)
  c_MOST_FOLK : ∃ t, mg "MOST_FOLK" = some (.int g_MOST_FOLK t)
  c_MOST_SIZES : ∃ t, mg "MOST_SIZES" = some (.int g_MOST_SIZES t)
  b_ValueError : mg "ValueError" = none
  b_all : mg "all" = none
  b_bool : mg "bool" = none
  b_dict : mg "dict" = none
  b_enumerate : mg "enumerate" = none
  b_int : mg "int" = none
  b_isinstance : mg "isinstance" = none
  b_len : mg "len" = none
  b_list : mg "list" = none
  b_min : mg "min" = none
  b_range : mg "range" = none
  b_sorted : mg "sorted" = none
  b_str : mg "str" = none
  b_sum : mg "sum" = none
  b_tuple : mg "tuple" = none
  b_zip : mg "zip" = none
  e_NoStand : ExC K mg "NoStand" (E 1)
  e_NoCount : ExC K mg "NoCount" (E 2)
  e_NoHerds : ExC K mg "NoHerds" (E 3)
  e_NoFirst : ExC K mg "NoFirst" (E 4)
  e_Full : ExC K mg "Full" (E 7)
  pl : PlX K (E 9)
  k_Plain : mg "Plain" = some (.ref (E 9))
abbrev s_l_kin : Stmt := topS 43
abbrev s_l_try : Stmt := topS 44
theorem sc_l_kin : FnScope kinN ["e"] (defScope s_l_kin) := ⟨rfl, rfl, rfl, by decide +kernel, rfl, by decide +kernel, by decide +kernel⟩
theorem sc_l_try : FnScope tryN ["door"] (defScope s_l_try) := ⟨rfl, rfl, rfl, by decide +kernel, rfl, by decide +kernel, by decide +kernel⟩
theorem b_l_try {f : Addr} {fd : FuncData} (F : Fun K "_law_try" "_law_try" s_l_try f fd) : Binds K fd ["door"] [] := F.binds (ps := ["door"]) fun _ _ _ _ _ _ us hl => match us, hl with | [_], _ => rfl
theorem tt_l_try : TryText s_l_try := ⟨sc_l_try, rfl, rfl, rfl, rfl, rfl, rfl, ⟨_, _, _, _, _, _, _, _, _, _, _, _, _, _, _, _, _, _, _, _, _, _, _, _, _, _, rfl⟩⟩
theorem f_l_kin (XE : XCn K mg E) {f : Addr} {fd : FuncData} (F : Fun K "_law_kin" "_law_kin" s_l_kin f fd) (hf : mg "_law_kin" = some (.ref f)) : KinFn P w K mg base 1 "_law_kin" E := by
  have b := F.binds (ps := ["e"]) fun _ _ _ _ _ _ us hl => match us, hl with | [_], _ => rfl
  exact kin_mk (k := 0) F hf b sc_l_kin fun cdv A outer s H EE p i hot h1 h7 hz hf => (ss_cons (ss_set 1 sc_l_kin.nd (se_lst (sa_cons (se_isJ (i := 0) hot (XE.ex i h1 h7) hz hf XE.n1 (XE.kit i 1 h1 h7 (by decide) (by decide)) XE.ni) (sa_cons (se_isJ (i := 0) hot (XE.ex i h1 h7) hz hf XE.n2 (XE.kit i 2 h1 h7 (by decide) (by decide)) XE.ni) (sa_cons (se_isJ (i := 0) hot (XE.ex i h1 h7) hz hf XE.n3 (XE.kit i 3 h1 h7 (by decide) (by decide)) XE.ni) (sa_cons (se_isJ (i := 0) hot (XE.ex i h1 h7) hz hf XE.n4 (XE.kit i 4 h1 h7 (by decide) (by decide)) XE.ni) sa_nil)))))) (ss_cons (ss_set 1 sc_l_kin.nd (se_bin ow_add (se_var 1) (se_lst (sa_cons (se_isJ (i := 0) hot (XE.ex i h1 h7) hz hf XE.n5 (XE.kit i 5 h1 h7 (by decide) (by decide)) XE.ni) (sa_cons (se_isJ (i := 0) hot (XE.ex i h1 h7) hz hf XE.n6 (XE.kit i 6 h1 h7 (by decide) (by decide)) XE.ni) (sa_cons (se_isJ (i := 0) hot (XE.ex i h1 h7) hz hf XE.n7 (XE.kit i 7 h1 h7 (by decide) (by decide)) XE.ni) sa_nil)))))) (ss_cons (ss_set 1 sc_l_kin.nd (se_bin ow_add (se_var 1) (se_lst (sa_cons (se_isJ (i := 0) hot (XE.ex i h1 h7) hz hf XE.n8 (XE.kit i 8 h1 h7 (by decide) (by decide)) XE.ni) (sa_cons (se_isV (i := 0) hot (XE.ex i h1 h7) hz hf XE.nv (T := "ValueError") (by decide +kernel) (XE.kitV i h1 h7) XE.ni) sa_nil))))) (ss_cons (ss_set 2 sc_l_kin.nd (se_lst (sa_cons se_str (sa_cons se_str (sa_cons se_str (sa_cons se_str (sa_cons se_str (sa_cons se_str (sa_cons se_str (sa_cons se_str (sa_cons se_str sa_nil))))))))))) (ss_one (ss_ret (se_join (se_pick hot rfl XE.nz (sa_cons (se_var 2) (sa_cons (se_var 1) sa_nil)) rfl rfl rfl (by decide) (by decide) (by decide) (by decide +kernel) (by decide +kernel) (by decide +kernel)))))))))
abbrev s_is_whole : Stmt := topS 14
theorem sc_is_whole : FnScope ["thing"] ["thing"] (defScope s_is_whole) := ⟨rfl, rfl, rfl, by decide +kernel, rfl, by decide +kernel, by decide +kernel⟩
theorem f_is_whole (g : Tx K mg E) {f : Addr} {fd : FuncData} (F : Fun K "is_whole" "is_whole" s_is_whole f fd) (hf : mg "is_whole" = some (.ref f)) : Fn P w K mg base 1 "is_whole" 1 (m_is_whole E) := by
  have b := F.binds (ps := ["thing"]) fun _ _ _ _ _ _ us hl => match us, hl with | [_], _ => rfl
  exact fn_mk F hf b sc_is_whole rfl rfl fun cdv A outer s H EE c => (ss_one (ss_ret (se_and (se_isi .int g.b_isinstance g.b_int (by decide +kernel) (by decide +kernel) (se_var 0)) (se_one (se_not (se_isi .bool g.b_isinstance g.b_bool (by decide +kernel) (by decide +kernel) (se_var 0)))))))
abbrev s_is_from : Stmt := topS 15
theorem sc_is_from : FnScope ["thing", "low", "high"] ["thing", "low", "high"] (defScope s_is_from) := ⟨rfl, rfl, rfl, by decide +kernel, rfl, by decide +kernel, by decide +kernel⟩
theorem f_is_from (g : Tx K mg E) {f : Addr} {fd : FuncData} (F : Fun K "is_from" "is_from" s_is_from f fd) (hf : mg "is_from" = some (.ref f))
    (f_is_whole : Fn P w K mg base 1 "is_whole" 1 (m_is_whole E)) : Fn P w K mg base 2 "is_from" 3 (m_is_from E) := by
  have b := F.binds (ps := ["thing", "low", "high"]) fun _ _ _ _ _ _ us hl => match us, hl with | [_, _, _], _ => rfl
  exact fn_mk F hf b sc_is_from rfl rfl fun cdv A outer s H EE c => (ss_one (ss_ret (se_and (se_call c f_is_whole (by omega) (sa_cons (se_var 0) sa_nil)) (se_one (se_chain ow_leI ow_leI (se_var 1) (se_var 0) (se_var 2))))))
abbrev s_are_herds : Stmt := topS 16
theorem sc_are_herds : FnScope ["thing", "row", "part", "one", "other"] ["thing"] (defScope s_are_herds) := ⟨rfl, rfl, rfl, by decide +kernel, rfl, by decide +kernel, by decide +kernel⟩
theorem f_are_herds (g : Tx K mg E) {f : Addr} {fd : FuncData} (F : Fun K "are_herds" "are_herds" s_are_herds f fd) (hf : mg "are_herds" = some (.ref f))
    (f_is_from : Fn P w K mg base 2 "is_from" 3 (m_is_from E)) : Fn P w K mg base 3 "are_herds" 1 (m_are_herds E) := by
  obtain ⟨t_MOST_FOLK, h_MOST_FOLK⟩ := g.c_MOST_FOLK
  have b := F.binds (ps := ["thing"]) fun _ _ _ _ _ _ us hl => match us, hl with | [_], _ => rfl
  exact fn_mk F hf b sc_are_herds rfl rfl fun cdv A outer s H EE c => (ss_cons (ss_if (st_w (st_or (st_not (st_val (se_isi .tuple g.b_isinstance g.b_tuple (by decide +kernel) (by decide +kernel) (se_var 0)))) (st_or1 (st_not (st_val (se_cb (cw_all c.calm) g.b_all (by decide +kernel) (sa_cons (se_lc (own := [("row", 1)]) c (si_seq (se_var 0)) (by change blkC ["thing", "row", "part", "one", "other"] (defScope s_are_herds) _ _ = true; decide +kernel) (fun _ _ _ _ _ c1 => (sg_name 1 c1.nd)) (fun _ _ _ _ _ c1 => sts_nil) (fun _ _ _ _ _ c1 => (se_and (se_isi .tuple g.b_isinstance g.b_tuple (by decide +kernel) (by decide +kernel) (se_var 1)) (se_one (se_cmp (ow_eq c1.u64) (se_cb cw_len g.b_len (by decide +kernel) (sa_cons (se_var 1) sa_nil)) se_int (nomark _)))))) sa_nil))))))) (ss_one (ss_ret se_bl)) ss_nil)
    (ss_cons (ss_if (st_not (st_val (se_cb (cw_all c.calm) g.b_all (by decide +kernel) (sa_cons (se_lc2 (own := [("row", 1), ("part", 2)]) c (si_seq (se_var 0)) (by change blkC ["thing", "row", "part", "one", "other"] (defScope s_are_herds) _ _ = true; decide +kernel) [2] (fun _ _ _ _ _ c1 => (sg_name 1 c1.nd)) (fun _ _ _ _ _ c1 => sts_nil) (fun _ _ _ _ _ c1 => (si_seq (se_var 1))) (fun _ _ _ _ _ c1 => (sg_name 2 c1.nd)) (fun _ _ _ _ _ c1 => sts_nil) (fun _ _ _ _ _ c1 => (se_call c1 f_is_from (by omega) (sa_cons (se_var 2) (sa_cons se_int (sa_cons (se_gint h_MOST_FOLK) sa_nil)))))) sa_nil)))) (ss_one (ss_ret se_bl)) ss_nil)
    (ss_one (ss_ret (se_cb (cw_all c.calm) g.b_all (by decide +kernel) (sa_cons (se_lc (own := [("one", 3), ("other", 4)]) c (si_zip g.b_zip (sa_cons (se_var 0) (sa_cons (se_sl (se_var 0) (so_some se_int) so_none) sa_nil))) (by change blkC ["thing", "row", "part", "one", "other"] (defScope s_are_herds) _ _ = true; decide +kernel) (fun _ _ _ _ _ c1 => (sg_tup c1.calm (sgs_cons (sg_name 3 c1.nd) (sgs_cons (sg_name 4 c1.nd) sgs_nil)))) (fun _ _ _ _ _ c1 => sts_nil) (fun _ _ _ _ _ c1 => (se_cmp ow_ltI (se_ix (ix_any c1.hu) (se_var 3) se_int) (se_ix (ix_any c1.hu) (se_var 4) se_int) (nomark _)))) sa_nil))))))
abbrev s_all_folk : Stmt := topS 17
theorem sc_all_folk : FnScope ["rows", "size", "many"] ["rows"] (defScope s_all_folk) := ⟨rfl, rfl, rfl, by decide +kernel, rfl, by decide +kernel, by decide +kernel⟩
theorem f_all_folk (g : Tx K mg E) {f : Addr} {fd : FuncData} (F : Fun K "all_folk" "all_folk" s_all_folk f fd) (hf : mg "all_folk" = some (.ref f)) : Fn P w K mg base 1 "all_folk" 1 (m_all_folk E) := by
  have b := F.binds (ps := ["rows"]) fun _ _ _ _ _ _ us hl => match us, hl with | [_], _ => rfl
  exact fn_mk F hf b sc_all_folk rfl rfl fun cdv A outer s H EE c => (ss_one (ss_ret (se_cb (cw_sum c.calm) g.b_sum (by decide +kernel) (sa_cons (se_lc (own := [("size", 1), ("many", 2)]) c (si_seq (se_var 0)) (by change blkC ["rows", "size", "many"] (defScope s_all_folk) _ _ = true; decide +kernel) (fun _ _ _ _ _ c1 => (sg_tup c1.calm (sgs_cons (sg_name 1 c1.nd) (sgs_cons (sg_name 2 c1.nd) sgs_nil)))) (fun _ _ _ _ _ c1 => sts_nil) (fun _ _ _ _ _ c1 => (se_bin ow_mul (se_var 1) (se_var 2)))) sa_nil))))
abbrev s_is_stand : Stmt := topS 18
theorem sc_is_stand : FnScope ["thing"] ["thing"] (defScope s_is_stand) := ⟨rfl, rfl, rfl, by decide +kernel, rfl, by decide +kernel, by decide +kernel⟩
theorem f_is_stand (g : Tx K mg E) {f : Addr} {fd : FuncData} (F : Fun K "is_stand" "is_stand" s_is_stand f fd) (hf : mg "is_stand" = some (.ref f))
    (f_are_herds : Fn P w K mg base 3 "are_herds" 1 (m_are_herds E))
    (f_all_folk : Fn P w K mg base 1 "all_folk" 1 (m_all_folk E)) : Fn P w K mg base 4 "is_stand" 1 (m_is_stand E) := by
  obtain ⟨t_MOST_FOLK, h_MOST_FOLK⟩ := g.c_MOST_FOLK
  obtain ⟨t_MOST_SIZES, h_MOST_SIZES⟩ := g.c_MOST_SIZES
  have b := F.binds (ps := ["thing"]) fun _ _ _ _ _ _ us hl => match us, hl with | [_], _ => rfl
  exact fn_mk F hf b sc_is_stand rfl rfl fun cdv A outer s H EE c => (ss_cons (ss_if (st_w (st_or (st_not (st_val (se_call c f_are_herds (by omega) (sa_cons (se_var 0) sa_nil)))) (st_or1 (st_not (st_chain ow_leI ow_leI se_int (se_cb cw_len g.b_len (by decide +kernel) (sa_cons (se_var 0) sa_nil)) (se_gint h_MOST_SIZES)))))) (ss_one (ss_ret se_bl)) ss_nil)
    (ss_one (ss_ret (se_cmp ow_leI (se_call c f_all_folk (by omega) (sa_cons (se_var 0) sa_nil)) (se_gint h_MOST_FOLK) (nomark _)))))
abbrev s_need_stand : Stmt := topS 19
theorem sc_need_stand : FnScope ["stand"] ["stand"] (defScope s_need_stand) := ⟨rfl, rfl, rfl, by decide +kernel, rfl, by decide +kernel, by decide +kernel⟩
theorem f_need_stand (g : Tx K mg E) {f : Addr} {fd : FuncData} (F : Fun K "need_stand" "need_stand" s_need_stand f fd) (hf : mg "need_stand" = some (.ref f))
    (f_is_stand : Fn P w K mg base 4 "is_stand" 1 (m_is_stand E)) : Fn P w K mg base 5 "need_stand" 1 (m_need_stand E) := by
  have b := F.binds (ps := ["stand"]) fun _ _ _ _ _ _ us hl => match us, hl with | [_], _ => rfl
  exact fn_mk F hf b sc_need_stand rfl rfl fun cdv A outer s H EE c => (ss_one (ss_if (st_not (st_val (se_call c f_is_stand (by omega) (sa_cons (se_var 0) sa_nil)))) (ss_one (ss_raise c g.e_NoStand)) ss_nil))
abbrev s_Plain_init : Stmt := L2.inClass (topS 28) 0
theorem sc_Plain_init : FnScope ["self", "stand"] ["self", "stand"] (defScope s_Plain_init) := ⟨rfl, rfl, rfl, by decide +kernel, rfl, by decide +kernel, by decide +kernel⟩
theorem f_Plain_init (g : Tx K mg E) {f : Addr} {fd : FuncData} (F : Fun K "__init__" "Plain.__init__" s_Plain_init f fd) (hm : Mk K (E 9) f)
    (f_need_stand : Fn P w K mg base 5 "need_stand" 1 (m_need_stand E)) : KFn P w K mg base (E 9) 6 "Plain" 2 (m_Plain_init E) := by
  have b := F.binds (ps := ["self", "stand"]) fun _ _ _ _ _ _ us hl => match us, hl with | [_, _], _ => rfl
  exact ⟨f, fd, _, g.k_Plain, hm, b, rfl, fnok_mk F sc_Plain_init rfl rfl fun cdv A outer s H EE c => (ss_cons (ss_expr (se_call c f_need_stand (by omega) (sa_cons (se_var 1) sa_nil)))
    (ss_cons (ss_setF g.pl.c (by decide) (se_var 0) (se_var 1))
    (ss_one (ss_setF g.pl.c (by decide) (se_var 0) se_int))))⟩
abbrev s_Plain_len : Stmt := L2.inClass (topS 28) 1
theorem sc_Plain_len : FnScope ["self"] ["self"] (defScope s_Plain_len) := ⟨rfl, rfl, rfl, by decide +kernel, rfl, by decide +kernel, by decide +kernel⟩
theorem f_Plain_len (g : Tx K mg E) {f : Addr} {fd : FuncData} (F : Fun K "__len__" "Plain.__len__" s_Plain_len f fd) (hm : Meth K (E 9) "__len__" f) : MFn P w K mg base (E 9) 1 "__len__" 1 (m_Plain_len E) := by
  have b := F.binds (ps := ["self"]) fun _ _ _ _ _ _ us hl => match us, hl with | [_], _ => rfl
  exact ⟨f, fd, _, hm, b, rfl, fnok_mk F sc_Plain_len rfl rfl fun cdv A outer s H EE c => (ss_one (ss_ret (se_cb cw_len g.b_len (by decide +kernel) (sa_cons (se_fld g.pl.c (by decide) (se_var 0)) sa_nil))))⟩
abbrev s_Plain_eq : Stmt := L2.inClass (topS 28) 2
theorem sc_Plain_eq : FnScope ["self", "other"] ["self", "other"] (defScope s_Plain_eq) := ⟨rfl, rfl, rfl, by decide +kernel, rfl, by decide +kernel, by decide +kernel⟩
theorem f_Plain_eq (g : Tx K mg E) {f : Addr} {fd : FuncData} (F : Fun K "__eq__" "Plain.__eq__" s_Plain_eq f fd) (hm : Meth K (E 9) "__eq__" f) : MFn P w K mg base (E 9) 1 "__eq__" 2 (m_Plain_eq E) := by
  have b := F.binds (ps := ["self", "other"]) fun _ _ _ _ _ _ us hl => match us, hl with | [_, _], _ => rfl
  exact ⟨f, fd, _, hm, b, rfl, fnok_mk F sc_Plain_eq rfl rfl fun cdv A outer s H EE c => (ss_one (ss_ret (se_and (se_isiC g.pl g.b_isinstance g.k_Plain (by decide +kernel) (se_var 1)) (se_one (se_cmp (ow_eq c.u64) (se_tup (sa_cons (se_fld g.pl.c (by decide) (se_var 0)) (sa_cons (se_fld g.pl.c (by decide) (se_var 0)) sa_nil))) (se_tup (sa_cons (se_fld g.pl.c (by decide) (se_var 1)) (sa_cons (se_fld g.pl.c (by decide) (se_var 1)) sa_nil))) (nomark _))))))⟩
abbrev s_Plain_stand : Stmt := L2.inClass (topS 28) 6
theorem sc_Plain_stand : FnScope ["self"] ["self"] (defScope s_Plain_stand) := ⟨rfl, rfl, rfl, by decide +kernel, rfl, by decide +kernel, by decide +kernel⟩
theorem f_Plain_stand (g : Tx K mg E) {f : Addr} {fd : FuncData} (F : Fun K "stand" "Plain.stand" s_Plain_stand f fd) (hm : Meth K (E 9) "stand" f) : MFn P w K mg base (E 9) 1 "stand" 1 (m_Plain_stand E) := by
  have b := F.binds (ps := ["self"]) fun _ _ _ _ _ _ us hl => match us, hl with | [_], _ => rfl
  exact ⟨f, fd, _, hm, b, rfl, fnok_mk F sc_Plain_stand rfl rfl fun cdv A outer s H EE c => (ss_one (ss_ret (se_fld g.pl.c (by decide) (se_var 0))))⟩
abbrev s_gathered : Stmt := topS 21
theorem sc_gathered : FnScope ["herds", "found", "size", "many"] ["herds"] (defScope s_gathered) := ⟨rfl, rfl, rfl, by decide +kernel, rfl, by decide +kernel, by decide +kernel⟩
theorem f_gathered (g : Tx K mg E) {f : Addr} {fd : FuncData} (F : Fun K "gathered" "gathered" s_gathered f fd) (hf : mg "gathered" = some (.ref f)) : Fn P w K mg base 1 "gathered" 1 (m_gathered E) := by
  have b := F.binds (ps := ["herds"]) fun _ _ _ _ _ _ us hl => match us, hl with | [_], _ => rfl
  exact fn_mk F hf b sc_gathered rfl rfl fun cdv A outer s H EE c => (ss_cons (ss_set 1 c.nd se_dnew)
    (ss_cons (ss_for c.hp c.calm (si_seq (se_var 0)) (sg_tup c.calm (sgs_cons (sg_name 2 c.nd) (sgs_cons (sg_name 3 c.nd) sgs_nil))) (ss_one (ss_store c (se_var 1) (se_var 2) (se_bin ow_add (se_get2 c (se_var 1) (se_var 2) se_int) (se_var 3)))))
    (ss_one (ss_ret (se_cty cw_tuple g.b_tuple (by decide +kernel) (sa_cons (se_sortItems c.calm c.u64 (se_var 1) g.b_sorted) sa_nil))))))
abbrev s_joined : Stmt := topS 22
theorem sc_joined : FnScope ["stand", "size", "many"] ["stand"] (defScope s_joined) := ⟨rfl, rfl, rfl, by decide +kernel, rfl, by decide +kernel, by decide +kernel⟩
theorem f_joined (g : Tx K mg E) {f : Addr} {fd : FuncData} (F : Fun K "joined" "joined" s_joined f fd) (hf : mg "joined" = some (.ref f))
    (f_gathered : Fn P w K mg base 1 "gathered" 1 (m_gathered E)) : Fn P w K mg base 2 "joined" 1 (m_joined E) := by
  have b := F.binds (ps := ["stand"]) fun _ _ _ _ _ _ us hl => match us, hl with | [_], _ => rfl
  exact fn_mk F hf b sc_joined rfl rfl fun cdv A outer s H EE c => (ss_one (ss_ret (se_call c f_gathered (by omega) (sa_cons (se_lc (own := [("size", 1), ("many", 2)]) c (si_seq (se_var 0)) (by change blkC ["stand", "size", "many"] (defScope s_joined) _ _ = true; decide +kernel) (fun _ _ _ _ _ c1 => (sg_tup c1.calm (sgs_cons (sg_name 1 c1.nd) (sgs_cons (sg_name 2 c1.nd) sgs_nil)))) (fun _ _ _ _ _ c1 => sts_nil) (fun _ _ _ _ _ c1 => (se_tup (sa_cons (se_bin ow_mul (se_var 1) (se_var 2)) (sa_cons se_int sa_nil))))) sa_nil))))
abbrev s_way_on : Stmt := topS 23
theorem sc_way_on : FnScope ["stand", "found", "there"] ["stand"] (defScope s_way_on) := ⟨rfl, rfl, rfl, by decide +kernel, rfl, by decide +kernel, by decide +kernel⟩
theorem f_way_on (g : Tx K mg E) {f : Addr} {fd : FuncData} (F : Fun K "way_on" "way_on" s_way_on f fd) (hf : mg "way_on" = some (.ref f))
    (f_joined : Fn P w K mg base 2 "joined" 1 (m_joined E)) : Fn P w K mg base 3 "way_on" 1 (m_way_on E) := by
  have b := F.binds (ps := ["stand"]) fun _ _ _ _ _ _ us hl => match us, hl with | [_], _ => rfl
  exact fn_mk F hf b sc_way_on rfl rfl fun cdv A outer s H EE c => (ss_cons (ss_set 1 c.nd (se_lst (sa_cons (se_var 0) sa_nil)))
    (ss_cons (ss_set 2 c.nd (se_call c f_joined (by omega) (sa_cons (se_var 0) sa_nil)))
    (ss_cons (ss_while c.hp (st_cmp (ow_ne c.u64) (se_var 2) (se_ix (ix_any c.hu) (se_var 1) (se_neg se_int)) (nomark _)) (ss_cons (ss_expr (se_mt PySem.F.slot_list_append PySem.F.type_list_append mw_append (se_var 1) (sa_cons (se_var 2) sa_nil)))
    (ss_one (ss_set 2 c.nd (se_call c f_joined (by omega) (sa_cons (se_var 2) sa_nil))))))
    (ss_one (ss_ret (se_var 1))))))
abbrev s_Plain_rest : Stmt := L2.inClass (topS 28) 7
theorem sc_Plain_rest : FnScope ["self"] ["self"] (defScope s_Plain_rest) := ⟨rfl, rfl, rfl, by decide +kernel, rfl, by decide +kernel, by decide +kernel⟩
theorem f_Plain_rest (g : Tx K mg E) {f : Addr} {fd : FuncData} (F : Fun K "rest" "Plain.rest" s_Plain_rest f fd) (hm : Meth K (E 9) "rest" f)
    (f_way_on : Fn P w K mg base 3 "way_on" 1 (m_way_on E)) : MFn P w K mg base (E 9) 4 "rest" 1 (m_Plain_rest E) := by
  have b := F.binds (ps := ["self"]) fun _ _ _ _ _ _ us hl => match us, hl with | [_], _ => rfl
  exact ⟨f, fd, _, hm, b, rfl, fnok_mk F sc_Plain_rest rfl rfl fun cdv A outer s H EE c => (ss_one (ss_ret (se_ix (ix_any c.hu) (se_call c f_way_on (by omega) (sa_cons (se_fld g.pl.c (by decide) (se_var 0)) sa_nil)) (se_neg se_int))))⟩
abbrev s_Plain_dusks : Stmt := L2.inClass (topS 28) 8
theorem sc_Plain_dusks : FnScope ["self"] ["self"] (defScope s_Plain_dusks) := ⟨rfl, rfl, rfl, by decide +kernel, rfl, by decide +kernel, by decide +kernel⟩
theorem f_Plain_dusks (g : Tx K mg E) {f : Addr} {fd : FuncData} (F : Fun K "dusks" "Plain.dusks" s_Plain_dusks f fd) (hm : Meth K (E 9) "dusks" f) : MFn P w K mg base (E 9) 1 "dusks" 1 (m_Plain_dusks E) := by
  have b := F.binds (ps := ["self"]) fun _ _ _ _ _ _ us hl => match us, hl with | [_], _ => rfl
  exact ⟨f, fd, _, hm, b, rfl, fnok_mk F sc_Plain_dusks rfl rfl fun cdv A outer s H EE c => (ss_one (ss_ret (se_fld g.pl.c (by decide) (se_var 0))))⟩
abbrev s_l_deck : Stmt := topS 33
theorem sc_l_deck : FnScope ["cell", "turn"] ["cell", "turn"] (defScope s_l_deck) := ⟨rfl, rfl, rfl, by decide +kernel, rfl, by decide +kernel, by decide +kernel⟩
theorem f_l_deck (g : Tx K mg E) {f : Addr} {fd : FuncData} (F : Fun K "_law_deck" "_law_deck" s_l_deck f fd) (hf : mg "_law_deck" = some (.ref f)) : Fn P w K mg base 1 "_law_deck" 2 (m_l_deck E) := by
  have b := F.binds (ps := ["cell", "turn"]) fun _ _ _ _ _ _ us hl => match us, hl with | [_, _], _ => rfl
  exact fn_mk F hf b sc_l_deck rfl rfl fun cdv A outer s H EE c => (ss_cons (ss_if (st_cmp ow_geI (se_var 0) (se_bin ow_powI se_int se_int) (nomark _)) (ss_one (ss_ret (se_lst (sa_cons (se_bin ow_subI (se_var 0) (se_bin ow_powI se_int se_int)) (sa_cons (se_bin ow_modI (se_var 0) se_int) (sa_cons (se_var 1) sa_nil)))))) ss_nil)
    (ss_one (ss_ret (se_lst (sa_cons se_int (sa_cons (se_bin ow_modI (se_var 0) se_int) (sa_cons (se_var 1) sa_nil)))))))
abbrev s_l_pick : Stmt := topS 34
theorem sc_l_pick : FnScope ["deck", "size", "found", "number"] ["deck", "size"] (defScope s_l_pick) := ⟨rfl, rfl, rfl, by decide +kernel, rfl, by decide +kernel, by decide +kernel⟩
theorem f_l_pick (g : Tx K mg E) {f : Addr} {fd : FuncData} (F : Fun K "_law_pick" "_law_pick" s_l_pick f fd) (hf : mg "_law_pick" = some (.ref f)) : Fn P w K mg base 1 "_law_pick" 2 (m_l_pick E) := by
  have b := F.binds (ps := ["deck", "size"]) fun _ _ _ _ _ _ us hl => match us, hl with | [_, _], _ => rfl
  exact fn_mk F hf b sc_l_pick rfl rfl fun cdv A outer s H EE c => (ss_cons (ss_if (st_cmp ow_gtI (se_ix (ix_any c.hu) (se_var 0) se_int) se_int (nomark _)) (ss_cons (ss_set 2 c.nd (se_bin ow_modI (se_cty cw_int1 g.b_int (by decide +kernel) (sa_cons (se_ix (ix_any c.hu) (se_var 0) se_int) sa_nil)) (se_var 1)))
    (ss_cons (ss_store c (se_var 0) se_int (se_bin ow_divI (se_ix (ix_any c.hu) (se_var 0) se_int) (se_var 1)))
    (ss_one (ss_ret (se_var 2))))) ss_nil)
    (ss_cons (ss_store c (se_var 0) se_int (se_bin ow_add (se_ix (ix_any c.hu) (se_var 0) se_int) se_int))
    (ss_cons (ss_set 3 c.nd (se_bin ow_modI (se_bin ow_powI (se_bin ow_add (se_ix (ix_any c.hu) (se_var 0) se_int) (se_bin ow_mul se_int (se_ix (ix_any c.hu) (se_var 0) se_int))) se_int) se_int))
    (ss_cons (ss_set 2 c.nd (se_bin ow_divI (se_bin ow_modI (se_bin ow_powI (se_bin ow_add (se_var 3) (se_bin ow_mul se_int (se_ix (ix_any c.hu) (se_var 0) se_int))) se_int) se_int) se_int))
    (ss_one (ss_ret (se_bin ow_modI (se_cty cw_int1 g.b_int (by decide +kernel) (sa_cons (se_var 2) sa_nil)) (se_var 1))))))))
abbrev s_l_sort : Stmt := topS 37
theorem sc_l_sort : FnScope ["thing"] ["thing"] (defScope s_l_sort) := ⟨rfl, rfl, rfl, by decide +kernel, rfl, by decide +kernel, by decide +kernel⟩
theorem f_l_sort (g : Tx K mg E) {f : Addr} {fd : FuncData} (F : Fun K "_law_sort" "_law_sort" s_l_sort f fd) (hf : mg "_law_sort" = some (.ref f)) : Fn P w K mg base 1 "_law_sort" 1 (m_l_sort E) := by
  have b := F.binds (ps := ["thing"]) fun _ _ _ _ _ _ us hl => match us, hl with | [_], _ => rfl
  exact fn_mk F hf b sc_l_sort rfl rfl fun cdv A outer s H EE c => (ss_cons (ss_if (st_val (se_isi .bool g.b_isinstance g.b_bool (by decide +kernel) (by decide +kernel) (se_var 0))) (ss_one (ss_ret se_int)) ss_nil)
    (ss_cons (ss_if (st_val (se_isi .int g.b_isinstance g.b_int (by decide +kernel) (by decide +kernel) (se_var 0))) (ss_one (ss_ret se_int)) ss_nil)
    (ss_cons (ss_if (st_val (se_isi .str g.b_isinstance g.b_str (by decide +kernel) (by decide +kernel) (se_var 0))) (ss_one (ss_ret se_int)) ss_nil)
    (ss_cons (ss_if (st_val (se_isi .list g.b_isinstance g.b_list (by decide +kernel) (by decide +kernel) (se_var 0))) (ss_one (ss_ret se_int)) ss_nil)
    (ss_one (ss_ret (se_if (st_val (se_isi .tuple g.b_isinstance g.b_tuple (by decide +kernel) (by decide +kernel) (se_var 0))) se_int se_int)))))))
abbrev s_l_same : Stmt := topS 38
theorem sc_l_same : FnScope ["told", "due", "k", "part"] ["told", "due"] (defScope s_l_same) := ⟨rfl, rfl, rfl, by decide +kernel, rfl, by decide +kernel, by decide +kernel⟩
theorem f_l_same (g : Tx K mg E) {f : Addr} {fd : FuncData} (F : Fun K "_law_same" "_law_same" s_l_same f fd) (hf : mg "_law_same" = some (.ref f))
    (f_l_sort : Fn P w K mg base 1 "_law_sort" 1 (m_l_sort E)) : ∀ n, Fn P w K mg base (2 + n) "_law_same" 2 (m_l_same E n) := by
  have b := F.binds (ps := ["told", "due"]) fun _ _ _ _ _ _ us hl => match us, hl with | [_, _], _ => rfl
  intro n
  induction n with
  | zero => exact fn_bad hf F.kp b rfl
  | succ n Fr =>
    have hd : 2 + (n + 1) = (2 + n) + 1 := rfl
    rw [hd]
    exact fn_mk F hf b sc_l_same rfl rfl fun cdv A outer s H EE c => (ss_cons (ss_if (st_cmp (ow_ne c.u64) (se_call c f_l_sort (by omega) (sa_cons (se_var 0) sa_nil)) (se_call c f_l_sort (by omega) (sa_cons (se_var 1) sa_nil)) (nomark _)) (ss_one (ss_ret se_bl)) ss_nil)
    (ss_cons (ss_if (st_w (st_and (st_cmp ow_gtI (se_call c f_l_sort (by omega) (sa_cons (se_var 0) sa_nil)) se_int (nomark _)) (st_and1 (st_cmp ow_ltI (se_call c f_l_sort (by omega) (sa_cons (se_var 0) sa_nil)) se_int (nomark _))))) (ss_cons (ss_if (st_cmp (ow_ne c.u64) (se_cb cw_len g.b_len (by decide +kernel) (sa_cons (se_var 0) sa_nil)) (se_cb cw_len g.b_len (by decide +kernel) (sa_cons (se_var 1) sa_nil)) (nomark _)) (ss_one (ss_ret se_bl)) ss_nil)
    (ss_one (ss_ret (se_cmp (ow_eq c.u64) (se_lc (own := [("k", 2), ("part", 3)]) c (si_enum g.b_enumerate (sa_cons (se_var 0) sa_nil)) (by change blkC ["told", "due", "k", "part"] (defScope s_l_same) _ _ = true; decide +kernel) (fun _ _ _ _ _ c1 => (sg_tup c1.calm (sgs_cons (sg_name 2 c1.nd) (sgs_cons (sg_name 3 c1.nd) sgs_nil)))) (fun _ _ _ _ _ c1 => (sts_one (st_not (st_val (se_call c1 Fr (Nat.le_refl _) (sa_cons (se_var 3) (sa_cons (se_ix (ix_any c1.hu) (se_var 1) (se_var 2)) sa_nil))))))) (fun _ _ _ _ _ c1 => (se_var 2))) (se_lst sa_nil) (nomark _))))) ss_nil)
    (ss_one (ss_ret (se_cmp (ow_eq c.u64) (se_var 0) (se_var 1) (nomark _))))))
abbrev s_l_one : Stmt := topS 36
theorem sc_l_one : FnScope ["deck", "some"] ["deck", "some"] (defScope s_l_one) := ⟨rfl, rfl, rfl, by decide +kernel, rfl, by decide +kernel, by decide +kernel⟩
theorem f_l_one (g : Tx K mg E) {f : Addr} {fd : FuncData} (F : Fun K "_law_one" "_law_one" s_l_one f fd) (hf : mg "_law_one" = some (.ref f))
    (f_l_pick : Fn P w K mg base 1 "_law_pick" 2 (m_l_pick E)) : Fn P w K mg base 2 "_law_one" 2 (m_l_one E) := by
  have b := F.binds (ps := ["deck", "some"]) fun _ _ _ _ _ _ us hl => match us, hl with | [_, _], _ => rfl
  exact fn_mk F hf b sc_l_one rfl rfl fun cdv A outer s H EE c => (ss_one (ss_ret (se_ix (ix_any c.hu) (se_var 1) (se_call c f_l_pick (by omega) (sa_cons (se_var 0) (sa_cons (se_cb cw_len g.b_len (by decide +kernel) (sa_cons (se_var 1) sa_nil)) sa_nil))))))
abbrev s_l_gathered : Stmt := topS 39
theorem sc_l_gathered : FnScope ["herds", "found", "size"] ["herds"] (defScope s_l_gathered) := ⟨rfl, rfl, rfl, by decide +kernel, rfl, by decide +kernel, by decide +kernel⟩
theorem f_l_gathered (g : Tx K mg E) {f : Addr} {fd : FuncData} (F : Fun K "_law_gathered" "_law_gathered" s_l_gathered f fd) (hf : mg "_law_gathered" = some (.ref f)) : Fn P w K mg base 1 "_law_gathered" 1 (m_l_gathered E) := by
  have b := F.binds (ps := ["herds"]) fun _ _ _ _ _ _ us hl => match us, hl with | [_], _ => rfl
  exact fn_mk F hf b sc_l_gathered rfl rfl fun cdv A outer s H EE c => (ss_cons (ss_set 1 c.nd se_dnew)
    (ss_cons (ss_for c.hp c.calm (si_seq (se_var 0)) (sg_name 2 c.nd) (ss_one (ss_store c (se_var 1) (se_var 2) (se_bin ow_add (se_get2 c (se_var 1) (se_var 2) se_int) se_int))))
    (ss_one (ss_ret (se_cty cw_tuple g.b_tuple (by decide +kernel) (sa_cons (se_sortItems c.calm c.u64 (se_var 1) g.b_sorted) sa_nil))))))
abbrev s_l_few : Stmt := topS 40
theorem sc_l_few : FnScope ["deck", "folk_in_all", "left", "herds", "size"] ["deck", "folk_in_all"] (defScope s_l_few) := ⟨rfl, rfl, rfl, by decide +kernel, rfl, by decide +kernel, by decide +kernel⟩
theorem f_l_few (g : Tx K mg E) {f : Addr} {fd : FuncData} (F : Fun K "_law_few" "_law_few" s_l_few f fd) (hf : mg "_law_few" = some (.ref f))
    (f_l_pick : Fn P w K mg base 1 "_law_pick" 2 (m_l_pick E))
    (f_l_one : Fn P w K mg base 2 "_law_one" 2 (m_l_one E))
    (f_l_gathered : Fn P w K mg base 1 "_law_gathered" 1 (m_l_gathered E)) : Fn P w K mg base 3 "_law_few" 2 (m_l_few E) := by
  have b := F.binds (ps := ["deck", "folk_in_all"]) fun _ _ _ _ _ _ us hl => match us, hl with | [_, _], _ => rfl
  exact fn_mk F hf b sc_l_few rfl rfl fun cdv A outer s H EE c => (ss_cons (ss_par 2 3 c.calm c.nd (sa_cons (se_var 1) (sa_cons (se_lst sa_nil) sa_nil)))
    (ss_cons (ss_while c.hp (st_cmp ow_gtI (se_var 2) se_int (nomark _)) (ss_cons (ss_set 4 c.nd (se_cb (cw_min2 c.calm) g.b_min (by decide +kernel) (sa_cons (se_var 2) (sa_cons (se_call c f_l_one (by omega) (sa_cons (se_var 0) (sa_cons (se_lst (sa_cons se_int (sa_cons se_int (sa_cons se_int (sa_cons se_int (sa_cons (se_bin ow_add se_int (se_call c f_l_pick (by omega) (sa_cons (se_var 0) (sa_cons se_int sa_nil)))) (sa_cons (se_bin ow_add se_int (se_call c f_l_pick (by omega) (sa_cons (se_var 0) (sa_cons (se_var 2) sa_nil)))) sa_nil))))))) sa_nil))) sa_nil))))
    (ss_cons (ss_expr (se_mt PySem.F.slot_list_append PySem.F.type_list_append mw_append (se_var 3) (sa_cons (se_var 4) sa_nil)))
    (ss_one (ss_set 2 c.nd (se_bin ow_subI (se_var 2) (se_var 4)))))))
    (ss_one (ss_ret (se_call c f_l_gathered (by omega) (sa_cons (se_var 3) sa_nil))))))
abbrev s_l_joined : Stmt := topS 41
theorem sc_l_joined : FnScope ["stand", "size", "many"] ["stand"] (defScope s_l_joined) := ⟨rfl, rfl, rfl, by decide +kernel, rfl, by decide +kernel, by decide +kernel⟩
theorem f_l_joined (g : Tx K mg E) {f : Addr} {fd : FuncData} (F : Fun K "_law_joined" "_law_joined" s_l_joined f fd) (hf : mg "_law_joined" = some (.ref f))
    (f_l_gathered : Fn P w K mg base 1 "_law_gathered" 1 (m_l_gathered E)) : Fn P w K mg base 2 "_law_joined" 1 (m_l_joined E) := by
  have b := F.binds (ps := ["stand"]) fun _ _ _ _ _ _ us hl => match us, hl with | [_], _ => rfl
  exact fn_mk F hf b sc_l_joined rfl rfl fun cdv A outer s H EE c => (ss_one (ss_ret (se_call c f_l_gathered (by omega) (sa_cons (se_lc (own := [("size", 1), ("many", 2)]) c (si_seq (se_var 0)) (by change blkC ["stand", "size", "many"] (defScope s_l_joined) _ _ = true; decide +kernel) (fun _ _ _ _ _ c1 => (sg_tup c1.calm (sgs_cons (sg_name 1 c1.nd) (sgs_cons (sg_name 2 c1.nd) sgs_nil)))) (fun _ _ _ _ _ c1 => sts_nil) (fun _ _ _ _ _ c1 => (se_bin ow_mul (se_var 1) (se_var 2)))) sa_nil))))
abbrev s_l_way : Stmt := topS 42
theorem sc_l_way : FnScope ["stand", "found", "there"] ["stand"] (defScope s_l_way) := ⟨rfl, rfl, rfl, by decide +kernel, rfl, by decide +kernel, by decide +kernel⟩
theorem f_l_way (g : Tx K mg E) {f : Addr} {fd : FuncData} (F : Fun K "_law_way" "_law_way" s_l_way f fd) (hf : mg "_law_way" = some (.ref f))
    (f_l_joined : Fn P w K mg base 2 "_law_joined" 1 (m_l_joined E)) : Fn P w K mg base 3 "_law_way" 1 (m_l_way E) := by
  have b := F.binds (ps := ["stand"]) fun _ _ _ _ _ _ us hl => match us, hl with | [_], _ => rfl
  exact fn_mk F hf b sc_l_way rfl rfl fun cdv A outer s H EE c => (ss_cons (ss_par 1 2 c.calm c.nd (sa_cons (se_lst (sa_cons (se_var 0) sa_nil)) (sa_cons (se_call c f_l_joined (by omega) (sa_cons (se_var 0) sa_nil)) sa_nil)))
    (ss_cons (ss_while c.hp (st_cmp (ow_ne c.u64) (se_var 2) (se_ix (ix_any c.hu) (se_var 1) (se_neg se_int)) (nomark _)) (ss_cons (ss_expr (se_mt PySem.F.slot_list_append PySem.F.type_list_append mw_append (se_var 1) (sa_cons (se_var 2) sa_nil)))
    (ss_one (ss_set 2 c.nd (se_call c f_l_joined (by omega) (sa_cons (se_var 2) sa_nil))))))
    (ss_one (ss_ret (se_var 1)))))
abbrev s_l_whole : Stmt := topS 35
theorem sc_l_whole : FnScope ["thing"] ["thing"] (defScope s_l_whole) := ⟨rfl, rfl, rfl, by decide +kernel, rfl, by decide +kernel, by decide +kernel⟩
theorem f_l_whole (g : Tx K mg E) {f : Addr} {fd : FuncData} (F : Fun K "_law_whole" "_law_whole" s_l_whole f fd) (hf : mg "_law_whole" = some (.ref f)) : Fn P w K mg base 1 "_law_whole" 1 (m_l_whole E) := by
  have b := F.binds (ps := ["thing"]) fun _ _ _ _ _ _ us hl => match us, hl with | [_], _ => rfl
  exact fn_mk F hf b sc_l_whole rfl rfl fun cdv A outer s H EE c => (ss_one (ss_ret (se_and (se_isi .int g.b_isinstance g.b_int (by decide +kernel) (by decide +kernel) (se_var 0)) (se_one (se_not (se_isi .bool g.b_isinstance g.b_bool (by decide +kernel) (by decide +kernel) (se_var 0)))))))
abbrev s_l_after : Stmt := topS 46
theorem sc_l_after : FnScope ["stand", "deed", "word", "one", "other", "found", "table", "size", "many", "row"] ["stand", "deed"] (defScope s_l_after) := ⟨rfl, rfl, rfl, by decide +kernel, rfl, by decide +kernel, by decide +kernel⟩
theorem f_l_after (g : Tx K mg E) {f : Addr} {fd : FuncData} (F : Fun K "_law_after" "_law_after" s_l_after f fd) (hf : mg "_law_after" = some (.ref f))
    (f_l_way : Fn P w K mg base 3 "_law_way" 1 (m_l_way E)) : Fn P w K mg base 4 "_law_after" 2 (m_l_after E) := by
  have b := F.binds (ps := ["stand", "deed"]) fun _ _ _ _ _ _ us hl => match us, hl with | [_, _], _ => rfl
  exact fn_mk F hf b sc_l_after rfl rfl fun cdv A outer s H EE c => (ss_cons (ss_tg (sg_tup c.calm (sgs_cons (sg_name 2 c.nd) (sgs_cons (sg_name 3 c.nd) (sgs_cons (sg_name 4 c.nd) sgs_nil)))) (se_var 1))
    (ss_cons (ss_if (st_cmp (ow_eq c.u64) (se_var 2) se_str (nomark _)) (ss_cons (ss_set 5 c.nd (se_call c f_l_way (by omega) (sa_cons (se_var 0) sa_nil)))
    (ss_one (ss_ret (se_ix (ix_any c.hu) (se_var 5) (se_cb (cw_min2 c.calm) g.b_min (by decide +kernel) (sa_cons (se_var 3) (sa_cons (se_bin ow_subI (se_cb cw_len g.b_len (by decide +kernel) (sa_cons (se_var 5) sa_nil)) se_int) sa_nil))))))) ss_nil)
    (ss_cons (ss_set 6 c.nd (se_cty (cw_dict c.calm) g.b_dict (by decide +kernel) (sa_cons (se_var 0) sa_nil)))
    (ss_cons (ss_for c.hp c.calm (si_seq (se_if (st_cmp (ow_eq c.u64) (se_var 2) se_str (nomark _)) (se_lst (sa_cons (se_tup (sa_cons (se_var 3) (sa_cons (se_var 4) sa_nil))) sa_nil)) (se_lst (sa_cons (se_tup (sa_cons (se_var 3) (sa_cons (se_neg se_int) sa_nil))) (sa_cons (se_tup (sa_cons (se_var 4) (sa_cons se_int sa_nil))) (sa_cons (se_tup (sa_cons (se_bin ow_subI (se_var 3) (se_var 4)) (sa_cons se_int sa_nil))) sa_nil)))))) (sg_tup c.calm (sgs_cons (sg_name 7 c.nd) (sgs_cons (sg_name 8 c.nd) sgs_nil))) (ss_one (ss_store c (se_var 6) (se_var 7) (se_bin ow_add (se_get2 c (se_var 6) (se_var 7) se_int) (se_var 8)))))
    (ss_one (ss_ret (se_cty cw_tuple g.b_tuple (by decide +kernel) (sa_cons (se_cb (cw_sort c.calm c.u64) g.b_sorted (by decide +kernel) (sa_cons (se_itemsP 6 9 c (by change blkC ["stand", "deed", "word", "one", "other", "found", "table", "size", "many", "row"] (defScope s_l_after) _ _ = true; decide +kernel) (fun _ _ _ _ _ c1 => sg_name 9 c1.nd) (fun _ _ _ _ _ _ => pv_var 9) (fun _ _ _ _ _ _ => pv_var 9) (pv_var 6)) sa_nil)) sa_nil))))))))
abbrev s_l_due : Stmt := topS 45
theorem sc_l_due : FnScope ["stand", "deed", "word", "one", "other", "there", "size", "many"] ["stand", "deed"] (defScope s_l_due) := ⟨rfl, rfl, rfl, by decide +kernel, rfl, by decide +kernel, by decide +kernel⟩
theorem f_l_due (g : Tx K mg E) {f : Addr} {fd : FuncData} (F : Fun K "_law_due" "_law_due" s_l_due f fd) (hf : mg "_law_due" = some (.ref f))
    (f_l_whole : Fn P w K mg base 1 "_law_whole" 1 (m_l_whole E))
    (f_l_after : Fn P w K mg base 4 "_law_after" 2 (m_l_after E)) : Fn P w K mg base 5 "_law_due" 2 (m_l_due E) := by
  have b := F.binds (ps := ["stand", "deed"]) fun _ _ _ _ _ _ us hl => match us, hl with | [_, _], _ => rfl
  exact fn_mk F hf b sc_l_due rfl rfl fun cdv A outer s H EE c => (ss_cons (ss_tg (sg_tup c.calm (sgs_cons (sg_name 2 c.nd) (sgs_cons (sg_name 3 c.nd) (sgs_cons (sg_name 4 c.nd) sgs_nil)))) (se_var 1))
    (ss_cons (ss_if (st_cmp (ow_eq c.u64) (se_var 2) se_str (nomark _)) (ss_one (ss_ret (se_if (st_w (st_and (st_val (se_call c f_l_whole (by omega) (sa_cons (se_var 3) sa_nil))) (st_and1 (st_chain ow_leI ow_leI se_int (se_var 3) (se_bin ow_powI se_int se_int))))) se_str se_str))) ss_nil)
    (ss_cons (ss_if (st_cmp (ow_eq c.u64) (se_var 2) se_str (nomark _)) (ss_cons (ss_if (st_w (st_or (st_not (st_val (se_call c f_l_whole (by omega) (sa_cons (se_var 3) sa_nil)))) (st_or (st_not (st_val (se_call c f_l_whole (by omega) (sa_cons (se_var 4) sa_nil)))) (st_or (st_cmp ow_ltI (se_var 3) se_int (nomark _)) (st_or1 (st_cmp ow_ltI (se_var 4) se_int (nomark _))))))) (ss_one (ss_ret se_str)) ss_nil)
    (ss_cons (ss_set 5 c.nd (se_call c f_l_after (by omega) (sa_cons (se_var 0) (sa_cons (se_var 1) sa_nil))))
    (ss_one (ss_ret (se_if (st_w (st_or (st_cmp ow_gtI (se_cb cw_len g.b_len (by decide +kernel) (sa_cons (se_var 5) sa_nil)) se_int (nomark _)) (st_or1 (st_cmp ow_gtI (se_cb (cw_sum c.calm) g.b_sum (by decide +kernel) (sa_cons (se_lc (own := [("size", 6), ("many", 7)]) c (si_seq (se_var 5)) (by change blkC ["stand", "deed", "word", "one", "other", "there", "size", "many"] (defScope s_l_due) _ _ = true; decide +kernel) (fun _ _ _ _ _ c1 => (sg_tup c1.calm (sgs_cons (sg_name 6 c1.nd) (sgs_cons (sg_name 7 c1.nd) sgs_nil)))) (fun _ _ _ _ _ c1 => sts_nil) (fun _ _ _ _ _ c1 => (se_bin ow_mul (se_var 6) (se_var 7)))) sa_nil)) (se_bin ow_powI se_int se_int) (nomark _))))) se_str se_str))))) ss_nil)
    (ss_cons (ss_if (st_w (st_or (st_not (st_val (se_call c f_l_whole (by omega) (sa_cons (se_var 3) sa_nil)))) (st_or1 (st_cmp (ow_notIn c) (se_var 3) (se_lc (own := [("size", 6), ("many", 7)]) c (si_seq (se_var 0)) (by change blkC ["stand", "deed", "word", "one", "other", "there", "size", "many"] (defScope s_l_due) _ _ = true; decide +kernel) (fun _ _ _ _ _ c1 => (sg_tup c1.calm (sgs_cons (sg_name 6 c1.nd) (sgs_cons (sg_name 7 c1.nd) sgs_nil)))) (fun _ _ _ _ _ c1 => sts_nil) (fun _ _ _ _ _ c1 => (se_var 6))) (by rfl))))) (ss_one (ss_ret se_str)) ss_nil)
    (ss_cons (ss_if (st_w (st_or (st_not (st_val (se_call c f_l_whole (by omega) (sa_cons (se_var 4) sa_nil)))) (st_or1 (st_not (st_chain ow_leI ow_ltI se_int (se_var 4) (se_var 3)))))) (ss_one (ss_ret se_str)) ss_nil)
    (ss_one (ss_ret (se_if (st_cmp ow_gtI (se_cb cw_len g.b_len (by decide +kernel) (sa_cons (se_call c f_l_after (by omega) (sa_cons (se_var 0) (sa_cons (se_var 1) sa_nil))) sa_nil)) se_int (nomark _)) se_str se_str))))))))
abbrev s_Plain_come : Stmt := L2.inClass (topS 28) 3
theorem sc_Plain_come : FnScope ["self", "size", "many", "there"] ["self", "size", "many"] (defScope s_Plain_come) := ⟨rfl, rfl, rfl, by decide +kernel, rfl, by decide +kernel, by decide +kernel⟩
theorem f_Plain_come (g : Tx K mg E) {f : Addr} {fd : FuncData} (F : Fun K "come" "Plain.come" s_Plain_come f fd) (hm : Meth K (E 9) "come" f)
    (f_is_whole : Fn P w K mg base 1 "is_whole" 1 (m_is_whole E))
    (f_all_folk : Fn P w K mg base 1 "all_folk" 1 (m_all_folk E))
    (f_gathered : Fn P w K mg base 1 "gathered" 1 (m_gathered E)) : MFn P w K mg base (E 9) 2 "come" 3 (m_Plain_come E) := by
  obtain ⟨t_MOST_FOLK, h_MOST_FOLK⟩ := g.c_MOST_FOLK
  obtain ⟨t_MOST_SIZES, h_MOST_SIZES⟩ := g.c_MOST_SIZES
  have b := F.binds (ps := ["self", "size", "many"]) fun _ _ _ _ _ _ us hl => match us, hl with | [_, _, _], _ => rfl
  exact ⟨f, fd, _, hm, b, rfl, fnok_mk F sc_Plain_come rfl rfl fun cdv A outer s H EE c => (ss_cons (ss_if (st_w (st_or (st_not (st_val (se_call c f_is_whole (by omega) (sa_cons (se_var 1) sa_nil)))) (st_or (st_not (st_val (se_call c f_is_whole (by omega) (sa_cons (se_var 2) sa_nil)))) (st_or (st_cmp ow_ltI (se_var 1) se_int (nomark _)) (st_or1 (st_cmp ow_ltI (se_var 2) se_int (nomark _))))))) (ss_one (ss_raise c g.e_NoHerds)) ss_nil)
    (ss_cons (ss_set 3 c.nd (se_call c f_gathered (by omega) (sa_cons (se_bin ow_add (se_fld g.pl.c (by decide) (se_var 0)) (se_tup (sa_cons (se_tup (sa_cons (se_var 1) (sa_cons (se_var 2) sa_nil))) sa_nil))) sa_nil)))
    (ss_cons (ss_if (st_w (st_or (st_cmp ow_gtI (se_cb cw_len g.b_len (by decide +kernel) (sa_cons (se_var 3) sa_nil)) (se_gint h_MOST_SIZES) (nomark _)) (st_or1 (st_cmp ow_gtI (se_call c f_all_folk (by omega) (sa_cons (se_var 3) sa_nil)) (se_gint h_MOST_FOLK) (nomark _))))) (ss_one (ss_raise c g.e_Full)) ss_nil)
    (ss_one (ss_setF g.pl.c (by decide) (se_var 0) (se_var 3))))))⟩
abbrev s_Plain_part : Stmt := L2.inClass (topS 28) 4
theorem sc_Plain_part : FnScope ["self", "size", "first", "one", "many", "left", "row", "there"] ["self", "size", "first"] (defScope s_Plain_part) := ⟨rfl, rfl, rfl, by decide +kernel, rfl, by decide +kernel, by decide +kernel⟩
theorem f_Plain_part (g : Tx K mg E) {f : Addr} {fd : FuncData} (F : Fun K "part" "Plain.part" s_Plain_part f fd) (hm : Meth K (E 9) "part" f)
    (f_is_whole : Fn P w K mg base 1 "is_whole" 1 (m_is_whole E))
    (f_is_from : Fn P w K mg base 2 "is_from" 3 (m_is_from E))
    (f_gathered : Fn P w K mg base 1 "gathered" 1 (m_gathered E)) : MFn P w K mg base (E 9) 3 "part" 3 (m_Plain_part E) := by
  obtain ⟨t_MOST_SIZES, h_MOST_SIZES⟩ := g.c_MOST_SIZES
  have b := F.binds (ps := ["self", "size", "first"]) fun _ _ _ _ _ _ us hl => match us, hl with | [_, _, _], _ => rfl
  exact ⟨f, fd, _, hm, b, rfl, fnok_mk F sc_Plain_part rfl rfl fun cdv A outer s H EE c => (ss_cons (ss_if (st_w (st_or (st_not (st_val (se_call c f_is_whole (by omega) (sa_cons (se_var 1) sa_nil)))) (st_or1 (st_cmp (ow_notIn c) (se_var 1) (se_lc (own := [("one", 3), ("many", 4)]) c (si_seq (se_fld g.pl.c (by decide) (se_var 0))) (by change blkC ["self", "size", "first", "one", "many", "left", "row", "there"] (defScope s_Plain_part) _ _ = true; decide +kernel) (fun _ _ _ _ _ c1 => (sg_tup c1.calm (sgs_cons (sg_name 3 c1.nd) (sgs_cons (sg_name 4 c1.nd) sgs_nil)))) (fun _ _ _ _ _ c1 => sts_nil) (fun _ _ _ _ _ c1 => (se_var 3))) (by rfl))))) (ss_one (ss_raise c g.e_NoHerds)) ss_nil)
    (ss_cons (ss_if (st_not (st_val (se_call c f_is_from (by omega) (sa_cons (se_var 2) (sa_cons se_int (sa_cons (se_bin ow_subI (se_var 1) se_int) sa_nil)))))) (ss_one (ss_raise c g.e_NoFirst)) ss_nil)
    (ss_cons (by first | exact (ss_setLc (own := [("one", 3), ("many", 4)]) 5 c (si_seq (se_fld g.pl.c (by decide) (se_var 0))) (by change blkC ["self", "size", "first", "one", "many", "left", "row", "there"] (defScope s_Plain_part) _ _ = true; decide +kernel) (fun _ _ _ _ _ c1 => (sg_tup c1.calm (sgs_cons (sg_name 3 c1.nd) (sgs_cons (sg_name 4 c1.nd) sgs_nil)))) (fun _ _ _ _ _ c1 => sts_nil) (fun _ _ _ _ _ c1 => (se_tup (sa_cons (se_var 3) (sa_cons (se_bin ow_subI (se_var 4) (se_cty cw_int1 g.b_int (by decide +kernel) (sa_cons (se_cmp (ow_eq c1.u64) (se_var 3) (se_var 1) (nomark _)) sa_nil))) sa_nil)))) (sw_true rfl rfl rfl (by decide +kernel))) | exact (ss_set 5 c.nd (se_lc (own := [("one", 3), ("many", 4)]) c (si_seq (se_fld g.pl.c (by decide) (se_var 0))) (by change blkC ["self", "size", "first", "one", "many", "left", "row", "there"] (defScope s_Plain_part) _ _ = true; decide +kernel) (fun _ _ _ _ _ c1 => (sg_tup c1.calm (sgs_cons (sg_name 3 c1.nd) (sgs_cons (sg_name 4 c1.nd) sgs_nil)))) (fun _ _ _ _ _ c1 => sts_nil) (fun _ _ _ _ _ c1 => (se_tup (sa_cons (se_var 3) (sa_cons (se_bin ow_subI (se_var 4) (se_cty cw_int1 g.b_int (by decide +kernel) (sa_cons (se_cmp (ow_eq c1.u64) (se_var 3) (se_var 1) (nomark _)) sa_nil))) sa_nil)))))))
    (ss_cons (ss_set 7 c.nd (se_call c f_gathered (by omega) (sa_cons (se_bin ow_add (se_lc (own := [("row", 6)]) c (si_seq (se_var 5)) (by change blkC ["self", "size", "first", "one", "many", "left", "row", "there"] (defScope s_Plain_part) _ _ = true; decide +kernel) (fun _ _ _ _ _ c1 => (sg_name 6 c1.nd)) (fun _ _ _ _ _ c1 => (sts_one (st_cmp ow_gtI (se_ix (ix_any c1.hu) (se_var 6) se_int) se_int (nomark _)))) (fun _ _ _ _ _ c1 => (se_var 6))) (se_lst (sa_cons (se_tup (sa_cons (se_var 2) (sa_cons se_int sa_nil))) (sa_cons (se_tup (sa_cons (se_bin ow_subI (se_var 1) (se_var 2)) (sa_cons se_int sa_nil))) sa_nil)))) sa_nil)))
    (ss_cons (ss_if (st_cmp ow_gtI (se_cb cw_len g.b_len (by decide +kernel) (sa_cons (se_var 7) sa_nil)) (se_gint h_MOST_SIZES) (nomark _)) (ss_one (ss_raise c g.e_Full)) ss_nil)
    (ss_one (ss_setF g.pl.c (by decide) (se_var 0) (se_var 7))))))))⟩
abbrev s_Plain_go : Stmt := L2.inClass (topS 28) 5
theorem sc_Plain_go : FnScope ["self", "dusks", "found"] ["self", "dusks"] (defScope s_Plain_go) := ⟨rfl, rfl, rfl, by decide +kernel, rfl, by decide +kernel, by decide +kernel⟩
theorem f_Plain_go (g : Tx K mg E) {f : Addr} {fd : FuncData} (F : Fun K "go" "Plain.go" s_Plain_go f fd) (hm : Meth K (E 9) "go" f)
    (f_is_from : Fn P w K mg base 2 "is_from" 3 (m_is_from E))
    (f_way_on : Fn P w K mg base 3 "way_on" 1 (m_way_on E)) : MFn P w K mg base (E 9) 4 "go" 2 (m_Plain_go E) := by
  obtain ⟨t_FAR, h_FAR⟩ := g.c_FAR
  have b := F.binds (ps := ["self", "dusks"]) fun _ _ _ _ _ _ us hl => match us, hl with | [_, _], _ => rfl
  exact ⟨f, fd, _, hm, b, rfl, fnok_mk F sc_Plain_go rfl rfl fun cdv A outer s H EE c => (ss_cons (ss_if (st_not (st_val (se_call c f_is_from (by omega) (sa_cons (se_var 1) (sa_cons se_int (sa_cons (se_gint h_FAR) sa_nil)))))) (ss_one (ss_raise c g.e_NoCount)) ss_nil)
    (ss_cons (ss_set 2 c.nd (se_call c f_way_on (by omega) (sa_cons (se_fld g.pl.c (by decide) (se_var 0)) sa_nil)))
    (ss_cons (ss_setF g.pl.c (by decide) (se_var 0) (se_ix (ix_any c.hu) (se_var 2) (se_cb (cw_min2 c.calm) g.b_min (by decide +kernel) (sa_cons (se_var 1) (sa_cons (se_bin ow_subI (se_cb cw_len g.b_len (by decide +kernel) (sa_cons (se_var 2) sa_nil)) se_int) sa_nil)))))
    (ss_one (ss_augF g.pl.c (by decide) (se_var 0) (se_var 1))))))⟩
abbrev s_l_do : Stmt := topS 47
theorem sc_l_do : FnScope ["plain", "deed", "word", "one", "other", "told"] ["plain", "deed"] (defScope s_l_do) := ⟨rfl, rfl, rfl, by decide +kernel, rfl, by decide +kernel, by decide +kernel⟩
theorem f_l_do (g : Tx K mg E) {f cc : Addr} {fd : FuncData} (F : FunL K "_law_do" "_law_do" s_l_do f fd cc) (hf : mg "_law_do" = some (.ref f))
    (f_Plain_come : MFn P w K mg base (E 9) 2 "come" 3 (m_Plain_come E))
    (f_Plain_part : MFn P w K mg base (E 9) 3 "part" 3 (m_Plain_part E))
    (f_Plain_go : MFn P w K mg base (E 9) 4 "go" 2 (m_Plain_go E))
    (tryB : TryB P w K mg base E s_l_try) (tb_0 : LamX.TabB base mg cc (E 100)) : Fn P w K mg base 7 "_law_do" 2 (m_l_do E) := by
  have b := F.fun.binds (ps := ["plain", "deed"]) fun _ _ _ _ _ _ us hl => match us, hl with | [_, _], _ => rfl
  exact fn_mkL F hf b sc_l_do rfl rfl fun A outer s H EE c => (ss_cons (ss_tg (sg_tup c.calm (sgs_cons (sg_name 2 c.nd) (sgs_cons (sg_name 3 c.nd) (sgs_cons (sg_name 4 c.nd) sgs_nil)))) (se_var 1))
    (ss_cons (ss_if (st_cmp (ow_eq c.u64) (se_var 2) se_str (nomark _)) (ss_one (ss_set 5 c.nd (se_tryB 0 c tryB tb_0 rfl (by kernel_rfl) (LamX.lamS_by (by kernel_rfl)) rfl (fun _ _ _ _ _ => rfl) fun _ _ _ _ _ _ _ c1 => (se_meth c1 g.pl.c f_Plain_go (by omega) (se_var 0) (sa_cons (se_var 3) sa_nil))))) (ss_one (ss_if (st_cmp (ow_eq c.u64) (se_var 2) se_str (nomark _)) (ss_one (ss_set 5 c.nd (se_tryB 0 c tryB tb_0 rfl (by kernel_rfl) (LamX.lamS_by (by kernel_rfl)) rfl (fun _ _ _ _ _ => rfl) fun _ _ _ _ _ _ _ c1 => (se_meth c1 g.pl.c f_Plain_come (by omega) (se_var 0) (sa_cons (se_var 3) (sa_cons (se_var 4) sa_nil)))))) (ss_one (ss_set 5 c.nd (se_tryB 0 c tryB tb_0 rfl (by kernel_rfl) (LamX.lamS_by (by kernel_rfl)) rfl (fun _ _ _ _ _ => rfl) fun _ _ _ _ _ _ _ c1 => (se_meth c1 g.pl.c f_Plain_part (by omega) (se_var 0) (sa_cons (se_var 3) (sa_cons (se_var 4) sa_nil)))))))))
    (ss_one (ss_ret (se_if (st_cmp (ow_eq c.u64) (se_var 5) (se_tup (sa_cons se_str (sa_cons se_non sa_nil))) (nomark _)) se_str (se_var 5))))))
abbrev s_l_good_deed : Stmt := topS 48
theorem sc_l_good_deed : FnScope ["deck", "stand", "size", "many", "sizes", "way"] ["deck", "stand"] (defScope s_l_good_deed) := ⟨rfl, rfl, rfl, by decide +kernel, rfl, by decide +kernel, by decide +kernel⟩
theorem f_l_good_deed (g : Tx K mg E) {f : Addr} {fd : FuncData} (F : Fun K "_law_good_deed" "_law_good_deed" s_l_good_deed f fd) (hf : mg "_law_good_deed" = some (.ref f))
    (f_l_pick : Fn P w K mg base 1 "_law_pick" 2 (m_l_pick E))
    (f_l_one : Fn P w K mg base 2 "_law_one" 2 (m_l_one E)) : Fn P w K mg base 3 "_law_good_deed" 2 (m_l_good_deed E) := by
  have b := F.binds (ps := ["deck", "stand"]) fun _ _ _ _ _ _ us hl => match us, hl with | [_, _], _ => rfl
  exact fn_mk F hf b sc_l_good_deed rfl rfl fun cdv A outer s H EE c => (ss_cons (ss_par 4 5 c.calm c.nd (sa_cons (se_lc (own := [("size", 2), ("many", 3)]) c (si_seq (se_var 1)) (by change blkC ["deck", "stand", "size", "many", "sizes", "way"] (defScope s_l_good_deed) _ _ = true; decide +kernel) (fun _ _ _ _ _ c1 => (sg_tup c1.calm (sgs_cons (sg_name 2 c1.nd) (sgs_cons (sg_name 3 c1.nd) sgs_nil)))) (fun _ _ _ _ _ c1 => sts_nil) (fun _ _ _ _ _ c1 => (se_var 2))) (sa_cons (se_call c f_l_pick (by omega) (sa_cons (se_var 0) (sa_cons se_int sa_nil))) sa_nil)))
    (ss_cons (ss_if (st_cmp (ow_eq c.u64) (se_var 5) se_int (nomark _)) (ss_one (ss_ret (se_tup (sa_cons se_str (sa_cons (se_call c f_l_one (by omega) (sa_cons (se_var 0) (sa_cons (se_lst (sa_cons se_int (sa_cons se_int (sa_cons se_int (sa_cons se_int (sa_cons (se_bin ow_powI se_int se_int) sa_nil)))))) sa_nil))) (sa_cons se_int sa_nil)))))) ss_nil)
    (ss_cons (ss_set 2 c.nd (se_call c f_l_one (by omega) (sa_cons (se_var 0) (sa_cons (se_var 4) sa_nil))))
    (ss_cons (ss_if (st_w (st_or (st_cmp ow_ltI (se_var 5) se_int (nomark _)) (st_or1 (st_cmp (ow_eq c.u64) (se_var 2) se_int (nomark _))))) (ss_one (ss_ret (se_tup (sa_cons se_str (sa_cons (se_call c f_l_one (by omega) (sa_cons (se_var 0) (sa_cons (se_bin ow_add (se_var 4) (se_lst (sa_cons se_int (sa_cons se_int (sa_cons (se_bin ow_add se_int (se_call c f_l_pick (by omega) (sa_cons (se_var 0) (sa_cons se_int sa_nil)))) sa_nil))))) sa_nil))) (sa_cons (se_call c f_l_one (by omega) (sa_cons (se_var 0) (sa_cons (se_lst (sa_cons se_int (sa_cons se_int (sa_cons se_int (sa_cons se_int sa_nil))))) sa_nil))) sa_nil)))))) ss_nil)
    (ss_one (ss_ret (se_tup (sa_cons se_str (sa_cons (se_var 2) (sa_cons (se_call c f_l_one (by omega) (sa_cons (se_var 0) (sa_cons (se_lst (sa_cons se_int (sa_cons (se_bin ow_subI (se_var 2) se_int) (sa_cons (se_bin ow_add se_int (se_call c f_l_pick (by omega) (sa_cons (se_var 0) (sa_cons (se_bin ow_subI (se_var 2) se_int) sa_nil)))) sa_nil)))) sa_nil))) sa_nil))))))))))
abbrev s_dusk : Stmt := topS 24
theorem sc_dusk : FnScope ["stand"] ["stand"] (defScope s_dusk) := ⟨rfl, rfl, rfl, by decide +kernel, rfl, by decide +kernel, by decide +kernel⟩
theorem f_dusk (g : Tx K mg E) {f : Addr} {fd : FuncData} (F : Fun K "dusk" "dusk" s_dusk f fd) (hf : mg "dusk" = some (.ref f))
    (f_need_stand : Fn P w K mg base 5 "need_stand" 1 (m_need_stand E))
    (f_joined : Fn P w K mg base 2 "joined" 1 (m_joined E)) : Fn P w K mg base 6 "dusk" 1 (m_dusk E) := by
  have b := F.binds (ps := ["stand"]) fun _ _ _ _ _ _ us hl => match us, hl with | [_], _ => rfl
  exact fn_mk F hf b sc_dusk rfl rfl fun cdv A outer s H EE c => (ss_cons (ss_expr (se_call c f_need_stand (by omega) (sa_cons (se_var 0) sa_nil)))
    (ss_one (ss_ret (se_call c f_joined (by omega) (sa_cons (se_var 0) sa_nil)))))
abbrev s_need_dusks : Stmt := topS 20
theorem sc_need_dusks : FnScope ["dusks"] ["dusks"] (defScope s_need_dusks) := ⟨rfl, rfl, rfl, by decide +kernel, rfl, by decide +kernel, by decide +kernel⟩
theorem f_need_dusks (g : Tx K mg E) {f : Addr} {fd : FuncData} (F : Fun K "need_dusks" "need_dusks" s_need_dusks f fd) (hf : mg "need_dusks" = some (.ref f))
    (f_is_from : Fn P w K mg base 2 "is_from" 3 (m_is_from E)) : Fn P w K mg base 3 "need_dusks" 1 (m_need_dusks E) := by
  obtain ⟨t_FAR, h_FAR⟩ := g.c_FAR
  have b := F.binds (ps := ["dusks"]) fun _ _ _ _ _ _ us hl => match us, hl with | [_], _ => rfl
  exact fn_mk F hf b sc_need_dusks rfl rfl fun cdv A outer s H EE c => (ss_one (ss_if (st_not (st_val (se_call c f_is_from (by omega) (sa_cons (se_var 0) (sa_cons se_int (sa_cons (se_gint h_FAR) sa_nil)))))) (ss_one (ss_raise c g.e_NoCount)) ss_nil))
abbrev s_behind : Stmt := topS 25
theorem sc_behind : FnScope ["stand", "dusks", "found"] ["stand", "dusks"] (defScope s_behind) := ⟨rfl, rfl, rfl, by decide +kernel, rfl, by decide +kernel, by decide +kernel⟩
theorem f_behind (g : Tx K mg E) {f : Addr} {fd : FuncData} (F : Fun K "behind" "behind" s_behind f fd) (hf : mg "behind" = some (.ref f))
    (f_need_stand : Fn P w K mg base 5 "need_stand" 1 (m_need_stand E))
    (f_need_dusks : Fn P w K mg base 3 "need_dusks" 1 (m_need_dusks E))
    (f_way_on : Fn P w K mg base 3 "way_on" 1 (m_way_on E)) : Fn P w K mg base 6 "behind" 2 (m_behind E) := by
  have b := F.binds (ps := ["stand", "dusks"]) fun _ _ _ _ _ _ us hl => match us, hl with | [_, _], _ => rfl
  exact fn_mk F hf b sc_behind rfl rfl fun cdv A outer s H EE c => (ss_cons (ss_expr (se_call c f_need_stand (by omega) (sa_cons (se_var 0) sa_nil)))
    (ss_cons (ss_expr (se_call c f_need_dusks (by omega) (sa_cons (se_var 1) sa_nil)))
    (ss_cons (ss_set 2 c.nd (se_call c f_way_on (by omega) (sa_cons (se_var 0) sa_nil)))
    (ss_one (ss_ret (se_ix (ix_any c.hu) (se_var 2) (se_cb (cw_min2 c.calm) g.b_min (by decide +kernel) (sa_cons (se_var 1) (sa_cons (se_bin ow_subI (se_cb cw_len g.b_len (by decide +kernel) (sa_cons (se_var 2) sa_nil)) se_int) sa_nil)))))))))
abbrev s_rest : Stmt := topS 26
theorem sc_rest : FnScope ["stand", "found"] ["stand"] (defScope s_rest) := ⟨rfl, rfl, rfl, by decide +kernel, rfl, by decide +kernel, by decide +kernel⟩
theorem f_rest (g : Tx K mg E) {f : Addr} {fd : FuncData} (F : Fun K "rest" "rest" s_rest f fd) (hf : mg "rest" = some (.ref f))
    (f_need_stand : Fn P w K mg base 5 "need_stand" 1 (m_need_stand E))
    (f_way_on : Fn P w K mg base 3 "way_on" 1 (m_way_on E)) : Fn P w K mg base 6 "rest" 1 (m_rest E) := by
  have b := F.binds (ps := ["stand"]) fun _ _ _ _ _ _ us hl => match us, hl with | [_], _ => rfl
  exact fn_mk F hf b sc_rest rfl rfl fun cdv A outer s H EE c => (ss_cons (ss_expr (se_call c f_need_stand (by omega) (sa_cons (se_var 0) sa_nil)))
    (ss_cons (ss_set 1 c.nd (se_call c f_way_on (by omega) (sa_cons (se_var 0) sa_nil)))
    (ss_one (ss_ret (se_tup (sa_cons (se_ix (ix_any c.hu) (se_var 1) (se_neg se_int)) (sa_cons (se_bin ow_subI (se_cb cw_len g.b_len (by decide +kernel) (sa_cons (se_var 1) sa_nil)) se_int) sa_nil)))))))
abbrev s_met_sizes : Stmt := topS 30
theorem sc_met_sizes : FnScope ["stand", "there", "size", "many"] ["stand"] (defScope s_met_sizes) := ⟨rfl, rfl, rfl, by decide +kernel, rfl, by decide +kernel, by decide +kernel⟩
theorem f_met_sizes (g : Tx K mg E) {f : Addr} {fd : FuncData} (F : Fun K "met_sizes" "met_sizes" s_met_sizes f fd) (hf : mg "met_sizes" = some (.ref f))
    (f_way_on : Fn P w K mg base 3 "way_on" 1 (m_way_on E)) : Fn P w K mg base 4 "met_sizes" 1 (m_met_sizes E) := by
  have b := F.binds (ps := ["stand"]) fun _ _ _ _ _ _ us hl => match us, hl with | [_], _ => rfl
  exact fn_mk F hf b sc_met_sizes rfl rfl fun cdv A outer s H EE c => (ss_one (ss_ret (se_cb (cw_sort c.calm c.u64) g.b_sorted (by decide +kernel) (sa_cons (se_dc2 (own := [("there", 1), ("size", 2), ("many", 3)]) c (si_seq (se_call c f_way_on (by omega) (sa_cons (se_var 0) sa_nil))) (by change blkC ["stand", "there", "size", "many"] (defScope s_met_sizes) _ _ = true; decide +kernel) [2, 3] (fun _ _ _ _ _ c1 => (sg_name 1 c1.nd)) (fun _ _ _ _ _ c1 => sts_nil) (fun _ _ _ _ _ c1 => (si_seq (se_var 1))) (fun _ _ _ _ _ c1 => (sg_tup c1.calm (sgs_cons (sg_name 2 c1.nd) (sgs_cons (sg_name 3 c1.nd) sgs_nil)))) (fun _ _ _ _ _ c1 => sts_nil) (fun _ _ _ _ _ c1 => (se_var 2)) (fun _ _ _ _ _ c1 => se_bl)) sa_nil))))
abbrev s_met : Stmt := topS 31
theorem sc_met : FnScope ["stand"] ["stand"] (defScope s_met) := ⟨rfl, rfl, rfl, by decide +kernel, rfl, by decide +kernel, by decide +kernel⟩
theorem f_met (g : Tx K mg E) {f : Addr} {fd : FuncData} (F : Fun K "met" "met" s_met f fd) (hf : mg "met" = some (.ref f))
    (f_need_stand : Fn P w K mg base 5 "need_stand" 1 (m_need_stand E))
    (f_met_sizes : Fn P w K mg base 4 "met_sizes" 1 (m_met_sizes E)) : Fn P w K mg base 6 "met" 1 (m_met E) := by
  have b := F.binds (ps := ["stand"]) fun _ _ _ _ _ _ us hl => match us, hl with | [_], _ => rfl
  exact fn_mk F hf b sc_met rfl rfl fun cdv A outer s H EE c => (ss_cons (ss_expr (se_call c f_need_stand (by omega) (sa_cons (se_var 0) sa_nil)))
    (ss_one (ss_ret (se_call c f_met_sizes (by omega) (sa_cons (se_var 0) sa_nil)))))
abbrev s_l_beside : Stmt := topS 49
theorem sc_l_beside : FnScope ["stand"] ["stand"] (defScope s_l_beside) := ⟨rfl, rfl, rfl, by decide +kernel, rfl, by decide +kernel, by decide +kernel⟩
theorem f_l_beside (g : Tx K mg E) {f : Addr} {fd : FuncData} (F : Fun K "_law_beside" "_law_beside" s_l_beside f fd) (hf : mg "_law_beside" = some (.ref f))
    (f_dusk : Fn P w K mg base 6 "dusk" 1 (m_dusk E))
    (f_behind : Fn P w K mg base 6 "behind" 2 (m_behind E))
    (f_rest : Fn P w K mg base 6 "rest" 1 (m_rest E))
    (f_Plain_init : KFn P w K mg base (E 9) 6 "Plain" 2 (m_Plain_init E))
    (f_Plain_rest : MFn P w K mg base (E 9) 4 "rest" 1 (m_Plain_rest E))
    (f_met : Fn P w K mg base 6 "met" 1 (m_met E)) : Fn P w K mg base 8 "_law_beside" 1 (m_l_beside E) := by
  have b := F.binds (ps := ["stand"]) fun _ _ _ _ _ _ us hl => match us, hl with | [_], _ => rfl
  exact fn_mk F hf b sc_l_beside rfl rfl fun cdv A outer s H EE c => (ss_one (ss_ret (se_lst (sa_cons (se_call c f_dusk (by omega) (sa_cons (se_var 0) sa_nil)) (sa_cons (se_call c f_rest (by omega) (sa_cons (se_var 0) sa_nil)) (sa_cons (se_call c f_met (by omega) (sa_cons (se_var 0) sa_nil)) (sa_cons (se_call c f_behind (by omega) (sa_cons (se_var 0) (sa_cons se_int sa_nil))) (sa_cons (se_meth0 c g.pl.c f_Plain_rest (by omega) (se_make c f_Plain_init (by omega) (sa_cons (se_var 0) sa_nil))) sa_nil))))))))
abbrev s_law : Stmt := topS 50
theorem sc_law : FnScope ["script", "cell", "deck", "stand", "plains_so", "stands_so", "gone", "turn", "first", "k", "deed", "due", "j", "here", "m", "same"] ["script"] (defScope s_law) := ⟨rfl, rfl, rfl, by decide +kernel, rfl, by decide +kernel, by decide +kernel⟩
theorem f_law (g : Tx K mg E) {f : Addr} {fd : FuncData} (F : Fun K "law" "law" s_law f fd)
    (f_Plain_init : KFn P w K mg base (E 9) 6 "Plain" 2 (m_Plain_init E))
    (f_Plain_len : MFn P w K mg base (E 9) 1 "__len__" 1 (m_Plain_len E))
    (f_Plain_eq : MFn P w K mg base (E 9) 1 "__eq__" 2 (m_Plain_eq E))
    (f_Plain_stand : MFn P w K mg base (E 9) 1 "stand" 1 (m_Plain_stand E))
    (f_Plain_rest : MFn P w K mg base (E 9) 4 "rest" 1 (m_Plain_rest E))
    (f_Plain_dusks : MFn P w K mg base (E 9) 1 "dusks" 1 (m_Plain_dusks E))
    (f_l_deck : Fn P w K mg base 1 "_law_deck" 2 (m_l_deck E))
    (f_l_pick : Fn P w K mg base 1 "_law_pick" 2 (m_l_pick E))
    (f_l_same : ∀ n, Fn P w K mg base (2 + n) "_law_same" 2 (m_l_same E n))
    (f_l_few : Fn P w K mg base 3 "_law_few" 2 (m_l_few E))
    (f_l_way : Fn P w K mg base 3 "_law_way" 1 (m_l_way E))
    (f_l_due : Fn P w K mg base 5 "_law_due" 2 (m_l_due E))
    (f_l_after : Fn P w K mg base 4 "_law_after" 2 (m_l_after E))
    (f_l_do : Fn P w K mg base 7 "_law_do" 2 (m_l_do E))
    (f_l_good_deed : Fn P w K mg base 3 "_law_good_deed" 2 (m_l_good_deed E))
    (f_l_beside : Fn P w K mg base 8 "_law_beside" 1 (m_l_beside E)) : FnOk P w K mg base (L2N.CX P w) 11 f fd ["script"] (spM K 1 (m_law E)) := by
  exact fnok_mk F sc_law rfl rfl fun cdv A outer s H EE c => (ss_cons (ss_for c.hp c.calm (si_seq (se_sl (se_bin ow_add (se_lst (sa_cons se_int sa_nil)) (se_var 0)) so_none (so_some se_int))) (sg_name 1 c.nd) (ss_cons (ss_set 2 c.nd (se_call c f_l_deck (by omega) (sa_cons (se_var 1) (sa_cons se_int sa_nil))))
    (ss_cons (ss_set 3 c.nd (se_call c f_l_few (by omega) (sa_cons (se_var 2) (sa_cons (se_bin ow_add se_int (se_call c f_l_pick (by omega) (sa_cons (se_var 2) (sa_cons se_int sa_nil)))) sa_nil))))
    (ss_cons (ss_par3 4 5 6 c.calm c.nd (sa_cons (se_lst (sa_cons (se_make c f_Plain_init (by omega) (sa_cons (se_var 3) sa_nil)) (sa_cons (se_make c f_Plain_init (by omega) (sa_cons (se_var 3) sa_nil)) sa_nil))) (sa_cons (se_lst (sa_cons (se_var 3) (sa_cons (se_var 3) sa_nil))) (sa_cons (se_lst (sa_cons se_int (sa_cons se_int sa_nil))) sa_nil))))
    (ss_one (ss_for c.hp c.calm (si_range1 g.b_range (sa_cons se_int sa_nil)) (sg_name 7 c.nd) (ss_cons (ss_if (st_cmp (ow_eq c.u64) (se_var 7) se_int (nomark _)) (ss_cons (ss_set 8 c.nd (se_call c f_l_few (by omega) (sa_cons (se_var 2) (sa_cons (se_bin ow_add se_int (se_call c f_l_pick (by omega) (sa_cons (se_var 2) (sa_cons se_int sa_nil)))) sa_nil))))
    (ss_cons (ss_expr (se_mt PySem.F.slot_list_append PySem.F.type_list_append mw_append (se_var 4) (sa_cons (se_make c f_Plain_init (by omega) (sa_cons (se_var 8) sa_nil)) sa_nil)))
    (ss_cons (ss_expr (se_mt PySem.F.slot_list_append PySem.F.type_list_append mw_append (se_var 5) (sa_cons (se_var 8) sa_nil)))
    (ss_one (ss_expr (se_mt PySem.F.slot_list_append PySem.F.type_list_append mw_append (se_var 6) (sa_cons se_int sa_nil))))))) ss_nil)
    (ss_cons (ss_set 9 c.nd (se_call c f_l_pick (by omega) (sa_cons (se_var 2) (sa_cons (se_cb cw_len g.b_len (by decide +kernel) (sa_cons (se_var 4) sa_nil)) sa_nil))))
    (ss_cons (ss_set 10 c.nd (se_call c f_l_good_deed (by omega) (sa_cons (se_var 2) (sa_cons (se_ix (ix_any c.hu) (se_var 5) (se_var 9)) sa_nil))))
    (ss_cons (ss_set 11 c.nd (se_call c f_l_due (by omega) (sa_cons (se_ix (ix_any c.hu) (se_var 5) (se_var 9)) (sa_cons (se_var 10) sa_nil))))
    (ss_cons (ss_if (st_cmp (ow_ne c.u64) (se_call c f_l_do (by omega) (sa_cons (se_ix (ix_any c.hu) (se_var 4) (se_var 9)) (sa_cons (se_var 10) sa_nil))) (se_var 11) (nomark _)) (ss_one (ss_ret se_bl)) ss_nil)
    (ss_cons (ss_if (st_cmp (ow_eq c.u64) (se_var 11) se_str (nomark _)) (ss_cons (ss_store c (se_var 5) (se_var 9) (se_call c f_l_after (by omega) (sa_cons (se_ix (ix_any c.hu) (se_var 5) (se_var 9)) (sa_cons (se_var 10) sa_nil))))
    (ss_one (ss_store c (se_var 6) (se_var 9) (se_bin ow_add (se_ix (ix_any c.hu) (se_var 6) (se_var 9)) (se_if (st_cmp (ow_eq c.u64) (se_ix (ix_any c.hu) (se_var 10) se_int) se_str (nomark _)) (se_ix (ix_any c.hu) (se_var 10) se_int) se_int))))) ss_nil)
    (ss_cons (ss_expr (se_call c f_l_beside (by omega) (sa_cons (se_ix (ix_any c.hu) (se_var 5) (se_call c f_l_pick (by omega) (sa_cons (se_var 2) (sa_cons (se_cb cw_len g.b_len (by decide +kernel) (sa_cons (se_var 5) sa_nil)) sa_nil)))) sa_nil)))
    (ss_one (ss_for c.hp c.calm (si_range1 g.b_range (sa_cons (se_cb cw_len g.b_len (by decide +kernel) (sa_cons (se_var 4) sa_nil)) sa_nil)) (sg_name 12 c.nd) (ss_cons (ss_set 13 c.nd (se_lst (sa_cons (se_meth0 c g.pl.c f_Plain_stand (by omega) (se_ix (ix_any c.hu) (se_var 4) (se_var 12))) (sa_cons (se_meth0 c g.pl.c f_Plain_dusks (by omega) (se_ix (ix_any c.hu) (se_var 4) (se_var 12))) (sa_cons (se_cb (cw_lenP c g.pl.c f_Plain_len (by omega)) g.b_len (by decide +kernel) (sa_cons (se_ix (ix_any c.hu) (se_var 4) (se_var 12)) sa_nil)) (sa_cons (se_meth0 c g.pl.c f_Plain_rest (by omega) (se_ix (ix_any c.hu) (se_var 4) (se_var 12))) sa_nil))))))
    (ss_cons (ss_if (st_not (st_val (se_call c (f_l_same 8) (by omega) (sa_cons (se_var 13) (sa_cons (se_lst (sa_cons (se_ix (ix_any c.hu) (se_var 5) (se_var 12)) (sa_cons (se_ix (ix_any c.hu) (se_var 6) (se_var 12)) (sa_cons (se_cb cw_len g.b_len (by decide +kernel) (sa_cons (se_ix (ix_any c.hu) (se_var 5) (se_var 12)) sa_nil)) (sa_cons (se_ix (ix_any c.hu) (se_call c f_l_way (by omega) (sa_cons (se_ix (ix_any c.hu) (se_var 5) (se_var 12)) sa_nil)) (se_neg se_int)) sa_nil))))) sa_nil))))) (ss_one (ss_ret se_bl)) ss_nil)
    (ss_one (ss_for c.hp c.calm (si_range1 g.b_range (sa_cons (se_cb cw_len g.b_len (by decide +kernel) (sa_cons (se_var 4) sa_nil)) sa_nil)) (sg_name 14 c.nd) (ss_cons (ss_set 15 c.nd (se_cmp (ow_eq c.u64) (se_tup (sa_cons (se_ix (ix_any c.hu) (se_var 5) (se_var 12)) (sa_cons (se_ix (ix_any c.hu) (se_var 6) (se_var 12)) sa_nil))) (se_tup (sa_cons (se_ix (ix_any c.hu) (se_var 5) (se_var 14)) (sa_cons (se_ix (ix_any c.hu) (se_var 6) (se_var 14)) sa_nil))) (nomark _)))
    (ss_one (ss_if (st_not (st_val (se_call c (f_l_same 8) (by omega) (sa_cons (se_cmp (ow_eqP c g.pl f_Plain_eq (by omega)) (se_ix (ix_any c.hu) (se_var 4) (se_var 12)) (se_ix (ix_any c.hu) (se_var 4) (se_var 14)) (nomark _)) (sa_cons (se_var 15) sa_nil))))) (ss_one (ss_ret se_bl)) ss_nil))))))))))))))))))))))
    (ss_one (ss_ret se_bl)))
end

end Lw
namespace Lw
open PySem Wm
/-! ## what the stands' defs do -/
section
variable (E : Nat → Addr) {S : Sto} {w : W} {b : Bool} {rows : Rows}
theorem lit_true : (decide True : Bool) = true := rfl
theorem all_folk_spec (hq : asQ S w = some (b, rows.map tp)) (hl : rows.length < bigT) (hb : ∀ r ∈ rows, smallN r.1 = true ∧ smallN r.2 = true) :
    ∃ S', m_all_folk E [w] S = .ok (.int (folkP rows)) S' ∧ Kp [] S S' := by
  obtain ⟨S', h1, h2, h3⟩ := comp_all (own := [1, 2]) (T := .many [1, 2]) (f := mBin oMul (mVar 1) (mVar 2)) (φ := [some w, none, none]) (it := mItQ (mVar 0)) (S := S) tp rows (fun r => .int (r.1 * r.2)) (by simp only [mFn, mCall, chk, mSeq, mRet, mRetN, mNext, mSet, mDrop, mIfS, mIf, mPar, mTg, mAug, mCB, mCons, mNil, mBin, mChain, mTest, bOf, mAndT, mOrT, mNotT, mAnd, mOr, mNot, mNeg, mVar, mC, mTup, mLst, mYes, mItQ, mItR1, mItR2, mItE, mItZ, mRaise, mIsi, mMt, mDNew, mStore, mGet2, mSl, mPart, bindS_ok, bindS_ex, bindS_bad, Out.bind_ok, Out.bind_ex, Out.bind_bad, ofO_some, ofO_none, List.map_cons, List.map_nil, List.replicate, List.cons_append, List.nil_append, List.append_nil, List.getElem?_cons_zero, List.getElem?_cons_succ, List.set_cons_zero, List.set_cons_succ, List.length_cons, List.length_nil, List.length_append, List.length_map, wipeF, setAll, tgM, if_true, if_false, Bool.not_true, Bool.not_false, Nat.zero_add, reduceCtorEq, Bool.false_eq_true, hq]) (wk_l hq fun _ _ z => nomatch z) hl fun x hx S2 k => by
    obtain ⟨b1, b2⟩ := hb x hx
    refine ⟨_, rfl, S2, ?_, Kp.refl _ _⟩
    simp only [mFn, mCall, chk, mSeq, mRet, mRetN, mNext, mSet, mDrop, mIfS, mIf, mPar, mTg, mAug, mCB, mCons, mNil, mBin, mChain, mTest, bOf, mAndT, mOrT, mNotT, mAnd, mOr, mNot, mNeg, mVar, mC, mTup, mLst, mYes, mItQ, mItR1, mItR2, mItE, mItZ, mRaise, mIsi, mMt, mDNew, mStore, mGet2, mSl, mPart, bindS_ok, bindS_ex, bindS_bad, Out.bind_ok, Out.bind_ex, Out.bind_bad, ofO_some, ofO_none, List.map_cons, List.map_nil, List.replicate, List.cons_append, List.nil_append, List.append_nil, List.getElem?_cons_zero, List.getElem?_cons_succ, List.set_cons_zero, List.set_cons_succ, List.length_cons, List.length_nil, List.length_append, List.length_map, wipeF, setAll, tgM, if_true, if_false, Bool.not_true, Bool.not_false, Nat.zero_add, reduceCtorEq, Bool.false_eq_true, mul_ii b1 b2]
  refine ⟨S', ?_, h2⟩
  unfold m_all_folk b_all_folk
  have e : (rows.map fun r => W.int (r.1 * r.2)) = (rows.map fun r => r.1 * r.2).map W.int := by rw [List.map_map]; rfl
  rw [e] at h3
  simp only [mFn, mCall, chk, mSeq, mRet, mRetN, mNext, mSet, mDrop, mIfS, mIf, mPar, mTg, mAug, mCB, mCons, mNil, mBin, mChain, mTest, bOf, mAndT, mOrT, mNotT, mAnd, mOr, mNot, mNeg, mVar, mC, mTup, mLst, mYes, mItQ, mItR1, mItR2, mItE, mItZ, mRaise, mIsi, mMt, mDNew, mStore, mGet2, mSl, mPart, bindS_ok, bindS_ex, bindS_bad, Out.bind_ok, Out.bind_ex, Out.bind_bad, ofO_some, ofO_none, List.map_cons, List.map_nil, List.replicate, List.cons_append, List.nil_append, List.append_nil, List.getElem?_cons_zero, List.getElem?_cons_succ, List.set_cons_zero, List.set_cons_succ, List.length_cons, List.length_nil, List.length_append, List.length_map, wipeF, setAll, tgM, if_true, if_false, Bool.not_true, Bool.not_false, Nat.zero_add, reduceCtorEq, Bool.false_eq_true, h1, sum_ints (ref_l h3)]
  rfl
/-! gathered -/
def enc2 (d : Rows) : List (W × W) := d.map fun p => (.int p.1, .int p.2)
theorem weq_int (i j : Int) : weq (.int i) (.int j) = decide (i = j) := rfl
theorem look_enc2 (d : Rows) (k : Int) : ((lookW (enc2 d) (.int k)).getD (.int 0)) = .int (getD d k) := by
  induction d with
  | nil => rfl
  | cons p d ih =>
    rw [getD_cons]
    unfold enc2 lookW
    rw [List.map_cons, List.find?_cons]
    rw [weq_int]
    by_cases h : p.1 = k
    · rw [decide_eq_true h, if_pos h]; rfl
    · rw [decide_eq_false h, if_neg h]; exact ih
theorem put_enc2 (d : Rows) (k v : Int) : putW (enc2 d) (.int k) (.int v) = enc2 (put d k v) := by
  have ha : ((enc2 d).any fun p => weq p.1 (.int k)) = d.any fun p => decide (p.1 = k) := by
    unfold enc2
    rw [List.any_map]
    rfl
  unfold putW put
  rw [ha]
  split
  · unfold enc2
    rw [List.map_map, List.map_map]
    refine List.map_congr_left fun p _ => ?_
    show (if weq (W.int p.1) (.int k) = true then (W.int p.1, W.int v) else (W.int p.1, W.int p.2)) = _
    rw [weq_int]
    by_cases h : p.1 = k
    · simp [h]
    · simp [h]
  · unfold enc2
    rw [List.map_append]; rfl
theorem pairs_enc2 (d : Rows) : intPairs (enc2 d) = some d := by
  induction d with
  | nil => rfl
  | cons p d ih =>
    show (intPairs (enc2 d)).map ((p.1, p.2) :: ·) = _
    rw [ih]; rfl
theorem get_dic {n : Nat} {d : Rows} (h : S[n]? = some (.dic (enc2 d))) (k : Int) : lookO (.ref n) (.int k) S = some (lookW (enc2 d) (.int k)) := by
  simp only [lookO, keyW, h]
theorem set_dic {n : Nat} {d : Rows} (h : S[n]? = some (.dic (enc2 d))) (hl : d.length < bigL) (k v : Int) : oSet (.ref n) (.int k) (.int v) S = some (S.set n (.dic (enc2 (put d k v)))) := by
  have e : oSetL (.ref n) (.int k) (.int v) S = none := by simp only [oSetL, h]
  unfold oSet
  rw [e]
  dsimp only
  simp only [oSetD, keyW, h]
  have hl2 : (enc2 d).length < bigL := by unfold enc2; rw [List.length_map]; exact hl
  rw [if_pos hl2, put_enc2]
theorem isDic_ref {n : Nat} {d : List (W × W)} (h : S[n]? = some (.dic d)) : isDic S (.ref n) = true := by simp only [isDic, h]
/-- sorted(d.items()) of a dict of numbers, as a tuple -/
theorem sortI_ev {n : Nat} {d : Rows} {f : FE W} {φ : Fr} {S0 : Sto} (hf : f φ S0 = .ok (.ref n) S) (h : S[n]? = some (.dic (enc2 d))) (hl : d.length ≤ bigL) : mSortI f φ S0 = .ok (.ref S.length) (S ++ [.lst ((d.mergeSort le2).map tp)]) := by
  unfold mSortI
  rw [hf, Out.bind_ok]
  dsimp only
  rw [h]
  dsimp only
  rw [pairs_enc2]
  dsimp only
  rw [lstO_ok (by rw [List.length_map, List.length_mergeSort]; exact hl)]
  rfl
theorem gathered_spec (hq : asQ S w = some (b, rows.map tp)) (hl : rows.length < bigL) : ∃ S', m_gathered E [w] S = .ok (std (gath rows)) S' ∧ Kp [] S S' := by
  have hlT : rows.length < bigT := hl
  unfold m_gathered b_gathered
  simp only [mFn, mCall, chk, mSeq, mRet, mRetN, mNext, mSet, mDrop, mIfS, mIf, mPar, mTg, mAug, mCB, mCons, mNil, mBin, mChain, mTest, bOf, mAndT, mOrT, mNotT, mAnd, mOr, mNot, mNeg, mVar, mC, mTup, mLst, mYes, mItQ, mItR1, mItR2, mItE, mItZ, mRaise, mIsi, mMt, mDNew, mStore, mGet2, mSl, mPart, bindS_ok, bindS_ex, bindS_bad, Out.bind_ok, Out.bind_ex, Out.bind_bad, ofO_some, ofO_none, List.map_cons, List.map_nil, List.replicate, List.cons_append, List.nil_append, List.append_nil, List.getElem?_cons_zero, List.getElem?_cons_succ, List.set_cons_zero, List.set_cons_succ, List.length_cons, List.length_nil, List.length_append, List.length_map, wipeF, setAll, tgM, if_true, if_false, Bool.not_true, Bool.not_false, Nat.zero_add, reduceCtorEq, Bool.false_eq_true]
  have k0 : Kp [] S (S ++ [.dic []]) := Kp.push _ _ _
  have q0 := k0.qn hq
  have key := for_ind (P := fun o => ∃ φ' S', o = .nx φ' S' ∧ φ'[1]? = some (some (.ref S.length)) ∧ Kp [] S S' ∧ S'[S.length]? = some (.dic (enc2 (tally rows))))
    (it := mItQ (mVar 0)) (T := .many [2, 3]) (φ := [some w, some (.ref S.length), none, none]) (S := S ++ [.dic []]) (l := rows.map tp) (d := [S.length]) (b := mStore (mVar 1) (mVar 2) (mBin oAdd (mGet2 (mVar 1) (mVar 2) (mC (.int 0))) (mVar 3)))
    (fun i φ S1 => (∃ o2 o3, φ = [some w, some (.ref S.length), o2, o3]) ∧ Kp [S.length] (S ++ [.dic []]) S1 ∧ S1[S.length]? = some (.dic (enc2 (tally (rows.take i)))))
    (by simp only [mFn, mCall, chk, mSeq, mRet, mRetN, mNext, mSet, mDrop, mIfS, mIf, mPar, mTg, mAug, mCB, mCons, mNil, mBin, mChain, mTest, bOf, mAndT, mOrT, mNotT, mAnd, mOr, mNot, mNeg, mVar, mC, mTup, mLst, mYes, mItQ, mItR1, mItR2, mItE, mItZ, mRaise, mIsi, mMt, mDNew, mStore, mGet2, mSl, mPart, bindS_ok, bindS_ex, bindS_bad, Out.bind_ok, Out.bind_ex, Out.bind_bad, ofO_some, ofO_none, List.map_cons, List.map_nil, List.replicate, List.cons_append, List.nil_append, List.append_nil, List.getElem?_cons_zero, List.getElem?_cons_succ, List.set_cons_zero, List.set_cons_succ, List.length_cons, List.length_nil, List.length_append, List.length_map, wipeF, setAll, tgM, if_true, if_false, Bool.not_true, Bool.not_false, Nat.zero_add, reduceCtorEq, Bool.false_eq_true, q0]) (wk_l q0 fun n e hn => by
      subst e
      have : n = S.length := by simpa using hn
      subst this
      simp [asQ, asL] at q0) (by rw [List.length_map]; exact hlT) ⟨⟨none, none, rfl⟩, Kp.refl _ _, by simp [tally, enc2]⟩ (fun i φ S1 h => h.2.1) (fun i x φ S1 e h => ?_) (fun φ S1 h => ?_)
  · obtain ⟨φ', S', e1, e2, e3, e4⟩ := key
    simp only [e1]
    have hlt : (tally rows).length ≤ bigL := Nat.le_trans (tally_ok rows).len (Nat.le_of_lt hl)
    have ev1 := sortI_ev (f := mVar 1) (φ := φ') (S0 := S') (by unfold mVar; rw [e2]) e4 hlt
    have ev2 := tuple_q (ref_q (at_new S' (Ob.lst (((tally rows).mergeSort le2).map tp)))) (by rw [List.length_map, List.length_mergeSort]; exact hlt)
    simp only [mFn, mCall, chk, mSeq, mRet, mRetN, mNext, mSet, mDrop, mIfS, mIf, mPar, mTg, mAug, mCB, mCons, mNil, mBin, mChain, mTest, bOf, mAndT, mOrT, mNotT, mAnd, mOr, mNot, mNeg, mVar, mC, mTup, mLst, mYes, mItQ, mItR1, mItR2, mItE, mItZ, mRaise, mIsi, mMt, mDNew, mStore, mGet2, mSl, mPart, bindS_ok, bindS_ex, bindS_bad, Out.bind_ok, Out.bind_ex, Out.bind_bad, ofO_some, ofO_none, List.map_cons, List.map_nil, List.replicate, List.cons_append, List.nil_append, List.append_nil, List.getElem?_cons_zero, List.getElem?_cons_succ, List.set_cons_zero, List.set_cons_succ, List.length_cons, List.length_nil, List.length_append, List.length_map, wipeF, setAll, tgM, if_true, if_false, Bool.not_true, Bool.not_false, Nat.zero_add, reduceCtorEq, Bool.false_eq_true, ev1, ev2]
    exact ⟨_, rfl, e3.trans (Kp.push _ _ _)⟩
  · obtain ⟨⟨o2, o3, rfl⟩, h2, h3⟩ := h
    rw [List.getElem?_map] at e
    obtain ⟨r, e2, rfl⟩ := Option.map_eq_some_iff.mp e
    refine ⟨_, rfl, ?_⟩
    have hlt : (tally (rows.take i)).length < bigL := by
      have := (tally_ok (rows.take i)).len
      rw [List.length_take] at this
      omega
    simp only [mFn, mCall, chk, mSeq, mRet, mRetN, mNext, mSet, mDrop, mIfS, mIf, mPar, mTg, mAug, mCB, mCons, mNil, mBin, mChain, mTest, bOf, mAndT, mOrT, mNotT, mAnd, mOr, mNot, mNeg, mVar, mC, mTup, mLst, mYes, mItQ, mItR1, mItR2, mItE, mItZ, mRaise, mIsi, mMt, mDNew, mStore, mGet2, mSl, mPart, bindS_ok, bindS_ex, bindS_bad, Out.bind_ok, Out.bind_ex, Out.bind_bad, ofO_some, ofO_none, List.map_cons, List.map_nil, List.replicate, List.cons_append, List.nil_append, List.append_nil, List.getElem?_cons_zero, List.getElem?_cons_succ, List.set_cons_zero, List.set_cons_succ, List.length_cons, List.length_nil, List.length_append, List.length_map, wipeF, setAll, tgM, if_true, if_false, Bool.not_true, Bool.not_false, Nat.zero_add, reduceCtorEq, Bool.false_eq_true, isDic_ref h3, get_dic h3, look_enc2, add_ii, set_dic h3 hlt]
    refine ⟨⟨_, _, rfl⟩, h2.trans (Kp.set (by simp)), ?_⟩
    rw [set_at h3, List.take_succ, e2]
    show _ = some (Ob.dic (enc2 (tally (rows.take i ++ [r]))))
    rw [tally_snoc]
  · obtain ⟨⟨o2, o3, rfl⟩, h2, h3⟩ := h
    refine ⟨_, _, rfl, rfl, (Kp.push [] S [.dic []]).fresh h2 fun m hm => .inr (by simp at hm; omega), ?_⟩
    rw [List.length_map, List.take_length] at h3
    exact h3
theorem joined_spec (hq : asQ S w = some (b, rows.map tp)) (hl : rows.length < bigL) (hb : ∀ r ∈ rows, smallN r.1 = true ∧ smallN r.2 = true) : ∃ S', m_joined E [w] S = .ok (std (jn rows)) S' ∧ Kp [] S S' := by
  obtain ⟨S1, h1, h2, h3⟩ := comp_all (own := [1, 2]) (T := .many [1, 2]) (f := mTup (mCons (mBin oMul (mVar 1) (mVar 2)) (mCons (mC (.int 1)) mNil))) (φ := [some w, none, none]) (it := mItQ (mVar 0)) (S := S) tp rows (fun r => tp (r.1 * r.2, 1)) (by simp only [mFn, mCall, chk, mSeq, mRet, mRetN, mNext, mSet, mDrop, mIfS, mIf, mPar, mTg, mAug, mCB, mCons, mNil, mBin, mChain, mTest, bOf, mAndT, mOrT, mNotT, mAnd, mOr, mNot, mNeg, mVar, mC, mTup, mLst, mYes, mItQ, mItR1, mItR2, mItE, mItZ, mRaise, mIsi, mMt, mDNew, mStore, mGet2, mSl, mPart, bindS_ok, bindS_ex, bindS_bad, Out.bind_ok, Out.bind_ex, Out.bind_bad, ofO_some, ofO_none, List.map_cons, List.map_nil, List.replicate, List.cons_append, List.nil_append, List.append_nil, List.getElem?_cons_zero, List.getElem?_cons_succ, List.set_cons_zero, List.set_cons_succ, List.length_cons, List.length_nil, List.length_append, List.length_map, wipeF, setAll, tgM, if_true, if_false, Bool.not_true, Bool.not_false, Nat.zero_add, reduceCtorEq, Bool.false_eq_true, hq]) (wk_l hq fun _ _ z => nomatch z) hl fun x hx S2 k => by
    obtain ⟨b1, b2⟩ := hb x hx
    refine ⟨_, rfl, S2, ?_, Kp.refl _ _⟩
    simp only [mFn, mCall, chk, mSeq, mRet, mRetN, mNext, mSet, mDrop, mIfS, mIf, mPar, mTg, mAug, mCB, mCons, mNil, mBin, mChain, mTest, bOf, mAndT, mOrT, mNotT, mAnd, mOr, mNot, mNeg, mVar, mC, mTup, mLst, mYes, mItQ, mItR1, mItR2, mItE, mItZ, mRaise, mIsi, mMt, mDNew, mStore, mGet2, mSl, mPart, bindS_ok, bindS_ex, bindS_bad, Out.bind_ok, Out.bind_ex, Out.bind_bad, ofO_some, ofO_none, List.map_cons, List.map_nil, List.replicate, List.cons_append, List.nil_append, List.append_nil, List.getElem?_cons_zero, List.getElem?_cons_succ, List.set_cons_zero, List.set_cons_succ, List.length_cons, List.length_nil, List.length_append, List.length_map, wipeF, setAll, tgM, if_true, if_false, Bool.not_true, Bool.not_false, Nat.zero_add, reduceCtorEq, Bool.false_eq_true, mul_ii b1 b2, tupO_ok (show [W.int (x.1 * x.2), W.int 1].length ≤ bigL from (by decide : 2 ≤ bigL))]
    rfl
  have e : (rows.map fun r => tp (r.1 * r.2, 1)) = (rows.map fun r => (r.1 * r.2, (1 : Int))).map tp := by rw [List.map_map]; rfl
  rw [e] at h3
  obtain ⟨S2, g1, g2⟩ := gathered_spec E (ref_q h3) (by rw [List.length_map]; exact hl)
  refine ⟨S2, ?_, h2.trans g2⟩
  unfold m_joined b_joined
  simp only [mFn, mCall, chk, mSeq, mRet, mRetN, mNext, mSet, mDrop, mIfS, mIf, mPar, mTg, mAug, mCB, mCons, mNil, mBin, mChain, mTest, bOf, mAndT, mOrT, mNotT, mAnd, mOr, mNot, mNeg, mVar, mC, mTup, mLst, mYes, mItQ, mItR1, mItR2, mItE, mItZ, mRaise, mIsi, mMt, mDNew, mStore, mGet2, mSl, mPart, bindS_ok, bindS_ex, bindS_bad, Out.bind_ok, Out.bind_ex, Out.bind_bad, ofO_some, ofO_none, List.map_cons, List.map_nil, List.replicate, List.cons_append, List.nil_append, List.append_nil, List.getElem?_cons_zero, List.getElem?_cons_succ, List.set_cons_zero, List.set_cons_succ, List.length_cons, List.length_nil, List.length_append, List.length_map, wipeF, setAll, tgM, if_true, if_false, Bool.not_true, Bool.not_false, Nat.zero_add, reduceCtorEq, Bool.false_eq_true, h1, g1]
  rfl
end

section
variable (E : Nat → Addr) {S : Sto} {w : W} {b : Bool} {rows : Rows}
theorem is_whole_int (i : Int) : m_is_whole E [.int i] S = .ok (.bl true) S := rfl
theorem is_from_int (i lo hi : Int) : m_is_from E [.int i, .int lo, .int hi] S = .ok (.bl (decide (lo ≤ i) && decide (i ≤ hi))) S := by
  unfold m_is_from b_is_from
  simp only [mFn, mCall, chk, mSeq, mRet, mRetN, mNext, mSet, mDrop, mIfS, mIf, mPar, mTg, mAug, mCB, mCons, mNil, mBin, mChain, mTest, bOf, mAndT, mOrT, mNotT, mAnd, mOr, mNot, mNeg, mVar, mC, mTup, mLst, mYes, mItQ, mItR1, mItR2, mItE, mItZ, mRaise, mIsi, mMt, mDNew, mStore, mGet2, mSl, mPart, bindS_ok, bindS_ex, bindS_bad, Out.bind_ok, Out.bind_ex, Out.bind_bad, ofO_some, ofO_none, List.map_cons, List.map_nil, List.replicate, List.cons_append, List.nil_append, List.append_nil, List.getElem?_cons_zero, List.getElem?_cons_succ, List.set_cons_zero, List.set_cons_succ, List.length_cons, List.length_nil, List.length_append, List.length_map, wipeF, setAll, tgM, if_true, if_false, Bool.not_true, Bool.not_false, Nat.zero_add, reduceCtorEq, Bool.false_eq_true, is_whole_int, le_ii]
  by_cases h : lo ≤ i
  · simp only [decide_eq_true h, if_true]; rfl
  · simp only [decide_eq_false h]; rfl
theorem len2 (p : Int × Int) : asQ S (tp p) = some (true, [.int p.1, .int p.2]) := rfl
theorem all_true {l : List Bool} (h : ∀ x ∈ l, x = true) : l.all id = true := List.all_eq_true.mpr fun x hx => h x hx
theorem are_herds_std (hr : Rise rows) (hb : ∀ x ∈ rows, 1 ≤ x.1 ∧ 1 ≤ x.2 ∧ x.1 ≤ g_MOST_FOLK ∧ x.2 ≤ g_MOST_FOLK) (hl : rows.length < 1000) : ∃ S', m_are_herds E [std rows] S = .ok (.bl true) S' ∧ Kp [] S S' := by
  have hlT : rows.length < bigT := Nat.lt_trans hl (by decide)
  unfold m_are_herds b_are_herds
  obtain ⟨S1, a1, a2, a3⟩ := comp_all (own := [1]) (T := .one 1) (f := mAnd (mIsi .tuple (mVar 1)) (mBin oEq (mCB oLen (mCons (mVar 1) mNil)) (mC (.int 2)))) (φ := [some (std rows), none, none, none, none]) (it := mItQ (mVar 0)) (S := S) tp rows (fun r => .bl true) (by simp only [mFn, mCall, chk, mSeq, mRet, mRetN, mNext, mSet, mDrop, mIfS, mIf, mPar, mTg, mAug, mCB, mCons, mNil, mBin, mChain, mTest, bOf, mAndT, mOrT, mNotT, mAnd, mOr, mNot, mNeg, mVar, mC, mTup, mLst, mYes, mItQ, mItR1, mItR2, mItE, mItZ, mRaise, mIsi, mMt, mDNew, mStore, mGet2, mSl, mPart, bindS_ok, bindS_ex, bindS_bad, Out.bind_ok, Out.bind_ex, Out.bind_bad, ofO_some, ofO_none, List.map_cons, List.map_nil, List.replicate, List.cons_append, List.nil_append, List.append_nil, List.getElem?_cons_zero, List.getElem?_cons_succ, List.set_cons_zero, List.set_cons_succ, List.length_cons, List.length_nil, List.length_append, List.length_map, wipeF, setAll, tgM, if_true, if_false, Bool.not_true, Bool.not_false, Nat.zero_add, reduceCtorEq, Bool.false_eq_true, std_q]) (wk_l (std_q S rows) fun _ _ z => nomatch z) hlT fun x hx S2 k => by
    refine ⟨_, rfl, S2, ?_, Kp.refl _ _⟩
    rfl
  have e1 : (rows.map fun _ => W.bl true) = (rows.map fun _ => true).map W.bl := by rw [List.map_map]; rfl
  rw [e1] at a3
  have t1 : (rows.map fun _ => true).all id = true := all_true fun x hx => by simp at hx; exact hx.2
  obtain ⟨S2, b1, b2, b3⟩ := comp2_grow (own := [1, 2]) (own1 := [2]) (T := .one 1) (T1 := .one 2) (c := mYes) (c1 := mYes) (it := mItQ (mVar 0)) (it1 := mItQ (mVar 1)) (f := mCall 3 (m_is_from E) (mCons (mVar 2) (mCons (mC (.int 1)) (mCons (mC (.int g_MOST_FOLK)) mNil)))) (φ := [some (std rows), none, none, none, none]) (S := S1)
    tp rows (fun _ => true) W.int (fun p => [p.1, p.2]) (fun _ _ => true) (fun _ _ => .bl true) (by simp only [mFn, mCall, chk, mSeq, mRet, mRetN, mNext, mSet, mDrop, mIfS, mIf, mPar, mTg, mAug, mCB, mCons, mNil, mBin, mChain, mTest, bOf, mAndT, mOrT, mNotT, mAnd, mOr, mNot, mNeg, mVar, mC, mTup, mLst, mYes, mItQ, mItR1, mItR2, mItE, mItZ, mRaise, mIsi, mMt, mDNew, mStore, mGet2, mSl, mPart, bindS_ok, bindS_ex, bindS_bad, Out.bind_ok, Out.bind_ex, Out.bind_bad, ofO_some, ofO_none, List.map_cons, List.map_nil, List.replicate, List.cons_append, List.nil_append, List.append_nil, List.getElem?_cons_zero, List.getElem?_cons_succ, List.set_cons_zero, List.set_cons_succ, List.length_cons, List.length_nil, List.length_append, List.length_map, wipeF, setAll, tgM, if_true, if_false, Bool.not_true, Bool.not_false, Nat.zero_add, reduceCtorEq, Bool.false_eq_true, std_q]) (wk_l (std_q S1 rows) fun _ _ z => nomatch z) hlT (by
      have : (rows.flatMap fun p => [p.1, p.2]).length = 2 * rows.length := by
        clear a1 a2 a3 e1 t1 hr hb hl hlT
        induction rows with
        | nil => rfl
        | cons p r ih => rw [List.flatMap_cons, List.length_append, ih, List.length_cons]; simp; omega
      rw [this]
      have : 2000 ≤ bigL := by decide
      omega) fun x hx S2 k => by
    refine ⟨_, rfl, S2, rfl, Kp.refl _ _, fun _ => ⟨_, S2, rfl, Kp.refl _ _, wk_l (w := tp x) (b := true) rfl (fun n e => nomatch (show W.tup _ = W.ref n from e)), (by decide : 2 < bigT), fun y hy S5 k5 => ⟨_, rfl, S5, rfl, Kp.refl _ _, fun _ => ⟨S5, ?_, Kp.refl _ _⟩⟩⟩⟩
    obtain ⟨h1, h2, h3, h4⟩ := hb x hx
    have hy' : 1 ≤ y ∧ y ≤ g_MOST_FOLK := by
      rcases List.mem_cons.mp hy with e | hy
      · subst e; exact ⟨h1, h3⟩
      · have e : y = x.2 := by simpa using hy
        subst e; exact ⟨h2, h4⟩
    simp only [mFn, mCall, chk, mSeq, mRet, mRetN, mNext, mSet, mDrop, mIfS, mIf, mPar, mTg, mAug, mCB, mCons, mNil, mBin, mChain, mTest, bOf, mAndT, mOrT, mNotT, mAnd, mOr, mNot, mNeg, mVar, mC, mTup, mLst, mYes, mItQ, mItR1, mItR2, mItE, mItZ, mRaise, mIsi, mMt, mDNew, mStore, mGet2, mSl, mPart, bindS_ok, bindS_ex, bindS_bad, Out.bind_ok, Out.bind_ex, Out.bind_bad, ofO_some, ofO_none, List.map_cons, List.map_nil, List.replicate, List.cons_append, List.nil_append, List.append_nil, List.getElem?_cons_zero, List.getElem?_cons_succ, List.set_cons_zero, List.set_cons_succ, List.length_cons, List.length_nil, List.length_append, List.length_map, wipeF, setAll, tgM, if_true, if_false, Bool.not_true, Bool.not_false, Nat.zero_add, reduceCtorEq, Bool.false_eq_true, is_from_int]
    rw [decide_eq_true hy'.1, decide_eq_true hy'.2]
    rfl
  have e2 : (((rows.filter fun _ => true).flatMap fun (x : Int × Int) => (([x.1, x.2] : List Int).filter fun _ => true).map fun _ => W.bl true)) = ((rows.flatMap fun x => [true, true]).map W.bl) := by
    rw [List.filter_eq_self.mpr (by simp)]
    clear a1 a2 a3 e1 t1 hr hb hl hlT b1 b2 b3
    induction rows with
    | nil => rfl
    | cons p r ih => rw [List.flatMap_cons, List.flatMap_cons, List.map_append, ih]; rfl
  rw [e2] at b3
  have t2 : (rows.flatMap fun x => [true, true]).all id = true := all_true fun x hx => by
    obtain ⟨_, _, h⟩ := List.mem_flatMap.mp hx
    simpa using h
  have ez : List.zipWith (fun x y => W.tuw [x, y]) (rows.map tp) ((rows.map tp).drop 1) = (rows.zip (rows.drop 1)).map fun p => W.tuw [tp p.1, tp p.2] := by
    rw [← List.map_drop, List.zipWith_map, List.zip_eq_zipWith, List.map_zipWith]
  have hz : ∀ p ∈ rows.zip (rows.drop 1), p.1.1 < p.2.1 := by
    intro p hp
    obtain ⟨i, hi, e⟩ := List.mem_iff_getElem.mp hp
    have q := List.getElem?_eq_getElem hi
    rw [e, List.getElem?_zip_eq_some] at q
    obtain ⟨q1, q2⟩ := q
    rw [List.getElem?_drop] at q2
    obtain ⟨l1, g1⟩ := List.getElem?_eq_some_iff.mp q1
    obtain ⟨l2, g2⟩ := List.getElem?_eq_some_iff.mp q2
    have := List.pairwise_iff_getElem.mp hr i (1 + i) l1 l2 (by omega)
    rw [g1, g2] at this
    exact this
  obtain ⟨S3, c1, c2, c3⟩ := comp_all (own := [3, 4]) (T := .many [3, 4]) (f := mBin oLtI (mBin oIx (mVar 3) (mC (.int 0))) (mBin oIx (mVar 4) (mC (.int 0)))) (φ := [some (std rows), none, none, none, none]) (it := mItZ (mCons (mVar 0) (mCons (mSl (mVar 0) (some (mC (.int 1))) none) mNil))) (S := S2)
    (fun p : (Int × Int) × (Int × Int) => W.tuw [tp p.1, tp p.2]) (rows.zip (rows.drop 1)) (fun p => .bl (decide (p.1.1 < p.2.1))) (m := itZ (std rows) (.tup ((rows.map tp).drop 1))) (S1 := S2) (by
      simp only [mFn, mCall, chk, mSeq, mRet, mRetN, mNext, mSet, mDrop, mIfS, mIf, mPar, mTg, mAug, mCB, mCons, mNil, mBin, mChain, mTest, bOf, mAndT, mOrT, mNotT, mAnd, mOr, mNot, mNeg, mVar, mC, mTup, mLst, mYes, mItQ, mItR1, mItR2, mItE, mItZ, mRaise, mIsi, mMt, mDNew, mStore, mGet2, mSl, mPart, bindS_ok, bindS_ex, bindS_bad, Out.bind_ok, Out.bind_ex, Out.bind_bad, ofO_some, ofO_none, List.map_cons, List.map_nil, List.replicate, List.cons_append, List.nil_append, List.append_nil, List.getElem?_cons_zero, List.getElem?_cons_succ, List.set_cons_zero, List.set_cons_succ, List.length_cons, List.length_nil, List.length_append, List.length_map, wipeF, setAll, tgM, if_true, if_false, Bool.not_true, Bool.not_false, Nat.zero_add, reduceCtorEq, Bool.false_eq_true, oSl, std_q]
      rw [cut_from1, tupO_ok (by
        have : 1000 ≤ bigL := by decide
        rw [List.length_drop, List.length_map]
        omega)]
      rfl) (by
      rw [← ez]
      exact wk_z (std_q S2 rows) (fun _ _ z => nomatch z) (tup_q _) (fun _ _ z => nomatch z)) (by
      rw [List.length_zip]
      omega) fun x hx S4 k => by
    refine ⟨_, rfl, S4, ?_, Kp.refl _ _⟩
    rfl
  have e3 : ((rows.zip (rows.drop 1)).map fun p => W.bl (decide (p.1.1 < p.2.1))) = ((rows.zip (rows.drop 1)).map fun p => decide (p.1.1 < p.2.1)).map W.bl := by rw [List.map_map]; rfl
  rw [e3] at c3
  have t3 : ((rows.zip (rows.drop 1)).map fun p => decide (p.1.1 < p.2.1)).all id = true := all_true fun x hx => by
    obtain ⟨p, hp, e⟩ := List.mem_map.mp hx
    rw [← e]
    exact decide_eq_true (hz p hp)
  refine ⟨S3, ?_, (a2.trans b2).trans c2⟩
  have ist : tyW S (std rows) = some .tuple := rfl
  have hT : isT .tuple .tuple = true := rfl
  simp only [mFn, mCall, chk, mSeq, mRet, mRetN, mNext, mSet, mDrop, mIfS, mIf, mPar, mTg, mAug, mCB, mCons, mNil, mBin, mChain, mTest, bOf, mAndT, mOrT, mNotT, mAnd, mOr, mNot, mNeg, mVar, mC, mTup, mLst, mYes, mItQ, mItR1, mItR2, mItE, mItZ, mRaise, mIsi, mMt, mDNew, mStore, mGet2, mSl, mPart, bindS_ok, bindS_ex, bindS_bad, Out.bind_ok, Out.bind_ex, Out.bind_bad, ofO_some, ofO_none, List.map_cons, List.map_nil, List.replicate, List.cons_append, List.nil_append, List.append_nil, List.getElem?_cons_zero, List.getElem?_cons_succ, List.set_cons_zero, List.set_cons_succ, List.length_cons, List.length_nil, List.length_append, List.length_map, wipeF, setAll, tgM, if_true, if_false, Bool.not_true, Bool.not_false, Nat.zero_add, reduceCtorEq, Bool.false_eq_true, ist, hT, a1, all_bls (ref_l a3), t1, b1, all_bls (ref_l b3), t2, c1, all_bls (ref_l c3), t3]

variable {r : Rows}
theorem Ok.lt1000 (h : Ow r) : r.length < 1000 := by have := h.len; omega
theorem Ok.ltT (h : Ow r) : r.length < bigT := Nat.lt_trans (Ok.lt1000 h) (by decide)
theorem is_stand_ok (h : Ok r) : ∃ S', m_is_stand E [std r] S = .ok (.bl true) S' ∧ Kp [] S S' := by
  obtain ⟨S1, a1, a2⟩ := are_herds_std E (S := S) h.rise (fun x hx => by
    obtain ⟨p1, p2, p3, p4, _⟩ := h.each hx
    exact ⟨p1, p2, p3, p4⟩) (Ok.lt1000 h.toOw)
  obtain ⟨S2, b1, b2⟩ := all_folk_spec E (std_q S1 r) (Ok.ltT h.toOw) fun x hx => h.small hx
  refine ⟨S2, ?_, a2.trans b2⟩
  unfold m_is_stand b_is_stand
  have h1 : (1 : Int) ≤ (r.length : Nat) := by
    have := List.length_pos_iff.mpr h.ne
    omega
  have h2 : ((r.length : Nat) : Int) ≤ g_MOST_SIZES := by
    have := h.l40
    show ((r.length : Nat) : Int) ≤ 40
    omega
  have h3 : folkP r ≤ g_MOST_FOLK := h.s60
  simp only [mFn, mCall, chk, mSeq, mRet, mRetN, mNext, mSet, mDrop, mIfS, mIf, mPar, mTg, mAug, mCB, mCons, mNil, mBin, mChain, mTest, bOf, mAndT, mOrT, mNotT, mAnd, mOr, mNot, mNeg, mVar, mC, mTup, mLst, mYes, mItQ, mItR1, mItR2, mItE, mItZ, mRaise, mIsi, mMt, mDNew, mStore, mGet2, mSl, mPart, bindS_ok, bindS_ex, bindS_bad, Out.bind_ok, Out.bind_ex, Out.bind_bad, ofO_some, ofO_none, List.map_cons, List.map_nil, List.replicate, List.cons_append, List.nil_append, List.append_nil, List.getElem?_cons_zero, List.getElem?_cons_succ, List.set_cons_zero, List.set_cons_succ, List.length_cons, List.length_nil, List.length_append, List.length_map, wipeF, setAll, tgM, if_true, if_false, Bool.not_true, Bool.not_false, Nat.zero_add, reduceCtorEq, Bool.false_eq_true, a1, len_q (std_q S1 r), le_ii, decide_eq_true h1, decide_eq_true h2, b1, decide_eq_true h3]
theorem need_stand_ok (h : Ok r) : ∃ S', m_need_stand E [std r] S = .ok .non S' ∧ Kp [] S S' := by
  obtain ⟨S1, a1, a2⟩ := is_stand_ok E (S := S) h
  refine ⟨S1, ?_, a2⟩
  unfold m_need_stand b_need_stand
  simp only [mFn, mCall, chk, mSeq, mRet, mRetN, mNext, mSet, mDrop, mIfS, mIf, mPar, mTg, mAug, mCB, mCons, mNil, mBin, mChain, mTest, bOf, mAndT, mOrT, mNotT, mAnd, mOr, mNot, mNeg, mVar, mC, mTup, mLst, mYes, mItQ, mItR1, mItR2, mItE, mItZ, mRaise, mIsi, mMt, mDNew, mStore, mGet2, mSl, mPart, bindS_ok, bindS_ex, bindS_bad, Out.bind_ok, Out.bind_ex, Out.bind_bad, ofO_some, ofO_none, List.map_cons, List.map_nil, List.replicate, List.cons_append, List.nil_append, List.append_nil, List.getElem?_cons_zero, List.getElem?_cons_succ, List.set_cons_zero, List.set_cons_succ, List.length_cons, List.length_nil, List.length_append, List.length_map, wipeF, setAll, tgM, if_true, if_false, Bool.not_true, Bool.not_false, Nat.zero_add, reduceCtorEq, Bool.false_eq_true, a1]
theorem all_folk_ok (h : Ow r) : ∃ S', m_all_folk E [std r] S = .ok (.int (folkP r)) S' ∧ Kp [] S S' := all_folk_spec E (std_q S r) (Ok.ltT h) fun x hx => h.small hx
theorem joined_ok (h : Ow r) : ∃ S', m_joined E [std r] S = .ok (std (jn r)) S' ∧ Kp [] S S' := joined_spec E (std_q S r) (Ok.ltT h) fun x hx => h.small hx
theorem way_on_ok (h : Ow r) : ∃ S' n, m_way_on E [std r] S = .ok (.ref n) S' ∧ S.length ≤ n ∧ S'[n]? = some (.lst ((wayL r).map std)) ∧ Kp [] S S' := by
  unfold m_way_on b_way_on
  obtain ⟨S1, a1, a2⟩ := joined_ok E (S := S ++ [.lst [std r]]) h
  have k1 : Kp [] S S1 := (Kp.push _ _ _).trans a2
  have e1 : S1[S.length]? = some (.lst [std r]) := a2.at' _ _ (by simp) (at_new _ _)
  simp only [mFn, mCall, chk, mSeq, mRet, mRetN, mNext, mSet, mDrop, mIfS, mIf, mPar, mTg, mAug, mCB, mCons, mNil, mBin, mChain, mTest, bOf, mAndT, mOrT, mNotT, mAnd, mOr, mNot, mNeg, mVar, mC, mTup, mLst, mYes, mItQ, mItR1, mItR2, mItE, mItZ, mRaise, mIsi, mMt, mDNew, mStore, mGet2, mSl, mPart, bindS_ok, bindS_ex, bindS_bad, Out.bind_ok, Out.bind_ex, Out.bind_bad, ofO_some, ofO_none, List.map_cons, List.map_nil, List.replicate, List.cons_append, List.nil_append, List.append_nil, List.getElem?_cons_zero, List.getElem?_cons_succ, List.set_cons_zero, List.set_cons_succ, List.length_cons, List.length_nil, List.length_append, List.length_map, wipeF, setAll, tgM, if_true, if_false, Bool.not_true, Bool.not_false, Nat.zero_add, reduceCtorEq, Bool.false_eq_true, lstO_ok (show [std r].length ≤ bigL from (by decide : 1 ≤ bigL)), a1]
  have key := while_ind (P := fun o => ∃ φ' S', o = .nx φ' S' ∧ φ'[1]? = some (some (.ref S.length)) ∧ Kp [] S S' ∧ S'[S.length]? = some (.lst ((wayL r).map std)))
    (t := mTest (mBin oNe (mVar 2) (mBin oIx (mVar 1) (mNeg (mC (.int 1)))))) (b := mSeq (mDrop (mMt oAppend (mVar 1) (mCons (mVar 2) mNil))) (mSet 2 (mCall 1 (m_joined E) (mCons (mVar 2) mNil))))
    (φ := [some (std r), some (.ref S.length), some (std (jn r))]) (S := S1)
    (fun n φ S2 => ∃ (x : Rows) (l : List Rows), Ow x ∧ wayL r = l ++ wayL x ∧ l.length + mu x ≤ 60 ∧ n = mu x ∧ φ = [some (std r), some (.ref S.length), some (std (jn x))] ∧ Kp [] S S2 ∧ S2[S.length]? = some (.lst ((l ++ [x]).map std)))
    (mu r) (Nat.lt_of_le_of_lt (show mu r ≤ 51 by have := mu_le r; have := h.len; omega) (by decide)) ⟨r, [], h, rfl, by have := mu_le r; have := h.len; simp; omega, rfl, rfl, k1, e1⟩ (fun n φ S2 ⟨x, l, hx, hw, hl, hn, hφ, hk, hs⟩ => by
      subst hn hφ
      have last : L2.atI ((l ++ [x]).map std) (-1) = some (std x) := atI_last (by simp)
      refine ⟨!decide (jn x = x), S2, by simp only [mFn, mCall, chk, mSeq, mRet, mRetN, mNext, mSet, mDrop, mIfS, mIf, mPar, mTg, mAug, mCB, mCons, mNil, mBin, mChain, mTest, bOf, mAndT, mOrT, mNotT, mAnd, mOr, mNot, mNeg, mVar, mC, mTup, mLst, mYes, mItQ, mItR1, mItR2, mItE, mItZ, mRaise, mIsi, mMt, mDNew, mStore, mGet2, mSl, mPart, bindS_ok, bindS_ex, bindS_bad, Out.bind_ok, Out.bind_ex, Out.bind_bad, ofO_some, ofO_none, List.map_cons, List.map_nil, List.replicate, List.cons_append, List.nil_append, List.append_nil, List.getElem?_cons_zero, List.getElem?_cons_succ, List.set_cons_zero, List.set_cons_succ, List.length_cons, List.length_nil, List.length_append, List.length_map, wipeF, setAll, tgM, if_true, if_false, Bool.not_true, Bool.not_false, Nat.zero_add, reduceCtorEq, Bool.false_eq_true, ix_l (ref_q hs) last, ne_std], fun hb => ?_, fun hb => ?_⟩
      · have hne : jn x ≠ x := by simpa using hb
        obtain ⟨S3, c1, c2⟩ := joined_ok E (S := S2.set S.length (.lst ((l ++ [x]).map std ++ [std (jn x)]))) hx.jn
        have hlen : ((l ++ [x]).map std).length < bigL := by
          rw [List.length_map, List.length_append]
          have : 1000 ≤ bigL := by decide
          simp only [List.length_cons, List.length_nil]
          omega
        simp only [mFn, mCall, chk, mSeq, mRet, mRetN, mNext, mSet, mDrop, mIfS, mIf, mPar, mTg, mAug, mCB, mCons, mNil, mBin, mChain, mTest, bOf, mAndT, mOrT, mNotT, mAnd, mOr, mNot, mNeg, mVar, mC, mTup, mLst, mYes, mItQ, mItR1, mItR2, mItE, mItZ, mRaise, mIsi, mMt, mDNew, mStore, mGet2, mSl, mPart, bindS_ok, bindS_ex, bindS_bad, Out.bind_ok, Out.bind_ex, Out.bind_bad, ofO_some, ofO_none, List.map_cons, List.map_nil, List.replicate, List.cons_append, List.nil_append, List.append_nil, List.getElem?_cons_zero, List.getElem?_cons_succ, List.set_cons_zero, List.set_cons_succ, List.length_cons, List.length_nil, List.length_append, List.length_map, wipeF, setAll, tgM, if_true, if_false, Bool.not_true, Bool.not_false, Nat.zero_add, reduceCtorEq, Bool.false_eq_true, isLst_ref hs, app_l hs hlen, c1]
        have hmu := mu_lt hx hne
        refine ⟨mu (jn x), hmu, jn x, l ++ [x], hx.jn, ?_, ?_, rfl, rfl, ?_, ?_⟩
        · rw [hw, wayL_step hx hne, List.append_assoc]; rfl
        · rw [List.length_append]; simp only [List.length_cons, List.length_nil]; omega
        · exact (hk.fresh (Kp.set (d := [S.length]) (by simp)) fun m hm => .inr (by simp at hm; omega)).trans c2
        · refine c2.at' _ _ (by simp) ?_
          rw [set_at hs, List.map_append (l₁ := l ++ [x])]
          rfl
      · have he : jn x = x := by simpa using hb
        refine ⟨_, _, rfl, rfl, hk, ?_⟩
        rw [hw, wayL_fix he]
        exact hs)
  obtain ⟨φ', S', g1, g2, g3, g4⟩ := key
  refine ⟨S', S.length, ?_, Nat.le_refl _, g4, g3⟩
  simp only [mFn, mCall, chk, mSeq, mRet, mRetN, mNext, mSet, mDrop, mIfS, mIf, mPar, mTg, mAug, mCB, mCons, mNil, mBin, mChain, mTest, bOf, mAndT, mOrT, mNotT, mAnd, mOr, mNot, mNeg, mVar, mC, mTup, mLst, mYes, mItQ, mItR1, mItR2, mItE, mItZ, mRaise, mIsi, mMt, mDNew, mStore, mGet2, mSl, mPart, bindS_ok, bindS_ex, bindS_bad, Out.bind_ok, Out.bind_ex, Out.bind_bad, ofO_some, ofO_none, List.map_cons, List.map_nil, List.replicate, List.cons_append, List.nil_append, List.append_nil, List.getElem?_cons_zero, List.getElem?_cons_succ, List.set_cons_zero, List.set_cons_succ, List.length_cons, List.length_nil, List.length_append, List.length_map, wipeF, setAll, tgM, if_true, if_false, Bool.not_true, Bool.not_false, Nat.zero_add, reduceCtorEq, Bool.false_eq_true, g1, g2]
theorem dusk_ok (h : Ok r) : ∃ S', m_dusk E [std r] S = .ok (std (jn r)) S' ∧ Kp [] S S' := by
  obtain ⟨S1, a1, a2⟩ := need_stand_ok E (S := S) h
  obtain ⟨S2, b1, b2⟩ := joined_ok E (S := S1) h.toOw
  refine ⟨S2, ?_, a2.trans b2⟩
  unfold m_dusk b_dusk
  simp only [mFn, mCall, chk, mSeq, mRet, mRetN, mNext, mSet, mDrop, mIfS, mIf, mPar, mTg, mAug, mCB, mCons, mNil, mBin, mChain, mTest, bOf, mAndT, mOrT, mNotT, mAnd, mOr, mNot, mNeg, mVar, mC, mTup, mLst, mYes, mItQ, mItR1, mItR2, mItE, mItZ, mRaise, mIsi, mMt, mDNew, mStore, mGet2, mSl, mPart, bindS_ok, bindS_ex, bindS_bad, Out.bind_ok, Out.bind_ex, Out.bind_bad, ofO_some, ofO_none, List.map_cons, List.map_nil, List.replicate, List.cons_append, List.nil_append, List.append_nil, List.getElem?_cons_zero, List.getElem?_cons_succ, List.set_cons_zero, List.set_cons_succ, List.length_cons, List.length_nil, List.length_append, List.length_map, wipeF, setAll, tgM, if_true, if_false, Bool.not_true, Bool.not_false, Nat.zero_add, reduceCtorEq, Bool.false_eq_true, a1, b1]
theorem need_dusks_ok {n : Int} (h0 : 0 ≤ n) (h1 : n ≤ g_FAR) : m_need_dusks E [.int n] S = .ok .non S := by
  unfold m_need_dusks b_need_dusks
  simp only [mFn, mCall, chk, mSeq, mRet, mRetN, mNext, mSet, mDrop, mIfS, mIf, mPar, mTg, mAug, mCB, mCons, mNil, mBin, mChain, mTest, bOf, mAndT, mOrT, mNotT, mAnd, mOr, mNot, mNeg, mVar, mC, mTup, mLst, mYes, mItQ, mItR1, mItR2, mItE, mItZ, mRaise, mIsi, mMt, mDNew, mStore, mGet2, mSl, mPart, bindS_ok, bindS_ex, bindS_bad, Out.bind_ok, Out.bind_ex, Out.bind_bad, ofO_some, ofO_none, List.map_cons, List.map_nil, List.replicate, List.cons_append, List.nil_append, List.append_nil, List.getElem?_cons_zero, List.getElem?_cons_succ, List.set_cons_zero, List.set_cons_succ, List.length_cons, List.length_nil, List.length_append, List.length_map, wipeF, setAll, tgM, if_true, if_false, Bool.not_true, Bool.not_false, Nat.zero_add, reduceCtorEq, Bool.false_eq_true, is_from_int, decide_eq_true h0, decide_eq_true h1, Bool.and_self]
theorem behind_ok (h : Ok r) {n : Nat} (h1 : (n : Int) ≤ g_FAR) : ∃ S', m_behind E [std r, .int n] S = .ok (std (iter r n)) S' ∧ Kp [] S S' := by
  obtain ⟨S1, a1, a2⟩ := need_stand_ok E (S := S) h
  obtain ⟨S2, k, b1, b2, b3, b4⟩ := way_on_ok E (S := S1) h.toOw
  refine ⟨S2, ?_, a2.trans b4⟩
  unfold m_behind b_behind
  have hp := wayL_pos r
  have hm : min (n : Int) (((wayL r).length : Nat) - 1) = ((min n ((wayL r).length - 1) : Nat) : Int) := by omega
  have hat : L2.atI ((wayL r).map std) ((min n ((wayL r).length - 1) : Nat) : Int) = some (std (iter r n)) := atI_nat (by rw [List.getElem?_map, wayL_at h.toOw]; rfl)
  simp only [mFn, mCall, chk, mSeq, mRet, mRetN, mNext, mSet, mDrop, mIfS, mIf, mPar, mTg, mAug, mCB, mCons, mNil, mBin, mChain, mTest, bOf, mAndT, mOrT, mNotT, mAnd, mOr, mNot, mNeg, mVar, mC, mTup, mLst, mYes, mItQ, mItR1, mItR2, mItE, mItZ, mRaise, mIsi, mMt, mDNew, mStore, mGet2, mSl, mPart, bindS_ok, bindS_ex, bindS_bad, Out.bind_ok, Out.bind_ex, Out.bind_bad, ofO_some, ofO_none, List.map_cons, List.map_nil, List.replicate, List.cons_append, List.nil_append, List.append_nil, List.getElem?_cons_zero, List.getElem?_cons_succ, List.set_cons_zero, List.set_cons_succ, List.length_cons, List.length_nil, List.length_append, List.length_map, wipeF, setAll, tgM, if_true, if_false, Bool.not_true, Bool.not_false, Nat.zero_add, reduceCtorEq, Bool.false_eq_true, a1, need_dusks_ok E (show (0 : Int) ≤ n by omega) h1, b1, len_q (ref_q b3), sub_ii, min_ii, hm, ix_l (ref_q b3) hat]
end

/-! ## draws -/
section
variable (E : Nat → Addr) {S : Sto} {n t : Nat}
/-- the deck at n: its third number is at most t -/
def Deck (S : Sto) (n t : Nat) : Prop := ∃ a b c : Int, S[n]? = some (.lst [.int a, .int b, .int c]) ∧ 0 ≤ b ∧ b < 2147483648 ∧ 0 ≤ c ∧ c ≤ t
theorem Deck.keep {S' : Sto} (h : Deck S n t) (k : Kp [] S S') : Deck S' n t := by
  obtain ⟨a, b, c, e, h⟩ := h
  exact ⟨a, b, c, k.at' _ _ (by simp) e, h⟩
theorem Deck.mono {t' : Nat} (h : Deck S n t) (k : t ≤ t') : Deck S n t' := by
  obtain ⟨a, b, c, e, h1, h2, h3, h4⟩ := h
  exact ⟨a, b, c, e, h1, h2, h3, by omega⟩
theorem Deck.lt (h : Deck S n t) : n < S.length := by
  obtain ⟨a, b, c, e, h⟩ := h
  exact (List.getElem?_eq_some_iff.mp e).1
theorem deck_spec (cell : Int) (k : Nat) : ∃ S', m_l_deck E [.int cell, .int k] S = .ok (.ref S.length) S' ∧ Deck S' S.length k ∧ Kp [] S S' := by
  unfold m_l_deck b_l_deck
  have p18 : (10 : Int) ^ (18 : Int).toNat = 1000000000000000000 := by decide
  have hp : oPowI (.int 10) (.int 18) S = some (.int 1000000000000000000, S) := by rw [pow_ii (by decide) (by decide) (by decide), p18]
  have hm : oModI (.int cell) (.int 2147483579) S = some (.int (cell % 2147483579), S) := mod_ii (by decide)
  have b1 := Int.emod_nonneg cell (show (2147483579 : Int) ≠ 0 by decide)
  have b2 := Int.emod_lt_of_pos cell (show (0 : Int) < 2147483579 by decide)
  by_cases h : 1000000000000000000 ≤ cell
  · have hl := lstO_ok (S := S) (show [W.int (cell - 1000000000000000000), W.int (cell % 2147483579), W.int (k : Int)].length ≤ bigL from (by decide : 3 ≤ bigL))
    simp only [mFn, mCall, chk, mSeq, mRet, mRetN, mNext, mSet, mDrop, mIfS, mIf, mPar, mTg, mAug, mCB, mCons, mNil, mBin, mChain, mTest, bOf, mAndT, mOrT, mNotT, mAnd, mOr, mNot, mNeg, mVar, mC, mTup, mLst, mYes, mItQ, mItR1, mItR2, mItE, mItZ, mRaise, mIsi, mMt, mDNew, mStore, mGet2, mSl, mPart, bindS_ok, bindS_ex, bindS_bad, Out.bind_ok, Out.bind_ex, Out.bind_bad, ofO_some, ofO_none, List.map_cons, List.map_nil, List.replicate, List.cons_append, List.nil_append, List.append_nil, List.getElem?_cons_zero, List.getElem?_cons_succ, List.set_cons_zero, List.set_cons_succ, List.length_cons, List.length_nil, List.length_append, List.length_map, wipeF, setAll, tgM, if_true, if_false, Bool.not_true, Bool.not_false, Nat.zero_add, reduceCtorEq, Bool.false_eq_true, hp, ge_ii, decide_eq_true h, sub_ii, hm, hl]
    exact ⟨_, rfl, ⟨_, _, _, at_new _ _, b1, by omega, by omega, by omega⟩, Kp.push _ _ _⟩
  · have hl := lstO_ok (S := S) (show [W.int 0, W.int (cell % 2147483579), W.int (k : Int)].length ≤ bigL from (by decide : 3 ≤ bigL))
    simp only [mFn, mCall, chk, mSeq, mRet, mRetN, mNext, mSet, mDrop, mIfS, mIf, mPar, mTg, mAug, mCB, mCons, mNil, mBin, mChain, mTest, bOf, mAndT, mOrT, mNotT, mAnd, mOr, mNot, mNeg, mVar, mC, mTup, mLst, mYes, mItQ, mItR1, mItR2, mItE, mItZ, mRaise, mIsi, mMt, mDNew, mStore, mGet2, mSl, mPart, bindS_ok, bindS_ex, bindS_bad, Out.bind_ok, Out.bind_ex, Out.bind_bad, ofO_some, ofO_none, List.map_cons, List.map_nil, List.replicate, List.cons_append, List.nil_append, List.append_nil, List.getElem?_cons_zero, List.getElem?_cons_succ, List.set_cons_zero, List.set_cons_succ, List.length_cons, List.length_nil, List.length_append, List.length_map, wipeF, setAll, tgM, if_true, if_false, Bool.not_true, Bool.not_false, Nat.zero_add, reduceCtorEq, Bool.false_eq_true, hp, ge_ii, decide_eq_false h, hm, hl]
    exact ⟨_, rfl, ⟨_, _, _, at_new _ _, b1, by omega, by omega, by omega⟩, Kp.push _ _ _⟩
theorem set_l {m : Nat} {l : List W} {i : Nat} {y : W} (h : S[m]? = some (.lst l)) (hi : i < l.length) : oSet (.ref m) (.int (i : Int)) y S = some (S.set m (.lst (l.set i y))) := by
  unfold oSet oSetL
  simp only [h, ixN_nat hi]
theorem ix3 {m : Nat} {a b c : W} (h : S[m]? = some (.lst [a, b, c])) : oIx (.ref m) (.int 0) S = some (a, S) ∧ oIx (.ref m) (.int 1) S = some (b, S) ∧ oIx (.ref m) (.int 2) S = some (c, S) :=
  ⟨ix_l (ref_q h) (atI_nat (i := 0) rfl), ix_l (ref_q h) (atI_nat (i := 1) rfl), ix_l (ref_q h) (atI_nat (i := 2) rfl)⟩
theorem mul_lt_64 {b c : Int} (h0 : 0 ≤ b) (h1 : b < 2147483648) (h2 : 0 ≤ c) (h3 : c ≤ 4294967296) : (b + 15485867 * c).natAbs < 2 ^ 64 := by omega
theorem pick_spec (h : Deck S n t) (ht : t < 4294967296) {size : Int} (hs : 0 < size) (hs2 : size ≤ 10 ^ 200) : ∃ S' r, m_l_pick E [.ref n, .int size] S = .ok (.int r) S' ∧ 0 ≤ r ∧ r < size ∧ Deck S' n (t + 1) ∧ Kp [n] S S' := by
  obtain ⟨a, b, c, e, b0, b1, c0, c1⟩ := h
  have sm : smallN size = true := small_of (by omega) hs2
  obtain ⟨i0, i1, i2⟩ := ix3 e
  have hi1 : ∀ (x : Int) (S : Sto), oInt1 [.int x] S = some (.int x, S) := fun _ _ => rfl
  unfold m_l_pick b_l_pick
  by_cases ha : 1 < a
  · have m1 : oModI (.int a) (.int size) S = some (.int (a % size), S) := mod_ii hs
    have d1 : oDivI (.int a) (.int size) S = some (.int (a / size), S) := div_ii hs sm
    have st : oSet (.ref n) (.int 0) (.int (a / size)) S = some (S.set n (.lst [.int (a / size), .int b, .int c])) := set_l (i := 0) (y := .int (a / size)) e (by simp)
    simp only [mFn, mCall, chk, mSeq, mRet, mRetN, mNext, mSet, mDrop, mIfS, mIf, mPar, mTg, mAug, mCB, mCons, mNil, mBin, mChain, mTest, bOf, mAndT, mOrT, mNotT, mAnd, mOr, mNot, mNeg, mVar, mC, mTup, mLst, mYes, mItQ, mItR1, mItR2, mItE, mItZ, mRaise, mIsi, mMt, mDNew, mStore, mGet2, mSl, mPart, bindS_ok, bindS_ex, bindS_bad, Out.bind_ok, Out.bind_ex, Out.bind_bad, ofO_some, ofO_none, List.map_cons, List.map_nil, List.replicate, List.cons_append, List.nil_append, List.append_nil, List.getElem?_cons_zero, List.getElem?_cons_succ, List.set_cons_zero, List.set_cons_succ, List.length_cons, List.length_nil, List.length_append, List.length_map, wipeF, setAll, tgM, if_true, if_false, Bool.not_true, Bool.not_false, Nat.zero_add, reduceCtorEq, Bool.false_eq_true, i0, gt_ii, decide_eq_true ha, hi1, m1, d1, st]
    refine ⟨_, _, rfl, Int.emod_nonneg _ (by omega), Int.emod_lt_of_pos _ hs, ⟨a / size, b, c, set_at e, b0, b1, c0, by omega⟩, Kp.set (by simp)⟩
  · have st := set_l (i := 2) (y := .int (c + 1)) e (by simp)
    have st' : oSet (.ref n) (.int 2) (.int (c + 1)) S = some (S.set n (.lst [.int a, .int b, .int (c + 1)])) := st
    have e2 : (S.set n (.lst [.int a, .int b, .int (c + 1)]))[n]? = some (.lst [.int a, .int b, .int (c + 1)]) := set_at e
    obtain ⟨j0, j1, j2⟩ := ix3 e2
    generalize hS2 : S.set n (.lst [.int a, .int b, .int (c + 1)]) = S2 at *
    have mu1 : oMul (.int 15485867) (.int (c + 1)) S2 = some (.int (15485867 * (c + 1)), S2) := mul_ii (by decide) (small_of (by omega) (by omega))
    have pw1 : oPowI (.int (b + 15485867 * (c + 1))) (.int 5) S2 = some (.int ((b + 15485867 * (c + 1)) ^ 5), S2) := pow_ii (by decide) (by decide) (mul_lt_64 b0 b1 (by omega) (by omega))
    have md1 : ∀ x : Int, oModI (.int x) (.int 2147483647) S2 = some (.int (x % 2147483647), S2) := fun x => mod_ii (by decide)
    have n0 := Int.emod_nonneg ((b + 15485867 * (c + 1)) ^ 5) (show (2147483647 : Int) ≠ 0 by decide)
    have n1 := Int.emod_lt_of_pos ((b + 15485867 * (c + 1)) ^ 5) (show (0 : Int) < 2147483647 by decide)
    generalize hx : (b + 15485867 * (c + 1)) ^ 5 % 2147483647 = x at *
    have mu2 : oMul (.int 7919) (.int (c + 1)) S2 = some (.int (7919 * (c + 1)), S2) := mul_ii (by decide) (small_of (by omega) (by omega))
    have pw2 : oPowI (.int (x + 7919 * (c + 1))) (.int 3) S2 = some (.int ((x + 7919 * (c + 1)) ^ 3), S2) := pow_ii (by decide) (by decide) (by omega)
    have md2 : ∀ x : Int, oModI (.int x) (.int 2147483629) S2 = some (.int (x % 2147483629), S2) := fun x => mod_ii (by decide)
    have dv2 : ∀ x : Int, oDivI (.int x) (.int 32) S2 = some (.int (x / 32), S2) := fun x => div_ii (by decide) (by decide)
    have md3 : ∀ x : Int, oModI (.int x) (.int size) S2 = some (.int (x % size), S2) := fun x => mod_ii hs
    simp only [mFn, mCall, chk, mSeq, mRet, mRetN, mNext, mSet, mDrop, mIfS, mIf, mPar, mTg, mAug, mCB, mCons, mNil, mBin, mChain, mTest, bOf, mAndT, mOrT, mNotT, mAnd, mOr, mNot, mNeg, mVar, mC, mTup, mLst, mYes, mItQ, mItR1, mItR2, mItE, mItZ, mRaise, mIsi, mMt, mDNew, mStore, mGet2, mSl, mPart, bindS_ok, bindS_ex, bindS_bad, Out.bind_ok, Out.bind_ex, Out.bind_bad, ofO_some, ofO_none, List.map_cons, List.map_nil, List.replicate, List.cons_append, List.nil_append, List.append_nil, List.getElem?_cons_zero, List.getElem?_cons_succ, List.set_cons_zero, List.set_cons_succ, List.length_cons, List.length_nil, List.length_append, List.length_map, wipeF, setAll, tgM, if_true, if_false, Bool.not_true, Bool.not_false, Nat.zero_add, reduceCtorEq, Bool.false_eq_true, i0, i2, gt_ii, decide_eq_false ha, add_ii, st', j1, j2, mu1, pw1, md1, hx, mu2, pw2, md2, dv2, hi1, md3]
    refine ⟨_, _, rfl, Int.emod_nonneg _ (by omega), Int.emod_lt_of_pos _ hs, ⟨a, b, c + 1, e2, b0, b1, by omega, by omega⟩, ?_⟩
    rw [← hS2]
    exact Kp.set (by simp)
theorem one_spec (h : Deck S n t) (ht : t < 4294967296) {x : W} {k : Bool} {l : List W} (hq : asQ S x = some (k, l)) (hd : x ≠ .ref n) (hl : l ≠ []) (hl2 : l.length ≤ bigL) : ∃ S' y, m_l_one E [.ref n, x] S = .ok y S' ∧ y ∈ l ∧ Deck S' n (t + 1) ∧ Kp [n] S S' := by
  have hp : 0 < l.length := List.length_pos_iff.mpr hl
  obtain ⟨S1, r, a1, a2, a3, a4, a5⟩ := pick_spec E h ht (size := (l.length : Nat)) (by omega) (by
    have : (bigL : Int) ≤ 10 ^ 200 := by decide
    omega)
  have hr : r.toNat < l.length := by omega
  have hat : L2.atI l r = some l[r.toNat] := by
    have := atI_nat (List.getElem?_eq_getElem hr)
    rwa [Int.toNat_of_nonneg a2] at this
  have hq1 : asQ S1 x = some (k, l) := a5.q hq fun m e => by
    intro z
    have : m = n := by simpa using z
    subst this
    exact hd e
  refine ⟨S1, l[r.toNat], ?_, List.getElem_mem hr, a4, a5⟩
  unfold m_l_one b_l_one
  simp only [mFn, mCall, chk, mSeq, mRet, mRetN, mNext, mSet, mDrop, mIfS, mIf, mPar, mTg, mAug, mCB, mCons, mNil, mBin, mChain, mTest, bOf, mAndT, mOrT, mNotT, mAnd, mOr, mNot, mNeg, mVar, mC, mTup, mLst, mYes, mItQ, mItR1, mItR2, mItE, mItZ, mRaise, mIsi, mMt, mDNew, mStore, mGet2, mSl, mPart, bindS_ok, bindS_ex, bindS_bad, Out.bind_ok, Out.bind_ex, Out.bind_bad, ofO_some, ofO_none, List.map_cons, List.map_nil, List.replicate, List.cons_append, List.nil_append, List.append_nil, List.getElem?_cons_zero, List.getElem?_cons_succ, List.set_cons_zero, List.set_cons_succ, List.length_cons, List.length_nil, List.length_append, List.length_map, wipeF, setAll, tgM, if_true, if_false, Bool.not_true, Bool.not_false, Nat.zero_add, reduceCtorEq, Bool.false_eq_true, len_q hq, a1, ix_l hq1 hat]
end

/-! ## whether a thing is as due -/
/-- alike in kinds too, to a depth -/
inductive Eqd (S : Sto) : Nat → W → W → Prop
  | non {n : Nat} : Eqd S (n + 1) .non .non
  | bl {n : Nat} (k : Bool) : Eqd S (n + 1) (.bl k) (.bl k)
  | int {n : Nat} (i : Int) : Eqd S (n + 1) (.int i) (.int i)
  | str {n : Nat} (x : Str) (h : (PyData.str x).canLay0 = true) : Eqd S (n + 1) (.str x) (.str x)
  | tup {n : Nat} {l m : List W} : l.length < bigT → l.length = m.length → (∀ (i : Nat) (x y : W), l[i]? = some x → m[i]? = some y → Eqd S n x y) → Eqd S (n + 1) (.tup l) (.tup m)
  | lst {n a b : Nat} {l m : List W} : S[a]? = some (.lst l) → S[b]? = some (.lst m) → l.length < bigT → l.length = m.length → (∀ (i : Nat) (x y : W), l[i]? = some x → m[i]? = some y → Eqd S n x y) → Eqd S (n + 1) (.ref a) (.ref b)
theorem Eqd.keep {S S' : Sto} (k : Kp [] S S') {n : Nat} {x y : W} (h : Eqd S n x y) : Eqd S' n x y := by
  induction h with
  | non => exact .non
  | bl k => exact .bl k
  | int i => exact .int i
  | str x h => exact .str x h
  | tup a b _ ih => exact .tup a b ih
  | lst a b c d _ ih => exact .lst (k.at' _ _ (by simp) a) (k.at' _ _ (by simp) b) c d ih
theorem Eqd.more {S : Sto} {n : Nat} {x y : W} (h : Eqd S n x y) : ∀ {m : Nat}, n ≤ m → Eqd S m x y := by
  induction h with
  | non => intro m hm; obtain ⟨k, rfl⟩ : ∃ k, m = k + 1 := ⟨m - 1, by omega⟩; exact .non
  | bl k => intro m hm; obtain ⟨k, rfl⟩ : ∃ k, m = k + 1 := ⟨m - 1, by omega⟩; exact .bl _
  | int i => intro m hm; obtain ⟨k, rfl⟩ : ∃ k, m = k + 1 := ⟨m - 1, by omega⟩; exact .int i
  | str x h => intro m hm; obtain ⟨k, rfl⟩ : ∃ k, m = k + 1 := ⟨m - 1, by omega⟩; exact .str x h
  | tup a b _ ih => intro m hm; obtain ⟨k, rfl⟩ : ∃ k, m = k + 1 := ⟨m - 1, by omega⟩; exact .tup a b fun i x y h1 h2 => ih i x y h1 h2 (by omega)
  | lst a b c d _ ih => intro m hm; obtain ⟨k, rfl⟩ : ∃ k, m = k + 1 := ⟨m - 1, by omega⟩; exact .lst a b c d fun i x y h1 h2 => ih i x y h1 h2 (by omega)
theorem Eqd.std (S : Sto) {r : Rows} (h : r.length < bigT) : Eqd S 3 (std r) (std r) := by
  refine .tup (by rw [List.length_map]; exact h) rfl fun i x y h1 h2 => ?_
  rw [h1] at h2
  cases h2
  rw [List.getElem?_map] at h1
  obtain ⟨p, _, rfl⟩ := Option.map_eq_some_iff.mp h1
  refine .tup (show 2 < bigT by decide) rfl fun j x y h3 h4 => ?_
  rw [h3] at h4
  cases h4
  cases j with
  | zero => cases h3; exact .int _
  | succ j =>
    cases j with
    | zero => cases h3; exact .int _
    | succ j => simp at h3
section
variable (E : Nat → Addr)
theorem sort_spec (S : Sto) {w : W} {t : Ty} (h : tyW S w = some t) (hd : t ≠ .dict) : m_l_sort E [w] S = .ok (.int (match t with | .bool => 1 | .int => 2 | .str => 3 | .list => 4 | .tuple => 5 | _ => 6)) S := by
  unfold m_l_sort b_l_sort
  cases t <;> simp only [mFn, mCall, chk, mSeq, mRet, mRetN, mNext, mSet, mDrop, mIfS, mIf, mPar, mTg, mAug, mCB, mCons, mNil, mBin, mChain, mTest, bOf, mAndT, mOrT, mNotT, mAnd, mOr, mNot, mNeg, mVar, mC, mTup, mLst, mYes, mItQ, mItR1, mItR2, mItE, mItZ, mRaise, mIsi, mMt, mDNew, mStore, mGet2, mSl, mPart, bindS_ok, bindS_ex, bindS_bad, Out.bind_ok, Out.bind_ex, Out.bind_bad, ofO_some, ofO_none, List.map_cons, List.map_nil, List.replicate, List.cons_append, List.nil_append, List.append_nil, List.getElem?_cons_zero, List.getElem?_cons_succ, List.set_cons_zero, List.set_cons_succ, List.length_cons, List.length_nil, List.length_append, List.length_map, wipeF, setAll, tgM, if_true, if_false, Bool.not_true, Bool.not_false, Nat.zero_add, reduceCtorEq, Bool.false_eq_true, h, isT, decide_false, decide_true, Bool.false_and, Bool.and_false, Bool.or_false, Bool.true_or, Bool.or_true, Bool.and_self, Bool.or_self, Bool.true_and, Bool.and_true]
theorem lay_flat (S : Sto) {w : W} {d : PyData} (h : toD S 40 w = some d) (hl : d.canLay0 = true ∧ d.depth ≤ 0) : oEq w w S = some (.bl true, S) := by
  unfold oEq
  rw [dat_of_toD h (shaped_of hl (by decide))]
  dsimp only
  rw [eqv_refl d hl.1]
theorem same_seq {S : Sto} {n : Nat} {x y : W} {t : Ty} {k k' : Bool} {l m : List W} (hx : tyW S x = some t) (hy : tyW S y = some t) (ht : t = .list ∨ t = .tuple) (qx : asQ S x = some (k, l)) (qy : asQ S y = some (k', m)) (hl : l.length < bigT) (he : l.length = m.length)
    (ih : ∀ S2, Kp [] S S2 → ∀ (i : Nat) (x y : W), l[i]? = some x → m[i]? = some y → ∃ S3, m_l_same E n [x, y] S2 = .ok (.bl true) S3 ∧ Kp [] S2 S3) : ∃ S', m_l_same E (n + 1) [x, y] S = .ok (.bl true) S' ∧ Kp [] S S' := by
  have hd : t ≠ .dict := by rcases ht with h | h <;> subst h <;> decide
  obtain ⟨S1, a1, a2, a3⟩ := comp_grow (own := [2, 3]) (T := .many [2, 3]) (c := mNotT (mTest (mCall 2 (m_l_same E n) (mCons (mVar 3) (mCons (mBin oIx (mVar 1) (mVar 2)) mNil))))) (f := mVar 2) (φ := [some x, some y, none, none]) (it := mItE (mCons (mVar 0) mNil)) (S := S) (S1 := S) (m := itE x)
    (fun p : W × Nat => W.tuw [.int (p.2 : Nat), p.1]) l.zipIdx (fun _ => false) (fun p => .int (p.2 : Nat)) (by simp only [mFn, mCall, chk, mSeq, mRet, mRetN, mNext, mSet, mDrop, mIfS, mIf, mPar, mTg, mAug, mCB, mCons, mNil, mBin, mChain, mTest, bOf, mAndT, mOrT, mNotT, mAnd, mOr, mNot, mNeg, mVar, mC, mTup, mLst, mYes, mItQ, mItR1, mItR2, mItE, mItZ, mRaise, mIsi, mMt, mDNew, mStore, mGet2, mSl, mPart, bindS_ok, bindS_ex, bindS_bad, Out.bind_ok, Out.bind_ex, Out.bind_bad, ofO_some, ofO_none, List.map_cons, List.map_nil, List.replicate, List.cons_append, List.nil_append, List.append_nil, List.getElem?_cons_zero, List.getElem?_cons_succ, List.set_cons_zero, List.set_cons_succ, List.length_cons, List.length_nil, List.length_append, List.length_map, wipeF, setAll, tgM, if_true, if_false, Bool.not_true, Bool.not_false, Nat.zero_add, reduceCtorEq, Bool.false_eq_true, qx]) (wk_e qx fun _ _ z => nomatch z) (by rw [List.length_zipIdx]; exact hl) (fun p hp S2 k2 => by
      obtain ⟨z, i⟩ := p
      have hi := List.mk_mem_zipIdx_iff_getElem?.mp hp
      obtain ⟨hil, _⟩ := List.getElem?_eq_some_iff.mp hi
      have hm : m[i]? = some m[i] := List.getElem?_eq_getElem (by omega)
      obtain ⟨S3, b1, b2⟩ := ih S2 k2 i z m[i] hi hm
      refine ⟨_, rfl, S3, ?_, b2, fun h => by cases h⟩
      simp only [mFn, mCall, chk, mSeq, mRet, mRetN, mNext, mSet, mDrop, mIfS, mIf, mPar, mTg, mAug, mCB, mCons, mNil, mBin, mChain, mTest, bOf, mAndT, mOrT, mNotT, mAnd, mOr, mNot, mNeg, mVar, mC, mTup, mLst, mYes, mItQ, mItR1, mItR2, mItE, mItZ, mRaise, mIsi, mMt, mDNew, mStore, mGet2, mSl, mPart, bindS_ok, bindS_ex, bindS_bad, Out.bind_ok, Out.bind_ex, Out.bind_bad, ofO_some, ofO_none, List.map_cons, List.map_nil, List.replicate, List.cons_append, List.nil_append, List.append_nil, List.getElem?_cons_zero, List.getElem?_cons_succ, List.set_cons_zero, List.set_cons_succ, List.length_cons, List.length_nil, List.length_append, List.length_map, wipeF, setAll, tgM, if_true, if_false, Bool.not_true, Bool.not_false, Nat.zero_add, reduceCtorEq, Bool.false_eq_true, ix_l (k2.qn qy) (atI_nat hm), b1])
  have fe : (l.zipIdx.filter fun _ => false) = [] := List.filter_eq_nil_iff.mpr (by simp)
  rw [fe, List.map_nil] at a3
  refine ⟨S1 ++ [.lst []], ?_, a2.trans (Kp.push _ _ _)⟩
  have e1 := sort_spec E S hx hd
  have e2 := sort_spec E S hy hd
  have hne : ∀ (c : Int) (S : Sto), oNe (.int c) (.int c) S = some (.bl false, S) := fun c S => by rw [ne_ii, decide_eq_true rfl]; rfl
  have hl0 : lstO [] S1 = some (.ref S1.length, S1 ++ [.lst []]) := lstO_ok (by decide)
  have f1 : (S1 ++ [Ob.lst []])[S.length]? = some (.lst []) := (Kp.push [] S1 _).at' _ _ (by simp) a3
  have f2 : (S1 ++ [Ob.lst []])[S1.length]? = some (.lst []) := at_new _ _
  have he0 : oEq (.ref S.length) (.ref S1.length) (S1 ++ [.lst []]) = some (.bl true, S1 ++ [.lst []]) := by
    have d1 : ∀ j, (S1 ++ [Ob.lst []])[j]? = some (.lst []) → dat (S1 ++ [.lst []]) (.ref j) = some (.list []) := fun j hj => dat_of_toD (by simp only [toD, hj]; rfl) (by decide)
    unfold oEq
    rw [d1 _ f1, d1 _ f2]
    rfl
  show mFn 2 (b_l_same E (m_l_same E n)) [x, y] S = _
  unfold b_l_same
  rcases ht with h | h
  · subst h
    simp only [mFn, mCall, chk, mSeq, mRet, mRetN, mNext, mSet, mDrop, mIfS, mIf, mPar, mTg, mAug, mCB, mCons, mNil, mBin, mChain, mTest, bOf, mAndT, mOrT, mNotT, mAnd, mOr, mNot, mNeg, mVar, mC, mTup, mLst, mYes, mItQ, mItR1, mItR2, mItE, mItZ, mRaise, mIsi, mMt, mDNew, mStore, mGet2, mSl, mPart, bindS_ok, bindS_ex, bindS_bad, Out.bind_ok, Out.bind_ex, Out.bind_bad, ofO_some, ofO_none, List.map_cons, List.map_nil, List.replicate, List.cons_append, List.nil_append, List.append_nil, List.getElem?_cons_zero, List.getElem?_cons_succ, List.set_cons_zero, List.set_cons_succ, List.length_cons, List.length_nil, List.length_append, List.length_map, wipeF, setAll, tgM, if_true, if_false, Bool.not_true, Bool.not_false, Nat.zero_add, reduceCtorEq, Bool.false_eq_true, e1, e2, hne, gt_ii, lt_ii, len_q qx, len_q qy, he, a1, hl0, he0, show decide ((3 : Int) < 4) = true from rfl, show decide ((4 : Int) < 6) = true from rfl]
  · subst h
    simp only [mFn, mCall, chk, mSeq, mRet, mRetN, mNext, mSet, mDrop, mIfS, mIf, mPar, mTg, mAug, mCB, mCons, mNil, mBin, mChain, mTest, bOf, mAndT, mOrT, mNotT, mAnd, mOr, mNot, mNeg, mVar, mC, mTup, mLst, mYes, mItQ, mItR1, mItR2, mItE, mItZ, mRaise, mIsi, mMt, mDNew, mStore, mGet2, mSl, mPart, bindS_ok, bindS_ex, bindS_bad, Out.bind_ok, Out.bind_ex, Out.bind_bad, ofO_some, ofO_none, List.map_cons, List.map_nil, List.replicate, List.cons_append, List.nil_append, List.append_nil, List.getElem?_cons_zero, List.getElem?_cons_succ, List.set_cons_zero, List.set_cons_succ, List.length_cons, List.length_nil, List.length_append, List.length_map, wipeF, setAll, tgM, if_true, if_false, Bool.not_true, Bool.not_false, Nat.zero_add, reduceCtorEq, Bool.false_eq_true, e1, e2, hne, gt_ii, lt_ii, len_q qx, len_q qy, he, a1, hl0, he0, show decide ((3 : Int) < 5) = true from rfl, show decide ((5 : Int) < 6) = true from rfl]
theorem same_spec : ∀ (n : Nat) (S : Sto) (x y : W), Eqd S n x y → ∃ S', m_l_same E n [x, y] S = .ok (.bl true) S' ∧ Kp [] S S'
  | 0, S, x, y, h => nomatch h
  | n + 1, S, x, y, h => by
    have hne : ∀ (c : Int) (S : Sto), oNe (.int c) (.int c) S = some (.bl false, S) := fun c S => by rw [ne_ii, decide_eq_true rfl]; rfl
    cases h with
    | non =>
      refine ⟨S, ?_, Kp.refl _ _⟩
      show mFn 2 (b_l_same E (m_l_same E n)) [.non, .non] S = _
      unfold b_l_same
      simp only [mFn, mCall, chk, mSeq, mRet, mRetN, mNext, mSet, mDrop, mIfS, mIf, mPar, mTg, mAug, mCB, mCons, mNil, mBin, mChain, mTest, bOf, mAndT, mOrT, mNotT, mAnd, mOr, mNot, mNeg, mVar, mC, mTup, mLst, mYes, mItQ, mItR1, mItR2, mItE, mItZ, mRaise, mIsi, mMt, mDNew, mStore, mGet2, mSl, mPart, bindS_ok, bindS_ex, bindS_bad, Out.bind_ok, Out.bind_ex, Out.bind_bad, ofO_some, ofO_none, List.map_cons, List.map_nil, List.replicate, List.cons_append, List.nil_append, List.append_nil, List.getElem?_cons_zero, List.getElem?_cons_succ, List.set_cons_zero, List.set_cons_succ, List.length_cons, List.length_nil, List.length_append, List.length_map, wipeF, setAll, tgM, if_true, if_false, Bool.not_true, Bool.not_false, Nat.zero_add, reduceCtorEq, Bool.false_eq_true, sort_spec E S (w := .non) (t := .non) rfl (by decide), hne, gt_ii, lt_ii, show decide ((3 : Int) < 6) = true from rfl, show decide ((6 : Int) < 6) = false from rfl, lay_flat S (w := .non) (d := .none) rfl (by decide)]
    | bl k =>
      refine ⟨S, ?_, Kp.refl _ _⟩
      show mFn 2 (b_l_same E (m_l_same E n)) [.bl k, .bl k] S = _
      unfold b_l_same
      simp only [mFn, mCall, chk, mSeq, mRet, mRetN, mNext, mSet, mDrop, mIfS, mIf, mPar, mTg, mAug, mCB, mCons, mNil, mBin, mChain, mTest, bOf, mAndT, mOrT, mNotT, mAnd, mOr, mNot, mNeg, mVar, mC, mTup, mLst, mYes, mItQ, mItR1, mItR2, mItE, mItZ, mRaise, mIsi, mMt, mDNew, mStore, mGet2, mSl, mPart, bindS_ok, bindS_ex, bindS_bad, Out.bind_ok, Out.bind_ex, Out.bind_bad, ofO_some, ofO_none, List.map_cons, List.map_nil, List.replicate, List.cons_append, List.nil_append, List.append_nil, List.getElem?_cons_zero, List.getElem?_cons_succ, List.set_cons_zero, List.set_cons_succ, List.length_cons, List.length_nil, List.length_append, List.length_map, wipeF, setAll, tgM, if_true, if_false, Bool.not_true, Bool.not_false, Nat.zero_add, reduceCtorEq, Bool.false_eq_true, sort_spec E S (w := .bl k) (t := .bool) rfl (by decide), hne, gt_ii, lt_ii, show decide ((3 : Int) < 1) = false from rfl, lay_flat S (w := .bl k) (d := .bool k) rfl (by simp [PyData.canLay0, PyData.depth])]
    | int i =>
      refine ⟨S, ?_, Kp.refl _ _⟩
      show mFn 2 (b_l_same E (m_l_same E n)) [.int i, .int i] S = _
      unfold b_l_same
      simp only [mFn, mCall, chk, mSeq, mRet, mRetN, mNext, mSet, mDrop, mIfS, mIf, mPar, mTg, mAug, mCB, mCons, mNil, mBin, mChain, mTest, bOf, mAndT, mOrT, mNotT, mAnd, mOr, mNot, mNeg, mVar, mC, mTup, mLst, mYes, mItQ, mItR1, mItR2, mItE, mItZ, mRaise, mIsi, mMt, mDNew, mStore, mGet2, mSl, mPart, bindS_ok, bindS_ex, bindS_bad, Out.bind_ok, Out.bind_ex, Out.bind_bad, ofO_some, ofO_none, List.map_cons, List.map_nil, List.replicate, List.cons_append, List.nil_append, List.append_nil, List.getElem?_cons_zero, List.getElem?_cons_succ, List.set_cons_zero, List.set_cons_succ, List.length_cons, List.length_nil, List.length_append, List.length_map, wipeF, setAll, tgM, if_true, if_false, Bool.not_true, Bool.not_false, Nat.zero_add, reduceCtorEq, Bool.false_eq_true, sort_spec E S (w := .int i) (t := .int) rfl (by decide), hne, gt_ii, lt_ii, show decide ((3 : Int) < 2) = false from rfl, lay_flat S (w := .int i) (d := .int i) rfl (by simp [PyData.canLay0, PyData.depth])]
    | str z hz =>
      refine ⟨S, ?_, Kp.refl _ _⟩
      show mFn 2 (b_l_same E (m_l_same E n)) [.str z, .str z] S = _
      unfold b_l_same
      simp only [mFn, mCall, chk, mSeq, mRet, mRetN, mNext, mSet, mDrop, mIfS, mIf, mPar, mTg, mAug, mCB, mCons, mNil, mBin, mChain, mTest, bOf, mAndT, mOrT, mNotT, mAnd, mOr, mNot, mNeg, mVar, mC, mTup, mLst, mYes, mItQ, mItR1, mItR2, mItE, mItZ, mRaise, mIsi, mMt, mDNew, mStore, mGet2, mSl, mPart, bindS_ok, bindS_ex, bindS_bad, Out.bind_ok, Out.bind_ex, Out.bind_bad, ofO_some, ofO_none, List.map_cons, List.map_nil, List.replicate, List.cons_append, List.nil_append, List.append_nil, List.getElem?_cons_zero, List.getElem?_cons_succ, List.set_cons_zero, List.set_cons_succ, List.length_cons, List.length_nil, List.length_append, List.length_map, wipeF, setAll, tgM, if_true, if_false, Bool.not_true, Bool.not_false, Nat.zero_add, reduceCtorEq, Bool.false_eq_true, sort_spec E S (w := .str z) (t := .str) rfl (by decide), hne, gt_ii, lt_ii, show decide ((3 : Int) < 3) = false from rfl, lay_flat S (w := .str z) (d := .str z) rfl ⟨hz, by simp [PyData.depth]⟩]
    | tup hl he ih => exact same_seq E (t := .tuple) rfl rfl (.inr rfl) (tup_q _) (tup_q _) hl he fun S2 k i x y h1 h2 => same_spec n S2 x y ((ih i x y h1 h2).keep k)
    | lst ha hb hl he ih => exact same_seq E (t := .list) (by simp only [tyW, ha]) (by simp only [tyW, hb]) (.inl rfl) (ref_q ha) (ref_q hb) hl he fun S2 k i x y h1 h2 => same_spec n S2 x y ((ih i x y h1 h2).keep k)
end

/-! ## the law's own stands -/
section
variable (E : Nat → Addr)
def ones (l : List Int) : Rows := l.map fun s => (s, 1)
theorem l_gathered_spec {S : Sto} {w : W} {b : Bool} {sz : List Int} (hq : asQ S w = some (b, sz.map W.int)) (hl : sz.length < bigL) : ∃ S', m_l_gathered E [w] S = .ok (std (gath (ones sz))) S' ∧ Kp [] S S' := by
  have hlT : sz.length < bigT := hl
  unfold m_l_gathered b_l_gathered
  simp only [mFn, mCall, chk, mSeq, mRet, mRetN, mNext, mSet, mDrop, mIfS, mIf, mPar, mTg, mAug, mCB, mCons, mNil, mBin, mChain, mTest, bOf, mAndT, mOrT, mNotT, mAnd, mOr, mNot, mNeg, mVar, mC, mTup, mLst, mYes, mItQ, mItR1, mItR2, mItE, mItZ, mRaise, mIsi, mMt, mDNew, mStore, mGet2, mSl, mPart, bindS_ok, bindS_ex, bindS_bad, Out.bind_ok, Out.bind_ex, Out.bind_bad, ofO_some, ofO_none, List.map_cons, List.map_nil, List.replicate, List.cons_append, List.nil_append, List.append_nil, List.getElem?_cons_zero, List.getElem?_cons_succ, List.set_cons_zero, List.set_cons_succ, List.length_cons, List.length_nil, List.length_append, List.length_map, wipeF, setAll, tgM, if_true, if_false, Bool.not_true, Bool.not_false, Nat.zero_add, reduceCtorEq, Bool.false_eq_true]
  have k0 : Kp [] S (S ++ [.dic []]) := Kp.push _ _ _
  have q0 := k0.qn hq
  have key := for_ind (P := fun o => ∃ φ' S', o = .nx φ' S' ∧ φ'[1]? = some (some (.ref S.length)) ∧ Kp [] S S' ∧ S'[S.length]? = some (.dic (enc2 (tally (ones sz)))))
    (it := mItQ (mVar 0)) (T := .one 2) (φ := [some w, some (.ref S.length), none]) (S := S ++ [.dic []]) (l := sz.map W.int) (d := [S.length]) (b := mStore (mVar 1) (mVar 2) (mBin oAdd (mGet2 (mVar 1) (mVar 2) (mC (.int 0))) (mC (.int 1))))
    (fun i φ S1 => (∃ o2, φ = [some w, some (.ref S.length), o2]) ∧ Kp [S.length] (S ++ [.dic []]) S1 ∧ S1[S.length]? = some (.dic (enc2 (tally (ones (sz.take i))))))
    (by simp only [mFn, mCall, chk, mSeq, mRet, mRetN, mNext, mSet, mDrop, mIfS, mIf, mPar, mTg, mAug, mCB, mCons, mNil, mBin, mChain, mTest, bOf, mAndT, mOrT, mNotT, mAnd, mOr, mNot, mNeg, mVar, mC, mTup, mLst, mYes, mItQ, mItR1, mItR2, mItE, mItZ, mRaise, mIsi, mMt, mDNew, mStore, mGet2, mSl, mPart, bindS_ok, bindS_ex, bindS_bad, Out.bind_ok, Out.bind_ex, Out.bind_bad, ofO_some, ofO_none, List.map_cons, List.map_nil, List.replicate, List.cons_append, List.nil_append, List.append_nil, List.getElem?_cons_zero, List.getElem?_cons_succ, List.set_cons_zero, List.set_cons_succ, List.length_cons, List.length_nil, List.length_append, List.length_map, wipeF, setAll, tgM, if_true, if_false, Bool.not_true, Bool.not_false, Nat.zero_add, reduceCtorEq, Bool.false_eq_true, q0]) (wk_l q0 fun n e hn => by
      subst e
      have : n = S.length := by simpa using hn
      subst this
      simp [asQ, asL] at q0) (by rw [List.length_map]; exact hlT) ⟨⟨none, rfl⟩, Kp.refl _ _, by simp [tally, enc2, ones]⟩ (fun i φ S1 h => h.2.1) (fun i x φ S1 e h => ?_) (fun φ S1 h => ?_)
  · obtain ⟨φ', S', e1, e2, e3, e4⟩ := key
    simp only [e1]
    have hlt : (tally (ones sz)).length ≤ bigL := by
      have := (tally_ok (ones sz)).len
      unfold ones at this
      rw [List.length_map] at this
      exact Nat.le_trans this (Nat.le_of_lt hl)
    have ev1 := sortI_ev (f := mVar 1) (φ := φ') (S0 := S') (by unfold mVar; rw [e2]) e4 hlt
    have ev2 := tuple_q (ref_q (at_new S' (Ob.lst (((tally (ones sz)).mergeSort le2).map tp)))) (by rw [List.length_map, List.length_mergeSort]; exact hlt)
    simp only [mFn, mCall, chk, mSeq, mRet, mRetN, mNext, mSet, mDrop, mIfS, mIf, mPar, mTg, mAug, mCB, mCons, mNil, mBin, mChain, mTest, bOf, mAndT, mOrT, mNotT, mAnd, mOr, mNot, mNeg, mVar, mC, mTup, mLst, mYes, mItQ, mItR1, mItR2, mItE, mItZ, mRaise, mIsi, mMt, mDNew, mStore, mGet2, mSl, mPart, bindS_ok, bindS_ex, bindS_bad, Out.bind_ok, Out.bind_ex, Out.bind_bad, ofO_some, ofO_none, List.map_cons, List.map_nil, List.replicate, List.cons_append, List.nil_append, List.append_nil, List.getElem?_cons_zero, List.getElem?_cons_succ, List.set_cons_zero, List.set_cons_succ, List.length_cons, List.length_nil, List.length_append, List.length_map, wipeF, setAll, tgM, if_true, if_false, Bool.not_true, Bool.not_false, Nat.zero_add, reduceCtorEq, Bool.false_eq_true, ev1, ev2]
    exact ⟨_, rfl, e3.trans (Kp.push _ _ _)⟩
  · obtain ⟨⟨o2, rfl⟩, h2, h3⟩ := h
    rw [List.getElem?_map] at e
    obtain ⟨r, e2, rfl⟩ := Option.map_eq_some_iff.mp e
    refine ⟨_, rfl, ?_⟩
    have hlt : (tally (ones (sz.take i))).length < bigL := by
      have := (tally_ok (ones (sz.take i))).len
      unfold ones at this
      rw [List.length_map, List.length_take] at this
      show (tally ((sz.take i).map fun s => (s, (1 : Int)))).length < bigL
      omega
    simp only [mFn, mCall, chk, mSeq, mRet, mRetN, mNext, mSet, mDrop, mIfS, mIf, mPar, mTg, mAug, mCB, mCons, mNil, mBin, mChain, mTest, bOf, mAndT, mOrT, mNotT, mAnd, mOr, mNot, mNeg, mVar, mC, mTup, mLst, mYes, mItQ, mItR1, mItR2, mItE, mItZ, mRaise, mIsi, mMt, mDNew, mStore, mGet2, mSl, mPart, bindS_ok, bindS_ex, bindS_bad, Out.bind_ok, Out.bind_ex, Out.bind_bad, ofO_some, ofO_none, List.map_cons, List.map_nil, List.replicate, List.cons_append, List.nil_append, List.append_nil, List.getElem?_cons_zero, List.getElem?_cons_succ, List.set_cons_zero, List.set_cons_succ, List.length_cons, List.length_nil, List.length_append, List.length_map, wipeF, setAll, tgM, if_true, if_false, Bool.not_true, Bool.not_false, Nat.zero_add, reduceCtorEq, Bool.false_eq_true, isDic_ref h3, get_dic h3, look_enc2, add_ii, set_dic h3 hlt]
    refine ⟨⟨_, rfl⟩, h2.trans (Kp.set (by simp)), ?_⟩
    rw [set_at h3, List.take_succ, e2]
    show _ = some (Ob.dic (enc2 (tally (ones (sz.take i ++ [r])))))
    unfold ones
    rw [List.map_append]
    show _ = some (Ob.dic (enc2 (tally ((sz.take i).map (fun s => (s, (1 : Int))) ++ [(r, 1)]))))
    rw [tally_snoc]
  · obtain ⟨⟨o2, rfl⟩, h2, h3⟩ := h
    refine ⟨_, _, rfl, rfl, (Kp.push [] S [.dic []]).fresh h2 fun m hm => .inr (by simp at hm; omega), ?_⟩
    rw [List.length_map, List.take_length] at h3
    exact h3
theorem l_joined_spec {S : Sto} {r : Rows} (h : Ow r) : ∃ S', m_l_joined E [std r] S = .ok (std (jn r)) S' ∧ Kp [] S S' := by
  obtain ⟨S1, h1, h2, h3⟩ := comp_all (own := [1, 2]) (T := .many [1, 2]) (f := mBin oMul (mVar 1) (mVar 2)) (φ := [some (std r), none, none]) (it := mItQ (mVar 0)) (S := S) tp r (fun p => .int (p.1 * p.2)) (by simp only [mFn, mCall, chk, mSeq, mRet, mRetN, mNext, mSet, mDrop, mIfS, mIf, mPar, mTg, mAug, mCB, mCons, mNil, mBin, mChain, mTest, bOf, mAndT, mOrT, mNotT, mAnd, mOr, mNot, mNeg, mVar, mC, mTup, mLst, mYes, mItQ, mItR1, mItR2, mItE, mItZ, mRaise, mIsi, mMt, mDNew, mStore, mGet2, mSl, mPart, bindS_ok, bindS_ex, bindS_bad, Out.bind_ok, Out.bind_ex, Out.bind_bad, ofO_some, ofO_none, List.map_cons, List.map_nil, List.replicate, List.cons_append, List.nil_append, List.append_nil, List.getElem?_cons_zero, List.getElem?_cons_succ, List.set_cons_zero, List.set_cons_succ, List.length_cons, List.length_nil, List.length_append, List.length_map, wipeF, setAll, tgM, if_true, if_false, Bool.not_true, Bool.not_false, Nat.zero_add, reduceCtorEq, Bool.false_eq_true, std_q]) (wk_l (std_q S r) fun _ _ z => nomatch z) (Ok.ltT h) fun x hx S2 k => by
    obtain ⟨b1, b2⟩ := h.small hx
    refine ⟨_, rfl, S2, ?_, Kp.refl _ _⟩
    simp only [mFn, mCall, chk, mSeq, mRet, mRetN, mNext, mSet, mDrop, mIfS, mIf, mPar, mTg, mAug, mCB, mCons, mNil, mBin, mChain, mTest, bOf, mAndT, mOrT, mNotT, mAnd, mOr, mNot, mNeg, mVar, mC, mTup, mLst, mYes, mItQ, mItR1, mItR2, mItE, mItZ, mRaise, mIsi, mMt, mDNew, mStore, mGet2, mSl, mPart, bindS_ok, bindS_ex, bindS_bad, Out.bind_ok, Out.bind_ex, Out.bind_bad, ofO_some, ofO_none, List.map_cons, List.map_nil, List.replicate, List.cons_append, List.nil_append, List.append_nil, List.getElem?_cons_zero, List.getElem?_cons_succ, List.set_cons_zero, List.set_cons_succ, List.length_cons, List.length_nil, List.length_append, List.length_map, wipeF, setAll, tgM, if_true, if_false, Bool.not_true, Bool.not_false, Nat.zero_add, reduceCtorEq, Bool.false_eq_true, mul_ii b1 b2]
  have e : (r.map fun p => W.int (p.1 * p.2)) = (r.map fun p => p.1 * p.2).map W.int := by rw [List.map_map]; rfl
  rw [e] at h3
  obtain ⟨S2, g1, g2⟩ := l_gathered_spec E (ref_q h3) (by rw [List.length_map]; exact Ok.ltT h)
  refine ⟨S2, ?_, h2.trans g2⟩
  unfold m_l_joined b_l_joined
  simp only [mFn, mCall, chk, mSeq, mRet, mRetN, mNext, mSet, mDrop, mIfS, mIf, mPar, mTg, mAug, mCB, mCons, mNil, mBin, mChain, mTest, bOf, mAndT, mOrT, mNotT, mAnd, mOr, mNot, mNeg, mVar, mC, mTup, mLst, mYes, mItQ, mItR1, mItR2, mItE, mItZ, mRaise, mIsi, mMt, mDNew, mStore, mGet2, mSl, mPart, bindS_ok, bindS_ex, bindS_bad, Out.bind_ok, Out.bind_ex, Out.bind_bad, ofO_some, ofO_none, List.map_cons, List.map_nil, List.replicate, List.cons_append, List.nil_append, List.append_nil, List.getElem?_cons_zero, List.getElem?_cons_succ, List.set_cons_zero, List.set_cons_succ, List.length_cons, List.length_nil, List.length_append, List.length_map, wipeF, setAll, tgM, if_true, if_false, Bool.not_true, Bool.not_false, Nat.zero_add, reduceCtorEq, Bool.false_eq_true, h1, g1]
  have : ones (r.map fun p => p.1 * p.2) = r.map fun p => (p.1 * p.2, (1 : Int)) := by unfold ones; rw [List.map_map]; rfl
  rw [this]
  rfl
theorem folk_ones (l : List Int) : folkP (gath (ones l)) = l.sum := by
  rw [folk_wsum, (gath_ok (ones l)).sum]
  unfold wsum ones
  rw [List.map_map]
  congr 1
  conv => rhs; rw [← List.map_id l]
  refine List.map_congr_left fun x _ => ?_
  show x * 1 = x
  omega
/-- a stand of few folk, as drawn -/
theorem ok_of_sizes {l : List Int} (hp : ∀ s ∈ l, 1 ≤ s) (hn : l ≠ []) (hs : l.sum ≤ 800) : Ok (gath (ones l)) := by
  have g := gath_ok (ones l)
  have hb : ∀ x ∈ ones l, 1 ≤ x.1 ∧ 1 ≤ x.2 := fun x hx => by
    obtain ⟨s, h, e⟩ := List.mem_map.mp hx
    rw [← e]; exact ⟨hp s h, Int.le_refl _⟩
  have hf : folkP (gath (ones l)) = l.sum := folk_ones l
  refine .mk' (gath_ne fun z => hn (List.map_eq_nil_iff.mp z)) ?_ g.rise (gath_bd hb) (by
    have : (800 : Int) ≤ bigF := by decide
    rw [hf]
    omega)
  have h2 := rise_sum g.rise (gath_bd hb)
  rw [hf] at h2
  by_cases h : (gath (ones l)).length ≤ 40
  · exact h
  · exfalso
    have h3 : 41 ≤ (gath (ones l)).length := by omega
    have h4 : (41 : Int) * 42 ≤ ((gath (ones l)).length : Int) * (((gath (ones l)).length : Int) + 1) := Int.mul_le_mul (by omega) (by omega) (by omega) (by omega)
    omega

theorem few_spec {S : Sto} {n t : Nat} (h : Deck S n t) {f : Int} (h1 : 1 ≤ f) (h2 : f ≤ 800) (ht : t + 2400 < 4294967296) : ∃ S' r, m_l_few E [.ref n, .int f] S = .ok (std r) S' ∧ Ok r ∧ folkP r = f ∧ Deck S' n (t + 2400) ∧ Kp [n] S S' := by
  have hn := h.lt
  unfold m_l_few b_l_few
  simp only [mFn, mCall, chk, mSeq, mRet, mRetN, mNext, mSet, mDrop, mIfS, mIf, mPar, mTg, mAug, mCB, mCons, mNil, mBin, mChain, mTest, bOf, mAndT, mOrT, mNotT, mAnd, mOr, mNot, mNeg, mVar, mC, mTup, mLst, mYes, mItQ, mItR1, mItR2, mItE, mItZ, mRaise, mIsi, mMt, mDNew, mStore, mGet2, mSl, mPart, bindS_ok, bindS_ex, bindS_bad, Out.bind_ok, Out.bind_ex, Out.bind_bad, ofO_some, ofO_none, List.map_cons, List.map_nil, List.replicate, List.cons_append, List.nil_append, List.append_nil, List.getElem?_cons_zero, List.getElem?_cons_succ, List.set_cons_zero, List.set_cons_succ, List.length_cons, List.length_nil, List.length_append, List.length_map, wipeF, setAll, tgM, if_true, if_false, Bool.not_true, Bool.not_false, Nat.zero_add, reduceCtorEq, Bool.false_eq_true, lstO_ok (S := S) (l := []) (by decide)]
  have key := while_ind (P := fun o => ∃ (φ' : Fr) (S' : Sto) (sz : List Int), o = .nx φ' S' ∧ φ'[3]? = some (some (.ref S.length)) ∧ Kp [n] S S' ∧ S'[S.length]? = some (.lst (sz.map W.int)) ∧ sz.sum = f ∧ (∀ s ∈ sz, 1 ≤ s) ∧ sz.length ≤ 800 ∧ Deck S' n (t + 2400))
    (t := mTest (mBin oGtI (mVar 2) (mC (.int 0)))) (b := mSeq (mSet 4 (mCB oMin2 (mCons (mVar 2) (mCons (mCall 2 (m_l_one E) (mCons (mVar 0) (mCons (mLst (mCons (mC (.int 1)) (mCons (mC (.int 1)) (mCons (mC (.int 2)) (mCons (mC (.int 3)) (mCons (mBin oAdd (mC (.int 1)) (mCall 2 (m_l_pick E) (mCons (mVar 0) (mCons (mC (.int 6)) mNil)))) (mCons (mBin oAdd (mC (.int 1)) (mCall 2 (m_l_pick E) (mCons (mVar 0) (mCons (mVar 2) mNil)))) mNil))))))) mNil))) mNil))))
    (mSeq (mDrop (mMt oAppend (mVar 3) (mCons (mVar 4) mNil))) (mSet 2 (mBin oSubI (mVar 2) (mVar 4)))))
    (φ := [some (.ref n), some (.int f), some (.int f), some (.ref S.length), none]) (S := S ++ [.lst []])
    (fun N φ S1 => ∃ (left : Int) (sz : List Int) (o4 : Option W), N = left.toNat ∧ 0 ≤ left ∧ sz.sum + left = f ∧ (∀ s ∈ sz, 1 ≤ s) ∧ (sz.length : Int) + left ≤ f ∧ φ = [some (.ref n), some (.int f), some (.int left), some (.ref S.length), o4] ∧ Kp [n] S S1 ∧ S1[S.length]? = some (.lst (sz.map W.int)) ∧ Deck S1 n (t + 3 * (f - left).toNat))
    f.toNat (Nat.lt_of_le_of_lt (show f.toNat ≤ 800 by omega) (by decide)) ⟨f, [], none, rfl, by omega, by simp, by simp, by simp, rfl, Kp.push _ _ _, at_new _ _, (h.keep (Kp.push _ _ _)).mono (by omega)⟩ (fun N φ S1 ⟨left, sz, o4, q1, q2, q3, q4, q5, q6, q7, q8, q9⟩ => by
      subst q1 q6
      refine ⟨decide (0 < left), S1, by simp only [mFn, mCall, chk, mSeq, mRet, mRetN, mNext, mSet, mDrop, mIfS, mIf, mPar, mTg, mAug, mCB, mCons, mNil, mBin, mChain, mTest, bOf, mAndT, mOrT, mNotT, mAnd, mOr, mNot, mNeg, mVar, mC, mTup, mLst, mYes, mItQ, mItR1, mItR2, mItE, mItZ, mRaise, mIsi, mMt, mDNew, mStore, mGet2, mSl, mPart, bindS_ok, bindS_ex, bindS_bad, Out.bind_ok, Out.bind_ex, Out.bind_bad, ofO_some, ofO_none, List.map_cons, List.map_nil, List.replicate, List.cons_append, List.nil_append, List.append_nil, List.getElem?_cons_zero, List.getElem?_cons_succ, List.set_cons_zero, List.set_cons_succ, List.length_cons, List.length_nil, List.length_append, List.length_map, wipeF, setAll, tgM, if_true, if_false, Bool.not_true, Bool.not_false, Nat.zero_add, reduceCtorEq, Bool.false_eq_true, gt_ii], fun hb => ?_, fun hb => ?_⟩
      · have hb' : 0 < left := of_decide_eq_true hb
        obtain ⟨S2, r2, a1, a2, a3, a4, a5⟩ := pick_spec E q9 (by omega) (size := 6) (by decide) (by decide)
        obtain ⟨S3, r3, b1, b2, b3, b4, b5⟩ := pick_spec E a4 (by omega) (size := left) hb' (by omega)
        have hl := lstO_ok (S := S3) (show [W.int 1, W.int 1, W.int 2, W.int 3, W.int (1 + r2), W.int (1 + r3)].length ≤ bigL from (by decide : 6 ≤ bigL))
        have k4 : Kp [] S3 (S3 ++ [.lst [W.int 1, W.int 1, W.int 2, W.int 3, W.int (1 + r2), W.int (1 + r3)]]) := Kp.push _ _ _
        have n3 := b4.lt
        obtain ⟨S5, y, c1, c2, c3, c4⟩ := one_spec E (b4.keep k4) (by omega) (ref_q (at_new _ _)) (fun z => by cases z; omega) (by simp) (by decide : 6 ≤ bigL)
        obtain ⟨z, rfl, hz⟩ : ∃ z, y = .int z ∧ 1 ≤ z := by
          simp only [List.mem_cons, List.not_mem_nil, or_false] at c2
          rcases c2 with e | e | e | e | e | e <;> exact ⟨_, e, by omega⟩
        have kk : Kp [n] S1 S5 := (a5.trans b5).trans ((k4.mono (by simp)).trans c4)
        have hD : S.length ∉ [n] := by simp; omega
        have g8 := kk.at' _ _ hD q8
        have hlen : (sz.map W.int).length < bigL := by
          rw [List.length_map]
          have : 1000 ≤ bigL := by decide
          omega
        simp only [mFn, mCall, chk, mSeq, mRet, mRetN, mNext, mSet, mDrop, mIfS, mIf, mPar, mTg, mAug, mCB, mCons, mNil, mBin, mChain, mTest, bOf, mAndT, mOrT, mNotT, mAnd, mOr, mNot, mNeg, mVar, mC, mTup, mLst, mYes, mItQ, mItR1, mItR2, mItE, mItZ, mRaise, mIsi, mMt, mDNew, mStore, mGet2, mSl, mPart, bindS_ok, bindS_ex, bindS_bad, Out.bind_ok, Out.bind_ex, Out.bind_bad, ofO_some, ofO_none, List.map_cons, List.map_nil, List.replicate, List.cons_append, List.nil_append, List.append_nil, List.getElem?_cons_zero, List.getElem?_cons_succ, List.set_cons_zero, List.set_cons_succ, List.length_cons, List.length_nil, List.length_append, List.length_map, wipeF, setAll, tgM, if_true, if_false, Bool.not_true, Bool.not_false, Nat.zero_add, reduceCtorEq, Bool.false_eq_true, a1, add_ii, b1, hl, c1, min_ii, isLst_ref g8, app_l g8 hlen, sub_ii]
        refine ⟨(left - min left z).toNat, by omega, left - min left z, sz ++ [min left z], _, rfl, by omega, ?_, ?_, ?_, rfl, ?_, ?_, ?_⟩
        · rw [List.sum_append]; simp; omega
        · intro s hs
          rcases List.mem_append.mp hs with e | e
          · exact q4 s e
          · have : s = min left z := by simpa using e
            omega
        · rw [List.length_append]; simp only [List.length_cons, List.length_nil]; omega
        · exact (q7.trans kk).fresh (Kp.set (d := [S.length]) (by simp)) fun m hm => .inr (by simp at hm; omega)
        · rw [set_at g8, List.map_append]; rfl
        · obtain ⟨a, b, c, e, h'⟩ := c3.mono (t' := t + 3 * (f - (left - min left z)).toNat) (by omega)
          exact ⟨a, b, c, by rw [set_off (by omega)]; exact e, h'⟩
      · have hb' : ¬ 0 < left := by simpa using hb
        have hl0 : left = 0 := by omega
        subst hl0
        exact ⟨_, _, sz, rfl, rfl, q7, q8, by omega, q4, by omega, q9.mono (by omega)⟩)
  obtain ⟨φ', S', sz, g1, g2, g3, g4, g5, g6, g7, g8⟩ := key
  obtain ⟨S2, u1, u2⟩ := l_gathered_spec E (ref_q g4) (Nat.lt_of_le_of_lt g7 (by decide))
  have hne : sz ≠ [] := fun z => by subst z; simp at g5; omega
  refine ⟨S2, gath (ones sz), ?_, ok_of_sizes g6 hne (by omega), by rw [folk_ones, g5], g8.keep u2, g3.trans (u2.mono (by simp))⟩
  simp only [mFn, mCall, chk, mSeq, mRet, mRetN, mNext, mSet, mDrop, mIfS, mIf, mPar, mTg, mAug, mCB, mCons, mNil, mBin, mChain, mTest, bOf, mAndT, mOrT, mNotT, mAnd, mOr, mNot, mNeg, mVar, mC, mTup, mLst, mYes, mItQ, mItR1, mItR2, mItE, mItZ, mRaise, mIsi, mMt, mDNew, mStore, mGet2, mSl, mPart, bindS_ok, bindS_ex, bindS_bad, Out.bind_ok, Out.bind_ex, Out.bind_bad, ofO_some, ofO_none, List.map_cons, List.map_nil, List.replicate, List.cons_append, List.nil_append, List.append_nil, List.getElem?_cons_zero, List.getElem?_cons_succ, List.set_cons_zero, List.set_cons_succ, List.length_cons, List.length_nil, List.length_append, List.length_map, wipeF, setAll, tgM, if_true, if_false, Bool.not_true, Bool.not_false, Nat.zero_add, reduceCtorEq, Bool.false_eq_true, g1, g2, u1]
end

section
variable (E : Nat → Addr)
end

section
variable (E : Nat → Addr) {S : Sto} {r : Rows}
theorem rest_ok (h : Ok r) : ∃ S', m_rest E [std r] S = .ok (.tup [std (restL r), .int (((wayL r).length - 1 : Nat) : Int)]) S' ∧ Kp [] S S' := by
  obtain ⟨S1, a1, a2⟩ := need_stand_ok E (S := S) h
  obtain ⟨S2, k, b1, b2, b3, b4⟩ := way_on_ok E (S := S1) h.toOw
  refine ⟨S2, ?_, a2.trans b4⟩
  have last : L2.atI ((wayL r).map std) (-1) = some (std (restL r)) := atI_last (by rw [List.getLast?_map, wayL_last h.toOw]; rfl)
  have hp := wayL_pos r
  have e : ((wayL r).length : Int) - 1 = (((wayL r).length - 1 : Nat) : Int) := by omega
  have t2 : ∀ a b : W, ∀ S, tupO [a, b] S = some (.tup [a, b], S) := fun a b S => tupO_ok (by decide : 2 ≤ bigL)
  unfold m_rest b_rest
  simp only [mFn, mCall, chk, mSeq, mRet, mRetN, mNext, mSet, mDrop, mIfS, mIf, mPar, mTg, mAug, mCB, mCons, mNil, mBin, mChain, mTest, bOf, mAndT, mOrT, mNotT, mAnd, mOr, mNot, mNeg, mVar, mC, mTup, mLst, mYes, mItQ, mItR1, mItR2, mItE, mItZ, mRaise, mIsi, mMt, mDNew, mStore, mGet2, mSl, mPart, bindS_ok, bindS_ex, bindS_bad, Out.bind_ok, Out.bind_ex, Out.bind_bad, ofO_some, ofO_none, List.map_cons, List.map_nil, List.replicate, List.cons_append, List.nil_append, List.append_nil, List.getElem?_cons_zero, List.getElem?_cons_succ, List.set_cons_zero, List.set_cons_succ, List.length_cons, List.length_nil, List.length_append, List.length_map, wipeF, setAll, tgM, if_true, if_false, Bool.not_true, Bool.not_false, Nat.zero_add, reduceCtorEq, Bool.false_eq_true, a1, b1, ix_l (ref_q b3) last, len_q (ref_q b3), sub_ii, e, t2]
theorem l_way_ok (h : Ow r) : ∃ S' n, m_l_way E [std r] S = .ok (.ref n) S' ∧ S.length ≤ n ∧ S'[n]? = some (.lst ((wayL r).map std)) ∧ Kp [] S S' := by
  unfold m_l_way b_l_way
  obtain ⟨S1, a1, a2⟩ := l_joined_spec E (S := S ++ [.lst [std r]]) h
  have k1 : Kp [] S S1 := (Kp.push _ _ _).trans a2
  have e1 : S1[S.length]? = some (.lst [std r]) := a2.at' _ _ (by simp) (at_new _ _)
  simp only [mFn, mCall, chk, mSeq, mRet, mRetN, mNext, mSet, mDrop, mIfS, mIf, mPar, mTg, mAug, mCB, mCons, mNil, mBin, mChain, mTest, bOf, mAndT, mOrT, mNotT, mAnd, mOr, mNot, mNeg, mVar, mC, mTup, mLst, mYes, mItQ, mItR1, mItR2, mItE, mItZ, mRaise, mIsi, mMt, mDNew, mStore, mGet2, mSl, mPart, bindS_ok, bindS_ex, bindS_bad, Out.bind_ok, Out.bind_ex, Out.bind_bad, ofO_some, ofO_none, List.map_cons, List.map_nil, List.replicate, List.cons_append, List.nil_append, List.append_nil, List.getElem?_cons_zero, List.getElem?_cons_succ, List.set_cons_zero, List.set_cons_succ, List.length_cons, List.length_nil, List.length_append, List.length_map, wipeF, setAll, tgM, if_true, if_false, Bool.not_true, Bool.not_false, Nat.zero_add, reduceCtorEq, Bool.false_eq_true, lstO_ok (show [std r].length ≤ bigL from (by decide : 1 ≤ bigL)), a1]
  have key := while_ind (P := fun o => ∃ φ' S', o = .nx φ' S' ∧ φ'[1]? = some (some (.ref S.length)) ∧ Kp [] S S' ∧ S'[S.length]? = some (.lst ((wayL r).map std)))
    (t := mTest (mBin oNe (mVar 2) (mBin oIx (mVar 1) (mNeg (mC (.int 1)))))) (b := mSeq (mDrop (mMt oAppend (mVar 1) (mCons (mVar 2) mNil))) (mSet 2 (mCall 1 (m_l_joined E) (mCons (mVar 2) mNil))))
    (φ := [some (std r), some (.ref S.length), some (std (jn r))]) (S := S1)
    (fun n φ S2 => ∃ (x : Rows) (l : List Rows), Ow x ∧ wayL r = l ++ wayL x ∧ l.length + mu x ≤ 60 ∧ n = mu x ∧ φ = [some (std r), some (.ref S.length), some (std (jn x))] ∧ Kp [] S S2 ∧ S2[S.length]? = some (.lst ((l ++ [x]).map std)))
    (mu r) (Nat.lt_of_le_of_lt (show mu r ≤ 51 by have := mu_le r; have := h.len; omega) (by decide)) ⟨r, [], h, rfl, by have := mu_le r; have := h.len; simp; omega, rfl, rfl, k1, e1⟩ (fun n φ S2 ⟨x, l, hx, hw, hl, hn, hφ, hk, hs⟩ => by
      subst hn hφ
      have last : L2.atI ((l ++ [x]).map std) (-1) = some (std x) := atI_last (by simp)
      refine ⟨!decide (jn x = x), S2, by simp only [mFn, mCall, chk, mSeq, mRet, mRetN, mNext, mSet, mDrop, mIfS, mIf, mPar, mTg, mAug, mCB, mCons, mNil, mBin, mChain, mTest, bOf, mAndT, mOrT, mNotT, mAnd, mOr, mNot, mNeg, mVar, mC, mTup, mLst, mYes, mItQ, mItR1, mItR2, mItE, mItZ, mRaise, mIsi, mMt, mDNew, mStore, mGet2, mSl, mPart, bindS_ok, bindS_ex, bindS_bad, Out.bind_ok, Out.bind_ex, Out.bind_bad, ofO_some, ofO_none, List.map_cons, List.map_nil, List.replicate, List.cons_append, List.nil_append, List.append_nil, List.getElem?_cons_zero, List.getElem?_cons_succ, List.set_cons_zero, List.set_cons_succ, List.length_cons, List.length_nil, List.length_append, List.length_map, wipeF, setAll, tgM, if_true, if_false, Bool.not_true, Bool.not_false, Nat.zero_add, reduceCtorEq, Bool.false_eq_true, ix_l (ref_q hs) last, ne_std], fun hb => ?_, fun hb => ?_⟩
      · have hne : jn x ≠ x := by simpa using hb
        obtain ⟨S3, c1, c2⟩ := l_joined_spec E (S := S2.set S.length (.lst ((l ++ [x]).map std ++ [std (jn x)]))) hx.jn
        have hlen : ((l ++ [x]).map std).length < bigL := by
          rw [List.length_map, List.length_append]
          have : 1000 ≤ bigL := by decide
          simp only [List.length_cons, List.length_nil]
          omega
        simp only [mFn, mCall, chk, mSeq, mRet, mRetN, mNext, mSet, mDrop, mIfS, mIf, mPar, mTg, mAug, mCB, mCons, mNil, mBin, mChain, mTest, bOf, mAndT, mOrT, mNotT, mAnd, mOr, mNot, mNeg, mVar, mC, mTup, mLst, mYes, mItQ, mItR1, mItR2, mItE, mItZ, mRaise, mIsi, mMt, mDNew, mStore, mGet2, mSl, mPart, bindS_ok, bindS_ex, bindS_bad, Out.bind_ok, Out.bind_ex, Out.bind_bad, ofO_some, ofO_none, List.map_cons, List.map_nil, List.replicate, List.cons_append, List.nil_append, List.append_nil, List.getElem?_cons_zero, List.getElem?_cons_succ, List.set_cons_zero, List.set_cons_succ, List.length_cons, List.length_nil, List.length_append, List.length_map, wipeF, setAll, tgM, if_true, if_false, Bool.not_true, Bool.not_false, Nat.zero_add, reduceCtorEq, Bool.false_eq_true, isLst_ref hs, app_l hs hlen, c1]
        have hmu := mu_lt hx hne
        refine ⟨mu (jn x), hmu, jn x, l ++ [x], hx.jn, ?_, ?_, rfl, rfl, ?_, ?_⟩
        · rw [hw, wayL_step hx hne, List.append_assoc]; rfl
        · rw [List.length_append]; simp only [List.length_cons, List.length_nil]; omega
        · exact (hk.fresh (Kp.set (d := [S.length]) (by simp)) fun m hm => .inr (by simp at hm; omega)).trans c2
        · refine c2.at' _ _ (by simp) ?_
          rw [set_at hs, List.map_append (l₁ := l ++ [x])]
          rfl
      · have he : jn x = x := by simpa using hb
        refine ⟨_, _, rfl, rfl, hk, ?_⟩
        rw [hw, wayL_fix he]
        exact hs)
  obtain ⟨φ', S', g1, g2, g3, g4⟩ := key
  refine ⟨S', S.length, ?_, Nat.le_refl _, g4, g3⟩
  simp only [mFn, mCall, chk, mSeq, mRet, mRetN, mNext, mSet, mDrop, mIfS, mIf, mPar, mTg, mAug, mCB, mCons, mNil, mBin, mChain, mTest, bOf, mAndT, mOrT, mNotT, mAnd, mOr, mNot, mNeg, mVar, mC, mTup, mLst, mYes, mItQ, mItR1, mItR2, mItE, mItZ, mRaise, mIsi, mMt, mDNew, mStore, mGet2, mSl, mPart, bindS_ok, bindS_ex, bindS_bad, Out.bind_ok, Out.bind_ex, Out.bind_bad, ofO_some, ofO_none, List.map_cons, List.map_nil, List.replicate, List.cons_append, List.nil_append, List.append_nil, List.getElem?_cons_zero, List.getElem?_cons_succ, List.set_cons_zero, List.set_cons_succ, List.length_cons, List.length_nil, List.length_append, List.length_map, wipeF, setAll, tgM, if_true, if_false, Bool.not_true, Bool.not_false, Nat.zero_add, reduceCtorEq, Bool.false_eq_true, g1, g2]
end

/-! ## one herd more, two stands apart -/
section
variable (E : Nat → Addr) {S : Sto} {r q : Rows}
theorem way_flat {r : Rows} (h : Ow r) : ((wayL r).flatMap keys).length ≤ 3000 := by
  have h1 : ∀ l : List Rows, (∀ x ∈ l, x.length ≤ 50) → (l.flatMap keys).length ≤ 50 * l.length := by
    intro l
    induction l with
    | nil => intro _; simp
    | cons a l ih =>
      intro hl
      have h1 := hl a (by simp)
      have h2 := ih fun x hx => hl x (by simp [hx])
      rw [List.flatMap_cons, List.length_append, List.length_cons]
      have : (keys a).length = a.length := by unfold keys; rw [List.length_map]
      omega
  have := h1 (wayL r) fun x hx => (wayL_ok h x hx).len
  have := wayL_len50 h
  omega
theorem met_sizes_ok (h : Ow r) : ∃ S' n, m_met_sizes E [std r] S = .ok (.ref n) S' ∧ S.length ≤ n ∧ S'[n]? = some (.lst ((met r).map W.int)) ∧ Kp [] S S' := by
  obtain ⟨S1, n, a1, a2, a3, a4⟩ := way_on_ok E (S := S) h
  have hw := wayL_len50 h
  obtain ⟨S2, b1, b2, b3⟩ := dcomp2_grow (own := [1, 2, 3]) (own1 := [2, 3]) (T := .one 1) (T1 := .many [2, 3]) (fk := mVar 2) (fv := mC (.bl true)) (φ := [some (std r), none, none, none]) (it := mItQ (mCall 1 (m_way_on E) (mCons (mVar 0) mNil))) (it1 := mItQ (mVar 1)) (S := S) (S1 := S1) (m := itL (.ref n))
    std (wayL r) tp (fun x => x) (fun _ p => .int p.1) (fun _ _ => .bl true) (by simp only [mFn, mCall, chk, mSeq, mRet, mRetN, mNext, mSet, mDrop, mIfS, mIf, mPar, mTg, mAug, mCB, mCons, mNil, mBin, mChain, mTest, bOf, mAndT, mOrT, mNotT, mAnd, mOr, mNot, mNeg, mVar, mC, mTup, mLst, mYes, mItQ, mItR1, mItR2, mItE, mItZ, mRaise, mIsi, mMt, mDNew, mStore, mGet2, mSl, mPart, bindS_ok, bindS_ex, bindS_bad, Out.bind_ok, Out.bind_ex, Out.bind_bad, ofO_some, ofO_none, List.map_cons, List.map_nil, List.replicate, List.cons_append, List.nil_append, List.append_nil, List.getElem?_cons_zero, List.getElem?_cons_succ, List.set_cons_zero, List.set_cons_succ, List.length_cons, List.length_nil, List.length_append, List.length_map, wipeF, setAll, tgM, if_true, if_false, Bool.not_true, Bool.not_false, Nat.zero_add, reduceCtorEq, Bool.false_eq_true, a1, ref_q a3]) (wk_l (ref_q a3) fun _ _ z => nomatch z) (Nat.lt_of_le_of_lt hw (by decide)) (by
      have := way_flat h
      have e : ((wayL r).flatMap keys).length = ((wayL r).flatMap fun x => x).length := by
        generalize wayL r = l
        induction l with
        | nil => rfl
        | cons a l ih => rw [List.flatMap_cons, List.flatMap_cons, List.length_append, List.length_append, ih]; unfold keys; rw [List.length_map]
      rw [← e]
      exact Nat.le_trans this (by decide)) (fun _ _ _ _ => rfl) (fun x hx S2 k => ⟨_, rfl, _, S2, rfl, Kp.refl _ _, wk_l (w := std x) (b := true) rfl (fun n e => nomatch (show W.tup _ = W.ref n from e)), by
      have := (wayL_ok h x hx).len
      exact Nat.lt_of_le_of_lt this (by decide), fun y hy S5 k5 => ⟨_, rfl, S5, rfl, Kp.refl _ _, S5, rfl, Kp.refl _ _⟩⟩)
  have e : ((wayL r).flatMap fun x => x.map fun y => (W.int y.1, W.bl true)) = ((wayL r).flatMap keys).map fun k => (W.int k, W.bl true) := by
    generalize wayL r = l
    induction l with
    | nil => rfl
    | cons a l ih => rw [List.flatMap_cons, List.flatMap_cons, List.map_append, ih]; unfold keys; rw [List.map_map]; rfl
  rw [e] at b3
  have sd := sort_dict b3 (Nat.le_trans (way_flat h) (by decide))
  refine ⟨S2 ++ [.lst ((met r).map W.int)], S2.length, ?_, Nat.le_trans a4.le b2.le, at_new _ _, (a4.trans b2).trans (Kp.push _ _ _)⟩
  unfold m_met_sizes b_met_sizes
  simp only [mFn, mCall, chk, mSeq, mRet, mRetN, mNext, mSet, mDrop, mIfS, mIf, mPar, mTg, mAug, mCB, mCons, mNil, mBin, mChain, mTest, bOf, mAndT, mOrT, mNotT, mAnd, mOr, mNot, mNeg, mVar, mC, mTup, mLst, mYes, mItQ, mItR1, mItR2, mItE, mItZ, mRaise, mIsi, mMt, mDNew, mStore, mGet2, mSl, mPart, bindS_ok, bindS_ex, bindS_bad, Out.bind_ok, Out.bind_ex, Out.bind_bad, ofO_some, ofO_none, List.map_cons, List.map_nil, List.replicate, List.cons_append, List.nil_append, List.append_nil, List.getElem?_cons_zero, List.getElem?_cons_succ, List.set_cons_zero, List.set_cons_succ, List.length_cons, List.length_nil, List.length_append, List.length_map, wipeF, setAll, tgM, if_true, if_false, Bool.not_true, Bool.not_false, Nat.zero_add, reduceCtorEq, Bool.false_eq_true, b1, sd]
  rfl
/-- the sizes that part them are sought among these -/
def sizesOf (r q : Rows) : List Int := ssetI (met r ++ met q)
def candOf (r q : Rows) : List Int := (sizesOf r q ++ [freeOf (sizesOf r q) 1]).mergeSort leI
def apart (r q : Rows) (s : Int) : Bool := !decide (wone r s = wone q s)
def partedOf (r q : Rows) : W := match (candOf r q).find? (apart r q) with
  | some s => .int s
  | none => .non
theorem met_len {r : Rows} (h : Ow r) : (met r).length ≤ ((wayL r).flatMap keys).length := by
  unfold met ssetI
  rw [List.length_mergeSort]
  generalize ((wayL r).flatMap keys) = l
  induction l with
  | nil => exact Nat.le_refl _
  | cons a l ih =>
    unfold onceI
    split
    · rw [List.length_cons]; omega
    · rw [List.length_cons, List.length_cons]; omega
theorem once_len (l : List Int) : (onceI l).length ≤ l.length := by
  induction l with
  | nil => exact Nat.le_refl _
  | cons a l ih =>
    unfold onceI
    split
    · rw [List.length_cons]; omega
    · rw [List.length_cons, List.length_cons]; omega
theorem sset_len (l : List Int) : (ssetI l).length ≤ l.length := by
  unfold ssetI
  rw [List.length_mergeSort]
  exact once_len l
theorem sizes_pos (h : Ok r) (hq : Ok q) {s : Int} (hs : s ∈ sizesOf r q) : 1 ≤ s ∧ s ≤ bigF := by
  rcases List.mem_append.mp ((sset_mem _ _).mp hs) with z | z
  · have := met_bound h z
    have := h.s60
    omega
  · have := met_bound hq z
    have := hq.s60
    omega
theorem free_bd (h : Ok r) (hq : Ok q) : 1 ≤ freeOf (sizesOf r q) 1 ∧ freeOf (sizesOf r q) 1 ≤ bigF + 1 ∧ freeOf (sizesOf r q) 1 ∉ sizesOf r q := by
  obtain ⟨f1, f2, f3⟩ := free_spec (sizesOf r q) 1 (sset_rise _)
  refine ⟨f1, ?_, f3 fun x hx => (sizes_pos h hq hx).1⟩
  by_cases z : freeOf (sizesOf r q) 1 ≤ 1
  · have : (1 : Int) ≤ bigF := by decide
    omega
  · have := sizes_pos h hq (f2 (freeOf (sizesOf r q) 1 - 1) (by omega) (by omega))
    omega
theorem cand_mem {s : Int} : s ∈ candOf r q ↔ s ∈ sizesOf r q ∨ s = freeOf (sizesOf r q) 1 := by
  unfold candOf
  rw [(List.mergeSort_perm _ _).mem_iff]
  simp
end

/-! ## a Plain: a place that bears a stand and a count -/
section
def fsR (r : Rows) (g : Int) : List (Str × W) := [("herds", std r), ("gone", .int g)]
theorem look_h (r : Rows) (g : Int) : List.lookup ("herds" : Str) (fsR r g) = some (std r) := rfl
theorem look_g (r : Rows) (g : Int) : List.lookup ("gone" : Str) (fsR r g) = some (.int g) := rfl
theorem put_h (r r' : Rows) (g : Int) : putFW "herds" (std r') (fsR r g) = fsR r' g := by
  unfold fsR putFW
  rw [if_pos rfl]
theorem put_g (r : Rows) (g h : Int) : putFW "gone" (.int h) (fsR r g) = fsR r h := by
  unfold fsR
  rw [putFW, if_neg (by decide), putFW, if_pos rfl]
theorem fs_len (r : Rows) (g : Int) : (fsR r g).length < 100 := (by decide : 2 < 100)
variable {C : Addr} {S : Sto} {n : Nat} {fs : List (Str × W)}
theorem insOf_at (h : S[n]? = some (.ins C fs)) : insOf C S (.ref n) = some (n, fs) := by
  unfold insOf
  dsimp only
  rw [h]
  dsimp only
  rw [if_pos rfl]
theorem kinC_at (h : S[n]? = some (.ins C fs)) : kinC C S (.ref n) = some true := by
  unfold kinC
  rw [insOf_at h]
theorem kinC_tup (l : List W) : kinC C S (.tup l) = some false := rfl
end
section
variable (E : Nat → Addr) {S : Sto} {n m : Nat} {r s : Rows} {g h : Int}
theorem pl_stand (hn : S[n]? = some (.ins (E 9) (fsR r g))) : m_Plain_stand E [.ref n] S = .ok (std r) S := by
  unfold m_Plain_stand b_Plain_stand
  simp only [mFn, mCall, chk, mSeq, mRet, mRetN, mNext, mSet, mDrop, mIfS, mIf, mPar, mTg, mAug, mCB, mCons, mNil, mBin, mChain, mTest, bOf, mAndT, mOrT, mNotT, mAnd, mOr, mNot, mNeg, mVar, mC, mTup, mLst, mYes, mItQ, mItR1, mItR2, mItE, mItZ, mRaise, mIsi, mMt, mDNew, mStore, mGet2, mSl, mPart, bindS_ok, bindS_ex, bindS_bad, Out.bind_ok, Out.bind_ex, Out.bind_bad, ofO_some, ofO_none, List.map_cons, List.map_nil, List.replicate, List.cons_append, List.nil_append, List.append_nil, List.getElem?_cons_zero, List.getElem?_cons_succ, List.set_cons_zero, List.set_cons_succ, List.length_cons, List.length_nil, List.length_append, List.length_map, wipeF, setAll, tgM, if_true, if_false, Bool.not_true, Bool.not_false, Nat.zero_add, reduceCtorEq, Bool.false_eq_true, mFld, insOf_at hn, look_h]
theorem pl_dusks (hn : S[n]? = some (.ins (E 9) (fsR r g))) : m_Plain_dusks E [.ref n] S = .ok (.int g) S := by
  unfold m_Plain_dusks b_Plain_dusks
  simp only [mFn, mCall, chk, mSeq, mRet, mRetN, mNext, mSet, mDrop, mIfS, mIf, mPar, mTg, mAug, mCB, mCons, mNil, mBin, mChain, mTest, bOf, mAndT, mOrT, mNotT, mAnd, mOr, mNot, mNeg, mVar, mC, mTup, mLst, mYes, mItQ, mItR1, mItR2, mItE, mItZ, mRaise, mIsi, mMt, mDNew, mStore, mGet2, mSl, mPart, bindS_ok, bindS_ex, bindS_bad, Out.bind_ok, Out.bind_ex, Out.bind_bad, ofO_some, ofO_none, List.map_cons, List.map_nil, List.replicate, List.cons_append, List.nil_append, List.append_nil, List.getElem?_cons_zero, List.getElem?_cons_succ, List.set_cons_zero, List.set_cons_succ, List.length_cons, List.length_nil, List.length_append, List.length_map, wipeF, setAll, tgM, if_true, if_false, Bool.not_true, Bool.not_false, Nat.zero_add, reduceCtorEq, Bool.false_eq_true, mFld, insOf_at hn, look_g]
theorem pl_len (hn : S[n]? = some (.ins (E 9) (fsR r g))) : m_Plain_len E [.ref n] S = .ok (.int (r.length : Nat)) S := by
  unfold m_Plain_len b_Plain_len
  simp only [mFn, mCall, chk, mSeq, mRet, mRetN, mNext, mSet, mDrop, mIfS, mIf, mPar, mTg, mAug, mCB, mCons, mNil, mBin, mChain, mTest, bOf, mAndT, mOrT, mNotT, mAnd, mOr, mNot, mNeg, mVar, mC, mTup, mLst, mYes, mItQ, mItR1, mItR2, mItE, mItZ, mRaise, mIsi, mMt, mDNew, mStore, mGet2, mSl, mPart, bindS_ok, bindS_ex, bindS_bad, Out.bind_ok, Out.bind_ex, Out.bind_bad, ofO_some, ofO_none, List.map_cons, List.map_nil, List.replicate, List.cons_append, List.nil_append, List.append_nil, List.getElem?_cons_zero, List.getElem?_cons_succ, List.set_cons_zero, List.set_cons_succ, List.length_cons, List.length_nil, List.length_append, List.length_map, wipeF, setAll, tgM, if_true, if_false, Bool.not_true, Bool.not_false, Nat.zero_add, reduceCtorEq, Bool.false_eq_true, mFld, insOf_at hn, look_h, len_q (std_q S r)]
theorem pl_rest (hn : S[n]? = some (.ins (E 9) (fsR r g))) (ok : Ok r) : ∃ S', m_Plain_rest E [.ref n] S = .ok (std (restL r)) S' ∧ Kp [] S S' := by
  obtain ⟨S1, k, a1, a2, a3, a4⟩ := way_on_ok E (S := S) ok.toOw
  have last : L2.atI ((wayL r).map std) (-1) = some (std (restL r)) := atI_last (by rw [List.getLast?_map, wayL_last ok.toOw]; rfl)
  refine ⟨S1, ?_, a4⟩
  unfold m_Plain_rest b_Plain_rest
  simp only [mFn, mCall, chk, mSeq, mRet, mRetN, mNext, mSet, mDrop, mIfS, mIf, mPar, mTg, mAug, mCB, mCons, mNil, mBin, mChain, mTest, bOf, mAndT, mOrT, mNotT, mAnd, mOr, mNot, mNeg, mVar, mC, mTup, mLst, mYes, mItQ, mItR1, mItR2, mItE, mItZ, mRaise, mIsi, mMt, mDNew, mStore, mGet2, mSl, mPart, bindS_ok, bindS_ex, bindS_bad, Out.bind_ok, Out.bind_ex, Out.bind_bad, ofO_some, ofO_none, List.map_cons, List.map_nil, List.replicate, List.cons_append, List.nil_append, List.append_nil, List.getElem?_cons_zero, List.getElem?_cons_succ, List.set_cons_zero, List.set_cons_succ, List.length_cons, List.length_nil, List.length_append, List.length_map, wipeF, setAll, tgM, if_true, if_false, Bool.not_true, Bool.not_false, Nat.zero_add, reduceCtorEq, Bool.false_eq_true, mFld, insOf_at hn, look_h, a1, ix_l (ref_q a3) last]
theorem dat_pair (S : Sto) (r : Rows) (g : Int) : dat S (.tup [std r, .int g]) = some (.tuple [dS r, .int g]) := by
  refine dat_of_toD ?_ (shaped_of (n := 3) ?_ (by decide))
  · have e := toD_std S 36 r
    show (mapO (toD S 39) [std r, .int g]).map PyData.tuple = _
    unfold mapO
    rw [show toD S 39 (std r) = some (dS r) from e]
    rfl
  · have l := lay_dS r
    rw [PyData.canLay0, PyData.depth]
    simp only [PyData.canLayAll0, PyData.depthAll, l.1, PyData.canLay0, PyData.depth]
    exact ⟨rfl, by have := l.2; omega⟩
theorem pl_eq (hn : S[n]? = some (.ins (E 9) (fsR r g))) (hm : S[m]? = some (.ins (E 9) (fsR s h))) : m_Plain_eq E [.ref n, .ref m] S = .ok (.bl (decide (r = s) && decide (g = h))) S := by
  have t2 : ∀ a b : W, ∀ S, tupO [a, b] S = some (.tup [a, b], S) := fun a b S => tupO_ok (by decide : 2 ≤ bigL)
  have e : oEq (.tup [std r, .int g]) (.tup [std s, .int h]) S = some (.bl (decide (r = s) && decide (g = h)), S) := by
    unfold oEq
    rw [dat_pair, dat_pair]
    dsimp only
    rw [PyData.eqv, PyData.eqvAll, PyData.eqvAll, PyData.eqvAll, eqv_dS, eqv_int]
    simp
  unfold m_Plain_eq b_Plain_eq
  simp only [mFn, mCall, chk, mSeq, mRet, mRetN, mNext, mSet, mDrop, mIfS, mIf, mPar, mTg, mAug, mCB, mCons, mNil, mBin, mChain, mTest, bOf, mAndT, mOrT, mNotT, mAnd, mOr, mNot, mNeg, mVar, mC, mTup, mLst, mYes, mItQ, mItR1, mItR2, mItE, mItZ, mRaise, mIsi, mMt, mDNew, mStore, mGet2, mSl, mPart, bindS_ok, bindS_ex, bindS_bad, Out.bind_ok, Out.bind_ex, Out.bind_bad, ofO_some, ofO_none, List.map_cons, List.map_nil, List.replicate, List.cons_append, List.nil_append, List.append_nil, List.getElem?_cons_zero, List.getElem?_cons_succ, List.set_cons_zero, List.set_cons_succ, List.length_cons, List.length_nil, List.length_append, List.length_map, wipeF, setAll, tgM, if_true, if_false, Bool.not_true, Bool.not_false, Nat.zero_add, reduceCtorEq, Bool.false_eq_true, mIsiC, kinC_at hm, mFld, insOf_at hn, insOf_at hm, look_h, look_g, t2, e]
theorem pl_eq_tup (hn : S[n]? = some (.ins (E 9) (fsR r g))) (l : List W) : m_Plain_eq E [.ref n, .tup l] S = .ok (.bl false) S := by
  unfold m_Plain_eq b_Plain_eq
  simp only [mFn, mCall, chk, mSeq, mRet, mRetN, mNext, mSet, mDrop, mIfS, mIf, mPar, mTg, mAug, mCB, mCons, mNil, mBin, mChain, mTest, bOf, mAndT, mOrT, mNotT, mAnd, mOr, mNot, mNeg, mVar, mC, mTup, mLst, mYes, mItQ, mItR1, mItR2, mItE, mItZ, mRaise, mIsi, mMt, mDNew, mStore, mGet2, mSl, mPart, bindS_ok, bindS_ex, bindS_bad, Out.bind_ok, Out.bind_ex, Out.bind_bad, ofO_some, ofO_none, List.map_cons, List.map_nil, List.replicate, List.cons_append, List.nil_append, List.append_nil, List.getElem?_cons_zero, List.getElem?_cons_succ, List.set_cons_zero, List.set_cons_succ, List.length_cons, List.length_nil, List.length_append, List.length_map, wipeF, setAll, tgM, if_true, if_false, Bool.not_true, Bool.not_false, Nat.zero_add, reduceCtorEq, Bool.false_eq_true, mIsiC, kinC_tup]
theorem pl_init (hn : S[n]? = some (.ins (E 9) [])) (ok : Ok r) : ∃ S', m_Plain_init E [.ref n, std r] S = .ok .non S' ∧ S'[n]? = some (.ins (E 9) (fsR r 0)) ∧ Kp [n] S S' := by
  obtain ⟨S1, a1, a2⟩ := need_stand_ok E (S := S) ok
  have h1 := a2.at' _ _ (by simp) hn
  have h2 : (S1.set n (.ins (E 9) (putFW "herds" (std r) [])))[n]? = some (.ins (E 9) (putFW "herds" (std r) [])) := set_at h1
  have e : putFW "gone" (.int 0) (putFW "herds" (std r) []) = fsR r 0 := by
    show putFW "gone" (.int 0) [("herds", std r)] = _
    rw [putFW, if_neg (by decide)]
    rfl
  refine ⟨(S1.set n (.ins (E 9) (putFW "herds" (std r) []))).set n (.ins (E 9) (fsR r 0)), ?_, set_at h2, ((a2.mono (by simp)).trans (Kp.set (by simp))).trans (Kp.set (by simp))⟩
  unfold m_Plain_init b_Plain_init
  simp only [mFn, mCall, chk, mSeq, mRet, mRetN, mNext, mSet, mDrop, mIfS, mIf, mPar, mTg, mAug, mCB, mCons, mNil, mBin, mChain, mTest, bOf, mAndT, mOrT, mNotT, mAnd, mOr, mNot, mNeg, mVar, mC, mTup, mLst, mYes, mItQ, mItR1, mItR2, mItE, mItZ, mRaise, mIsi, mMt, mDNew, mStore, mGet2, mSl, mPart, bindS_ok, bindS_ex, bindS_bad, Out.bind_ok, Out.bind_ex, Out.bind_bad, ofO_some, ofO_none, List.map_cons, List.map_nil, List.replicate, List.cons_append, List.nil_append, List.append_nil, List.getElem?_cons_zero, List.getElem?_cons_succ, List.set_cons_zero, List.set_cons_succ, List.length_cons, List.length_nil, List.length_append, List.length_map, wipeF, setAll, tgM, if_true, if_false, Bool.not_true, Bool.not_false, Nat.zero_add, reduceCtorEq, Bool.false_eq_true, a1, mSetF, insOf_at h1, insOf_at h2, show (0 : Nat) < 100 by decide, show (putFW "herds" (std r) []).length < 100 from (by decide : 1 < 100), e]
/-- what a deed is told of: whole numbers in bounds, or no number -/
inductive Sc : W → Prop
  | int (i : Int) (h0 : -1 ≤ i) (h1 : i ≤ 10 ^ 61) : Sc (.int i)
  | non : Sc .non
  | bl (b : Bool) : Sc (.bl b)
def isNum : W → Bool
  | .int _ => true
  | _ => false
theorem sc_whole {w : W} (h : Sc w) : m_is_whole E [w] S = .ok (.bl (isNum w)) S := by
  cases h <;> rfl
def numIn (lo hi : Int) : W → Bool
  | .int i => decide (lo ≤ i) && decide (i ≤ hi)
  | _ => false
theorem sc_from {w : W} (h : Sc w) (lo hi : Int) : m_is_from E [w, .int lo, .int hi] S = .ok (.bl (numIn lo hi w)) S := by
  cases h with
  | int i _ _ => exact is_from_int E i lo hi
  | non => rfl
  | bl b => rfl
/-- what a deed brings: a refusal's kind, or the stand behind it -/
def goD (r : Rows) : W → Nat ⊕ Rows
  | .int d => if 1 ≤ d ∧ d ≤ 10 ^ 18 then .inr (iter r d.toNat) else .inl 2
  | _ => .inl 2
def comeD (r : Rows) : W → W → Nat ⊕ Rows
  | .int s, .int m => if s < 1 ∨ m < 1 then .inl 3 else if 40 < (comeR r s m).length ∨ bigF < folkP (comeR r s m) then .inl 7 else .inr (comeR r s m)
  | _, _ => .inl 3
def partD (r : Rows) : W → W → Nat ⊕ Rows
  | .int s, f => if s ∈ keys r then (match f with
    | .int f => if 1 ≤ f ∧ f < s then (if 40 < (partR r s f).length then .inl 7 else .inr (partR r s f)) else .inl 4
    | _ => .inl 4) else .inl 3
  | _, _ => .inl 3
/-- how a door of a Plain ends -/
def Door (E : Nat → Addr) (n : Nat) (S : Sto) (g : Int) (o : Out W) (r : Rows) (d : Nat ⊕ Rows) (dg : Int) : Prop := match d with
  | .inl i => ∃ S', o = .ex ⟨E i, none⟩ S' ∧ Kp [] S S'
  | .inr r' => ∃ S', o = .ok .non S' ∧ S'[n]? = some (.ins (E 9) (fsR r' (g + dg))) ∧ Kp [n] S S'
theorem pl_go (hn : S[n]? = some (.ins (E 9) (fsR r g))) (ok : Ok r) {v : W} (hv : Sc v) : Door E n S g (m_Plain_go E [.ref n, v] S) r (goD r v) (match v with | .int d => d | _ => 0) := by
  have hf := sc_from E (S := S) hv 1 g_FAR
  cases hv with
  | non =>
    refine ⟨S, ?_, Kp.refl _ _⟩
    have hf : m_is_from E [.non, .int 1, .int g_FAR] S = .ok (.bl false) S := hf
    unfold m_Plain_go b_Plain_go
    simp only [mFn, mCall, chk, mSeq, mRet, mRetN, mNext, mSet, mDrop, mIfS, mIf, mPar, mTg, mAug, mCB, mCons, mNil, mBin, mChain, mTest, bOf, mAndT, mOrT, mNotT, mAnd, mOr, mNot, mNeg, mVar, mC, mTup, mLst, mYes, mItQ, mItR1, mItR2, mItE, mItZ, mRaise, mIsi, mMt, mDNew, mStore, mGet2, mSl, mPart, bindS_ok, bindS_ex, bindS_bad, Out.bind_ok, Out.bind_ex, Out.bind_bad, ofO_some, ofO_none, List.map_cons, List.map_nil, List.replicate, List.cons_append, List.nil_append, List.append_nil, List.getElem?_cons_zero, List.getElem?_cons_succ, List.set_cons_zero, List.set_cons_succ, List.length_cons, List.length_nil, List.length_append, List.length_map, wipeF, setAll, tgM, if_true, if_false, Bool.not_true, Bool.not_false, Nat.zero_add, reduceCtorEq, Bool.false_eq_true, hf]
  | bl b =>
    refine ⟨S, ?_, Kp.refl _ _⟩
    have hf : m_is_from E [.bl b, .int 1, .int g_FAR] S = .ok (.bl false) S := hf
    unfold m_Plain_go b_Plain_go
    simp only [mFn, mCall, chk, mSeq, mRet, mRetN, mNext, mSet, mDrop, mIfS, mIf, mPar, mTg, mAug, mCB, mCons, mNil, mBin, mChain, mTest, bOf, mAndT, mOrT, mNotT, mAnd, mOr, mNot, mNeg, mVar, mC, mTup, mLst, mYes, mItQ, mItR1, mItR2, mItE, mItZ, mRaise, mIsi, mMt, mDNew, mStore, mGet2, mSl, mPart, bindS_ok, bindS_ex, bindS_bad, Out.bind_ok, Out.bind_ex, Out.bind_bad, ofO_some, ofO_none, List.map_cons, List.map_nil, List.replicate, List.cons_append, List.nil_append, List.append_nil, List.getElem?_cons_zero, List.getElem?_cons_succ, List.set_cons_zero, List.set_cons_succ, List.length_cons, List.length_nil, List.length_append, List.length_map, wipeF, setAll, tgM, if_true, if_false, Bool.not_true, Bool.not_false, Nat.zero_add, reduceCtorEq, Bool.false_eq_true, hf]
  | int d _ _ =>
    unfold goD
    dsimp only
    have hf : m_is_from E [.int d, .int 1, .int g_FAR] S = .ok (.bl (decide (1 ≤ d) && decide (d ≤ g_FAR))) S := hf
    by_cases hd : 1 ≤ d ∧ d ≤ 10 ^ 18
    · rw [if_pos hd]
      have hd2 : d ≤ g_FAR := hd.2
      rw [decide_eq_true hd.1, decide_eq_true hd2] at hf
      obtain ⟨S1, k, a1, a2, a3, a4⟩ := way_on_ok E (S := S) ok.toOw
      have h1 := a4.at' _ _ (by simp) hn
      have hp := wayL_pos r
      have hm : min d (((wayL r).length : Nat) - 1) = ((min d.toNat ((wayL r).length - 1) : Nat) : Int) := by omega
      have hat : L2.atI ((wayL r).map std) ((min d.toNat ((wayL r).length - 1) : Nat) : Int) = some (std (iter r d.toNat)) := atI_nat (by rw [List.getElem?_map, wayL_at ok.toOw]; rfl)
      have h2 : (S1.set n (.ins (E 9) (fsR (iter r d.toNat) g)))[n]? = some (.ins (E 9) (fsR (iter r d.toNat) g)) := set_at h1
      refine ⟨(S1.set n (.ins (E 9) (fsR (iter r d.toNat) g))).set n (.ins (E 9) (fsR (iter r d.toNat) (g + d))), ?_, set_at h2, ((a4.mono (by simp)).trans (Kp.set (by simp))).trans (Kp.set (by simp))⟩
      unfold m_Plain_go b_Plain_go
      simp only [mFn, mCall, chk, mSeq, mRet, mRetN, mNext, mSet, mDrop, mIfS, mIf, mPar, mTg, mAug, mCB, mCons, mNil, mBin, mChain, mTest, bOf, mAndT, mOrT, mNotT, mAnd, mOr, mNot, mNeg, mVar, mC, mTup, mLst, mYes, mItQ, mItR1, mItR2, mItE, mItZ, mRaise, mIsi, mMt, mDNew, mStore, mGet2, mSl, mPart, bindS_ok, bindS_ex, bindS_bad, Out.bind_ok, Out.bind_ex, Out.bind_bad, ofO_some, ofO_none, List.map_cons, List.map_nil, List.replicate, List.cons_append, List.nil_append, List.append_nil, List.getElem?_cons_zero, List.getElem?_cons_succ, List.set_cons_zero, List.set_cons_succ, List.length_cons, List.length_nil, List.length_append, List.length_map, wipeF, setAll, tgM, if_true, if_false, Bool.not_true, Bool.not_false, Nat.zero_add, reduceCtorEq, Bool.false_eq_true, hf, Bool.and_self, mFld, insOf_at hn, look_h, a1, len_q (ref_q a3), sub_ii, min_ii, hm, ix_l (ref_q a3) hat, mSetF, insOf_at h1, fs_len, put_h, mAugF, insOf_at h2, look_g, put_g]
    · rw [if_neg hd]
      refine ⟨S, ?_, Kp.refl _ _⟩
      have hb : (decide (1 ≤ d) && decide (d ≤ g_FAR)) = false := by
        by_cases h1 : 1 ≤ d
        · rw [decide_eq_false (show ¬ d ≤ g_FAR from fun z => hd ⟨h1, z⟩), Bool.and_false]
        · rw [decide_eq_false h1, Bool.false_and]
      rw [hb] at hf
      unfold m_Plain_go b_Plain_go
      simp only [mFn, mCall, chk, mSeq, mRet, mRetN, mNext, mSet, mDrop, mIfS, mIf, mPar, mTg, mAug, mCB, mCons, mNil, mBin, mChain, mTest, bOf, mAndT, mOrT, mNotT, mAnd, mOr, mNot, mNeg, mVar, mC, mTup, mLst, mYes, mItQ, mItR1, mItR2, mItE, mItZ, mRaise, mIsi, mMt, mDNew, mStore, mGet2, mSl, mPart, bindS_ok, bindS_ex, bindS_bad, Out.bind_ok, Out.bind_ex, Out.bind_bad, ofO_some, ofO_none, List.map_cons, List.map_nil, List.replicate, List.cons_append, List.nil_append, List.append_nil, List.getElem?_cons_zero, List.getElem?_cons_succ, List.set_cons_zero, List.set_cons_succ, List.length_cons, List.length_nil, List.length_append, List.length_map, wipeF, setAll, tgM, if_true, if_false, Bool.not_true, Bool.not_false, Nat.zero_add, reduceCtorEq, Bool.false_eq_true, hf]
theorem pl_come (hn : S[n]? = some (.ins (E 9) (fsR r g))) (ok : Ok r) {v u : W} (hv : Sc v) (hu : Sc u) : Door E n S g (m_Plain_come E [.ref n, v, u] S) r (comeD r v u) 0 := by
  have w1 := sc_whole E (S := S) hv
  have w2 := sc_whole E (S := S) hu
  have bad : ∀ {v u : W}, (isNum v = false ∨ isNum u = false) → m_is_whole E [v] S = .ok (.bl (isNum v)) S → m_is_whole E [u] S = .ok (.bl (isNum u)) S → m_Plain_come E [.ref n, v, u] S = .ex ⟨E 3, none⟩ S := by
    intro v u hz w1 w2
    unfold m_Plain_come b_Plain_come
    cases e1 : isNum v with
    | false => rw [e1] at w1; simp only [mFn, mCall, chk, mSeq, mRet, mRetN, mNext, mSet, mDrop, mIfS, mIf, mPar, mTg, mAug, mCB, mCons, mNil, mBin, mChain, mTest, bOf, mAndT, mOrT, mNotT, mAnd, mOr, mNot, mNeg, mVar, mC, mTup, mLst, mYes, mItQ, mItR1, mItR2, mItE, mItZ, mRaise, mIsi, mMt, mDNew, mStore, mGet2, mSl, mPart, bindS_ok, bindS_ex, bindS_bad, Out.bind_ok, Out.bind_ex, Out.bind_bad, ofO_some, ofO_none, List.map_cons, List.map_nil, List.replicate, List.cons_append, List.nil_append, List.append_nil, List.getElem?_cons_zero, List.getElem?_cons_succ, List.set_cons_zero, List.set_cons_succ, List.length_cons, List.length_nil, List.length_append, List.length_map, wipeF, setAll, tgM, if_true, if_false, Bool.not_true, Bool.not_false, Nat.zero_add, reduceCtorEq, Bool.false_eq_true, w1]
    | true =>
      rw [e1] at w1
      have e2 := hz.resolve_left (by rw [e1]; decide)
      rw [e2] at w2
      simp only [mFn, mCall, chk, mSeq, mRet, mRetN, mNext, mSet, mDrop, mIfS, mIf, mPar, mTg, mAug, mCB, mCons, mNil, mBin, mChain, mTest, bOf, mAndT, mOrT, mNotT, mAnd, mOr, mNot, mNeg, mVar, mC, mTup, mLst, mYes, mItQ, mItR1, mItR2, mItE, mItZ, mRaise, mIsi, mMt, mDNew, mStore, mGet2, mSl, mPart, bindS_ok, bindS_ex, bindS_bad, Out.bind_ok, Out.bind_ex, Out.bind_bad, ofO_some, ofO_none, List.map_cons, List.map_nil, List.replicate, List.cons_append, List.nil_append, List.append_nil, List.getElem?_cons_zero, List.getElem?_cons_succ, List.set_cons_zero, List.set_cons_succ, List.length_cons, List.length_nil, List.length_append, List.length_map, wipeF, setAll, tgM, if_true, if_false, Bool.not_true, Bool.not_false, Nat.zero_add, reduceCtorEq, Bool.false_eq_true, w1, w2]
  cases hv with
  | non => exact ⟨S, bad (.inl rfl) w1 w2, Kp.refl _ _⟩
  | bl b => exact ⟨S, bad (.inl rfl) w1 w2, Kp.refl _ _⟩
  | int a ha0 ha1 =>
    cases hu with
    | non => exact ⟨S, bad (.inr rfl) w1 w2, Kp.refl _ _⟩
    | bl b => exact ⟨S, bad (.inr rfl) w1 w2, Kp.refl _ _⟩
    | int b hb0 hb1 =>
      unfold comeD
      have w1 : m_is_whole E [.int a] S = .ok (.bl true) S := w1
      have w2 : m_is_whole E [.int b] S = .ok (.bl true) S := w2
      dsimp only
      by_cases h1 : a < 1 ∨ b < 1
      · rw [if_pos h1]
        refine ⟨S, ?_, Kp.refl _ _⟩
        unfold m_Plain_come b_Plain_come
        by_cases h2 : a < 1
        · simp only [mFn, mCall, chk, mSeq, mRet, mRetN, mNext, mSet, mDrop, mIfS, mIf, mPar, mTg, mAug, mCB, mCons, mNil, mBin, mChain, mTest, bOf, mAndT, mOrT, mNotT, mAnd, mOr, mNot, mNeg, mVar, mC, mTup, mLst, mYes, mItQ, mItR1, mItR2, mItE, mItZ, mRaise, mIsi, mMt, mDNew, mStore, mGet2, mSl, mPart, bindS_ok, bindS_ex, bindS_bad, Out.bind_ok, Out.bind_ex, Out.bind_bad, ofO_some, ofO_none, List.map_cons, List.map_nil, List.replicate, List.cons_append, List.nil_append, List.append_nil, List.getElem?_cons_zero, List.getElem?_cons_succ, List.set_cons_zero, List.set_cons_succ, List.length_cons, List.length_nil, List.length_append, List.length_map, wipeF, setAll, tgM, if_true, if_false, Bool.not_true, Bool.not_false, Nat.zero_add, reduceCtorEq, Bool.false_eq_true, w1, w2, lt_ii, decide_eq_true h2]
        · simp only [mFn, mCall, chk, mSeq, mRet, mRetN, mNext, mSet, mDrop, mIfS, mIf, mPar, mTg, mAug, mCB, mCons, mNil, mBin, mChain, mTest, bOf, mAndT, mOrT, mNotT, mAnd, mOr, mNot, mNeg, mVar, mC, mTup, mLst, mYes, mItQ, mItR1, mItR2, mItE, mItZ, mRaise, mIsi, mMt, mDNew, mStore, mGet2, mSl, mPart, bindS_ok, bindS_ex, bindS_bad, Out.bind_ok, Out.bind_ex, Out.bind_bad, ofO_some, ofO_none, List.map_cons, List.map_nil, List.replicate, List.cons_append, List.nil_append, List.append_nil, List.getElem?_cons_zero, List.getElem?_cons_succ, List.set_cons_zero, List.set_cons_succ, List.length_cons, List.length_nil, List.length_append, List.length_map, wipeF, setAll, tgM, if_true, if_false, Bool.not_true, Bool.not_false, Nat.zero_add, reduceCtorEq, Bool.false_eq_true, w1, w2, lt_ii, decide_eq_false h2, decide_eq_true (h1.resolve_left h2)]
      · rw [if_neg h1]
        have h2 : ¬ a < 1 := fun z => h1 (.inl z)
        have h3 : ¬ b < 1 := fun z => h1 (.inr z)
        have t2 : ∀ x y : W, ∀ S, tupO [x, y] S = some (.tup [x, y], S) := fun x y S => tupO_ok (by decide : 2 ≤ bigL)
        have t1 : ∀ x : W, ∀ S, tupO [x] S = some (.tup [x], S) := fun x S => tupO_ok (by decide : 1 ≤ bigL)
        have l40 := ok.l40
        have big : 2000 ≤ bigL := by decide
        have ad : oAdd (std r) (.tup [.tup [.int a, .int b]]) S = some (std (r ++ [(a, b)]), S) := by
          have := add_tt (S := S) (l := r.map tp) (m := [tp (a, b)]) (by rw [List.length_append, List.length_map]; simp; omega)
          rw [show std (r ++ [(a, b)]) = .tup (r.map tp ++ [tp (a, b)]) by unfold std; rw [List.map_append]; rfl]
          exact this
        obtain ⟨S1, a1, a2⟩ := gathered_spec E (S := S) (std_q S (r ++ [(a, b)])) (by rw [List.length_append]; simp; omega)
        have a1' : m_gathered E [std (r ++ [(a, b)])] S = .ok (std (comeR r a b)) S1 := a1
        have cl : (comeR r a b).length ≤ 41 := by
          have := (gath_ok (r ++ [(a, b)])).len
          rw [List.length_append] at this
          unfold comeR
          simp only [List.length_cons, List.length_nil] at this
          omega
        have hn1 := a2.at' _ _ (by simp) hn
        by_cases hl : 40 < (comeR r a b).length
        · rw [if_pos (.inl hl)]
          refine ⟨S1, ?_, a2⟩
          unfold m_Plain_come b_Plain_come
          have hl' : g_MOST_SIZES < (((comeR r a b).length : Nat) : Int) := by show (40 : Int) < _; omega
          simp only [mFn, mCall, chk, mSeq, mRet, mRetN, mNext, mSet, mDrop, mIfS, mIf, mPar, mTg, mAug, mCB, mCons, mNil, mBin, mChain, mTest, bOf, mAndT, mOrT, mNotT, mAnd, mOr, mNot, mNeg, mVar, mC, mTup, mLst, mYes, mItQ, mItR1, mItR2, mItE, mItZ, mRaise, mIsi, mMt, mDNew, mStore, mGet2, mSl, mPart, bindS_ok, bindS_ex, bindS_bad, Out.bind_ok, Out.bind_ex, Out.bind_bad, ofO_some, ofO_none, List.map_cons, List.map_nil, List.replicate, List.cons_append, List.nil_append, List.append_nil, List.getElem?_cons_zero, List.getElem?_cons_succ, List.set_cons_zero, List.set_cons_succ, List.length_cons, List.length_nil, List.length_append, List.length_map, wipeF, setAll, tgM, if_true, if_false, Bool.not_true, Bool.not_false, Nat.zero_add, reduceCtorEq, Bool.false_eq_true, w1, w2, lt_ii, decide_eq_false h2, decide_eq_false h3, mFld, insOf_at hn, look_h, t2, t1, ad, a1', len_q (std_q S1 _), gt_ii, decide_eq_true hl']
        · have hl' : ¬ g_MOST_SIZES < (((comeR r a b).length : Nat) : Int) := by show ¬ (40 : Int) < _; omega
          have smallm : ∀ x ∈ comeR r a b, smallN x.1 = true ∧ smallN x.2 = true := fun x hx => by
            have bd := gath_bd (r := r ++ [(a, b)]) (fun y hy => by
              rcases List.mem_append.mp hy with z | z
              · exact ok.bd y z
              · rw [List.mem_singleton.mp z]; exact ⟨by show 1 ≤ a; omega, by show 1 ≤ b; omega⟩) x hx
            have hw : wsum (fun _ => 1) (comeR r a b) = wsum (fun _ => 1) (r ++ [(a, b)]) := (gath_ok _).sum _
            rw [wsum_append, wsum_cons, wsum_nil] at hw
            have hb1 := wsum_bound (f := fun _ => 1) (B := bigF) (r := r) fun y hy => by
              obtain ⟨_, _, _, q, _⟩ := ok.each hy
              show 1 * y.2 ≤ bigF
              omega
            have hx2 := wsum_le (f := fun _ => 1) (r := comeR r a b) (fun y hy => by
              have := gath_bd (r := r ++ [(a, b)]) (fun z hz => by
                rcases List.mem_append.mp hz with q | q
                · exact ok.bd z q
                · rw [List.mem_singleton.mp q]; exact ⟨by show 1 ≤ a; omega, by show 1 ≤ b; omega⟩) y hy
              show 0 ≤ 1 * y.2
              omega) hx
            have hx2 : 1 * x.2 ≤ wsum (fun _ => 1) (comeR r a b) := hx2
            have hk : x.1 ∈ keys (r ++ [(a, b)]) := ((gath_ok (r ++ [(a, b)])).mem x.1).mp (List.mem_map.mpr ⟨x, hx, rfl⟩)
            have hx1 : x.1 ≤ 10 ^ 61 := by
              obtain ⟨y, hy, e⟩ := List.mem_map.mp hk
              have e : y.1 = x.1 := e
              rcases List.mem_append.mp hy with q | q
              · obtain ⟨_, _, q3, _⟩ := ok.each q
                have : bigF ≤ 10 ^ 61 := by decide
                omega
              · rw [List.mem_singleton.mp q] at e
                have e : a = x.1 := e
                omega
            have c1 : bigF * 40 + 10 ^ 61 ≤ 10 ^ 200 := by decide
            have c2 : bigF * (r.length : Int) ≤ bigF * 40 := Int.mul_le_mul_of_nonneg_left (by omega) (by decide)
            have c3 : (10 : Int) ^ 61 ≤ 10 ^ 200 := by decide
            have hw' : wsum (fun _ => 1) (comeR r a b) = wsum (fun _ => 1) r + (1 * b + 0) := hw
            exact ⟨small_of (by omega) (by omega), small_of (by omega) (by omega)⟩
          obtain ⟨S2, b1, b2⟩ := all_folk_spec E (std_q S1 (comeR r a b)) (Nat.lt_of_le_of_lt cl (by decide)) smallm
          by_cases hfk : bigF < folkP (comeR r a b)
          · rw [if_pos (.inr hfk)]
            refine ⟨S2, ?_, a2.trans b2⟩
            have hfk' : g_MOST_FOLK < folkP (comeR r a b) := hfk
            unfold m_Plain_come b_Plain_come
            simp only [mFn, mCall, chk, mSeq, mRet, mRetN, mNext, mSet, mDrop, mIfS, mIf, mPar, mTg, mAug, mCB, mCons, mNil, mBin, mChain, mTest, bOf, mAndT, mOrT, mNotT, mAnd, mOr, mNot, mNeg, mVar, mC, mTup, mLst, mYes, mItQ, mItR1, mItR2, mItE, mItZ, mRaise, mIsi, mMt, mDNew, mStore, mGet2, mSl, mPart, bindS_ok, bindS_ex, bindS_bad, Out.bind_ok, Out.bind_ex, Out.bind_bad, ofO_some, ofO_none, List.map_cons, List.map_nil, List.replicate, List.cons_append, List.nil_append, List.append_nil, List.getElem?_cons_zero, List.getElem?_cons_succ, List.set_cons_zero, List.set_cons_succ, List.length_cons, List.length_nil, List.length_append, List.length_map, wipeF, setAll, tgM, if_true, if_false, Bool.not_true, Bool.not_false, Nat.zero_add, reduceCtorEq, Bool.false_eq_true, w1, w2, lt_ii, decide_eq_false h2, decide_eq_false h3, mFld, insOf_at hn, look_h, t2, t1, ad, a1', len_q (std_q S1 _), gt_ii, decide_eq_false hl', b1, decide_eq_true hfk']
          · rw [if_neg (fun z => z.elim hl hfk)]
            have hfk' : ¬ g_MOST_FOLK < folkP (comeR r a b) := hfk
            have hn2 := b2.at' _ _ (by simp) hn1
            refine ⟨S2.set n (.ins (E 9) (fsR (comeR r a b) (g + 0))), ?_, set_at hn2, ((a2.trans b2).mono (by simp)).trans (Kp.set (by simp))⟩
            rw [Int.add_zero]
            unfold m_Plain_come b_Plain_come
            simp only [mFn, mCall, chk, mSeq, mRet, mRetN, mNext, mSet, mDrop, mIfS, mIf, mPar, mTg, mAug, mCB, mCons, mNil, mBin, mChain, mTest, bOf, mAndT, mOrT, mNotT, mAnd, mOr, mNot, mNeg, mVar, mC, mTup, mLst, mYes, mItQ, mItR1, mItR2, mItE, mItZ, mRaise, mIsi, mMt, mDNew, mStore, mGet2, mSl, mPart, bindS_ok, bindS_ex, bindS_bad, Out.bind_ok, Out.bind_ex, Out.bind_bad, ofO_some, ofO_none, List.map_cons, List.map_nil, List.replicate, List.cons_append, List.nil_append, List.append_nil, List.getElem?_cons_zero, List.getElem?_cons_succ, List.set_cons_zero, List.set_cons_succ, List.length_cons, List.length_nil, List.length_append, List.length_map, wipeF, setAll, tgM, if_true, if_false, Bool.not_true, Bool.not_false, Nat.zero_add, reduceCtorEq, Bool.false_eq_true, w1, w2, lt_ii, decide_eq_false h2, decide_eq_false h3, mFld, insOf_at hn, look_h, t2, t1, ad, a1', len_q (std_q S1 _), gt_ii, decide_eq_false hl', b1, decide_eq_false hfk', mSetF, insOf_at hn2, fs_len, put_h]
end

/-! ## a herd parts -/
section
theorem notIn_ints {S : Sto} {n : Nat} {ns : List Int} (h : S[n]? = some (.lst (ns.map W.int))) (i : Int) : oNotIn (.int i) (.ref n) S = some (.bl (!decide (i ∈ ns)), S) := by
  have e : oNotInD (.int i) (.ref n) S = none := by
    unfold oNotInD
    simp only [lookO, keyW, h]
  unfold oNotIn orOp
  rw [e]
  dsimp only
  unfold oNotInI
  simp only [ref_q h, intsOf_map]
variable (E : Nat → Addr) {S : Sto} {n : Nat} {r : Rows} {g : Int}
theorem int1_bl (b : Bool) (S : Sto) : oInt1 [.bl b] S = some (.int (if b = true then 1 else 0), S) := rfl
theorem pl_part (hn : S[n]? = some (.ins (E 9) (fsR r g))) (ok : Ok r) {v u : W} (hv : Sc v) (hu : Sc u) : Door E n S g (m_Plain_part E [.ref n, v, u] S) r (partD r v u) 0 := by
  have w1 := sc_whole E (S := S) hv
  cases hv with
  | non =>
    refine ⟨S, ?_, Kp.refl _ _⟩
    have w1 : m_is_whole E [.non] S = .ok (.bl false) S := w1
    unfold m_Plain_part b_Plain_part
    simp only [mFn, mCall, chk, mSeq, mRet, mRetN, mNext, mSet, mDrop, mIfS, mIf, mPar, mTg, mAug, mCB, mCons, mNil, mBin, mChain, mTest, bOf, mAndT, mOrT, mNotT, mAnd, mOr, mNot, mNeg, mVar, mC, mTup, mLst, mYes, mItQ, mItR1, mItR2, mItE, mItZ, mRaise, mIsi, mMt, mDNew, mStore, mGet2, mSl, mPart, bindS_ok, bindS_ex, bindS_bad, Out.bind_ok, Out.bind_ex, Out.bind_bad, ofO_some, ofO_none, List.map_cons, List.map_nil, List.replicate, List.cons_append, List.nil_append, List.append_nil, List.getElem?_cons_zero, List.getElem?_cons_succ, List.set_cons_zero, List.set_cons_succ, List.length_cons, List.length_nil, List.length_append, List.length_map, wipeF, setAll, tgM, if_true, if_false, Bool.not_true, Bool.not_false, Nat.zero_add, reduceCtorEq, Bool.false_eq_true, w1]
  | bl b =>
    refine ⟨S, ?_, Kp.refl _ _⟩
    have w1 : m_is_whole E [.bl b] S = .ok (.bl false) S := w1
    unfold m_Plain_part b_Plain_part
    simp only [mFn, mCall, chk, mSeq, mRet, mRetN, mNext, mSet, mDrop, mIfS, mIf, mPar, mTg, mAug, mCB, mCons, mNil, mBin, mChain, mTest, bOf, mAndT, mOrT, mNotT, mAnd, mOr, mNot, mNeg, mVar, mC, mTup, mLst, mYes, mItQ, mItR1, mItR2, mItE, mItZ, mRaise, mIsi, mMt, mDNew, mStore, mGet2, mSl, mPart, bindS_ok, bindS_ex, bindS_bad, Out.bind_ok, Out.bind_ex, Out.bind_bad, ofO_some, ofO_none, List.map_cons, List.map_nil, List.replicate, List.cons_append, List.nil_append, List.append_nil, List.getElem?_cons_zero, List.getElem?_cons_succ, List.set_cons_zero, List.set_cons_succ, List.length_cons, List.length_nil, List.length_append, List.length_map, wipeF, setAll, tgM, if_true, if_false, Bool.not_true, Bool.not_false, Nat.zero_add, reduceCtorEq, Bool.false_eq_true, w1]
  | int a ha0 ha1 =>
    have w1 : m_is_whole E [.int a] S = .ok (.bl true) S := w1
    have l40 := ok.l40
    have big : 2000 ≤ bigL := by decide
    have hlT := Ok.ltT ok.toOw
    obtain ⟨S1, a1, a2, a3⟩ := comp_all (own := [3, 4]) (T := .many [3, 4]) (f := mVar 3) (φ := [some (.ref n), some (.int a), some u, none, none, none, none, none]) (it := mItQ (mFld (E 9) "herds" (mVar 0))) (S := S) (S1 := S) (m := itL (std r)) tp r (fun p => .int p.1) (by simp only [mFn, mCall, chk, mSeq, mRet, mRetN, mNext, mSet, mDrop, mIfS, mIf, mPar, mTg, mAug, mCB, mCons, mNil, mBin, mChain, mTest, bOf, mAndT, mOrT, mNotT, mAnd, mOr, mNot, mNeg, mVar, mC, mTup, mLst, mYes, mItQ, mItR1, mItR2, mItE, mItZ, mRaise, mIsi, mMt, mDNew, mStore, mGet2, mSl, mPart, bindS_ok, bindS_ex, bindS_bad, Out.bind_ok, Out.bind_ex, Out.bind_bad, ofO_some, ofO_none, List.map_cons, List.map_nil, List.replicate, List.cons_append, List.nil_append, List.append_nil, List.getElem?_cons_zero, List.getElem?_cons_succ, List.set_cons_zero, List.set_cons_succ, List.length_cons, List.length_nil, List.length_append, List.length_map, wipeF, setAll, tgM, if_true, if_false, Bool.not_true, Bool.not_false, Nat.zero_add, reduceCtorEq, Bool.false_eq_true, mFld, insOf_at hn, look_h, std_q]) (wk_l (std_q S r) fun _ _ z => nomatch z) hlT fun x hx S2 k => ⟨_, rfl, S2, rfl, Kp.refl _ _⟩
    have e1 : (r.map fun p => W.int p.1) = (keys r).map W.int := by unfold keys; rw [List.map_map]; rfl
    rw [e1] at a3
    have ni := notIn_ints a3 a
    have hn1 := a2.at' _ _ (by simp) hn
    unfold partD
    dsimp only
    by_cases hk : a ∈ keys r
    · rw [if_pos hk]
      rw [decide_eq_true hk] at ni
      have ni : oNotIn (.int a) (.ref S.length) S1 = some (.bl false, S1) := ni
      have hf := sc_from E (S := S1) hu 1 (a - 1)
      have nope : numIn 1 (a - 1) u = false → ∃ S', m_Plain_part E [.ref n, .int a, u] S = .ex ⟨E 4, none⟩ S' ∧ Kp [] S S' := fun z => by
        rw [z] at hf
        refine ⟨S1, ?_, a2⟩
        unfold m_Plain_part b_Plain_part
        simp only [mFn, mCall, chk, mSeq, mRet, mRetN, mNext, mSet, mDrop, mIfS, mIf, mPar, mTg, mAug, mCB, mCons, mNil, mBin, mChain, mTest, bOf, mAndT, mOrT, mNotT, mAnd, mOr, mNot, mNeg, mVar, mC, mTup, mLst, mYes, mItQ, mItR1, mItR2, mItE, mItZ, mRaise, mIsi, mMt, mDNew, mStore, mGet2, mSl, mPart, bindS_ok, bindS_ex, bindS_bad, Out.bind_ok, Out.bind_ex, Out.bind_bad, ofO_some, ofO_none, List.map_cons, List.map_nil, List.replicate, List.cons_append, List.nil_append, List.append_nil, List.getElem?_cons_zero, List.getElem?_cons_succ, List.set_cons_zero, List.set_cons_succ, List.length_cons, List.length_nil, List.length_append, List.length_map, wipeF, setAll, tgM, if_true, if_false, Bool.not_true, Bool.not_false, Nat.zero_add, reduceCtorEq, Bool.false_eq_true, w1, a1, ni, sub_ii, hf]
      cases hu with
      | non => exact nope rfl
      | bl b => exact nope rfl
      | int b hb0 hb1 =>
        dsimp only
        by_cases hb : 1 ≤ b ∧ b < a
        · rw [if_pos hb]
          have hf : m_is_from E [.int b, .int 1, .int (a - 1)] S1 = .ok (.bl true) S1 := by
            have hf : m_is_from E [.int b, .int 1, .int (a - 1)] S1 = .ok (.bl (decide (1 ≤ b) && decide (b ≤ a - 1))) S1 := hf
            rw [decide_eq_true hb.1, decide_eq_true (show b ≤ a - 1 by omega)] at hf
            exact hf
          have t2 : ∀ x y : W, ∀ S, tupO [x, y] S = some (.tup [x, y], S) := fun x y S => tupO_ok (by decide : 2 ≤ bigL)
          obtain ⟨S2, b1, b2, b3⟩ := comp_all (own := [3, 4]) (T := .many [3, 4]) (f := mTup (mCons (mVar 3) (mCons (mBin oSubI (mVar 4) (mCB oInt1 (mCons (mBin oEq (mVar 3) (mVar 1)) mNil))) mNil))) (φ := [some (.ref n), some (.int a), some (.int b), none, none, none, none, none]) (it := mItQ (mFld (E 9) "herds" (mVar 0))) (S := S1) (S1 := S1) (m := itL (std r)) tp r (fun p => tp (p.1, p.2 - if p.1 = a then 1 else 0)) (by simp only [mFn, mCall, chk, mSeq, mRet, mRetN, mNext, mSet, mDrop, mIfS, mIf, mPar, mTg, mAug, mCB, mCons, mNil, mBin, mChain, mTest, bOf, mAndT, mOrT, mNotT, mAnd, mOr, mNot, mNeg, mVar, mC, mTup, mLst, mYes, mItQ, mItR1, mItR2, mItE, mItZ, mRaise, mIsi, mMt, mDNew, mStore, mGet2, mSl, mPart, bindS_ok, bindS_ex, bindS_bad, Out.bind_ok, Out.bind_ex, Out.bind_bad, ofO_some, ofO_none, List.map_cons, List.map_nil, List.replicate, List.cons_append, List.nil_append, List.append_nil, List.getElem?_cons_zero, List.getElem?_cons_succ, List.set_cons_zero, List.set_cons_succ, List.length_cons, List.length_nil, List.length_append, List.length_map, wipeF, setAll, tgM, if_true, if_false, Bool.not_true, Bool.not_false, Nat.zero_add, reduceCtorEq, Bool.false_eq_true, mFld, insOf_at hn1, look_h, std_q]) (wk_l (std_q S1 r) fun _ _ z => nomatch z) hlT fun x hx S2 k => by
            refine ⟨_, rfl, S2, ?_, Kp.refl _ _⟩
            simp only [mFn, mCall, chk, mSeq, mRet, mRetN, mNext, mSet, mDrop, mIfS, mIf, mPar, mTg, mAug, mCB, mCons, mNil, mBin, mChain, mTest, bOf, mAndT, mOrT, mNotT, mAnd, mOr, mNot, mNeg, mVar, mC, mTup, mLst, mYes, mItQ, mItR1, mItR2, mItE, mItZ, mRaise, mIsi, mMt, mDNew, mStore, mGet2, mSl, mPart, bindS_ok, bindS_ex, bindS_bad, Out.bind_ok, Out.bind_ex, Out.bind_bad, ofO_some, ofO_none, List.map_cons, List.map_nil, List.replicate, List.cons_append, List.nil_append, List.append_nil, List.getElem?_cons_zero, List.getElem?_cons_succ, List.set_cons_zero, List.set_cons_succ, List.length_cons, List.length_nil, List.length_append, List.length_map, wipeF, setAll, tgM, if_true, if_false, Bool.not_true, Bool.not_false, Nat.zero_add, reduceCtorEq, Bool.false_eq_true, eq_ii, int1_bl, sub_ii, t2, decide_eq_true_eq]
            rfl
          have e2 : (r.map fun p => tp (p.1, p.2 - if p.1 = a then 1 else 0)) = (lessR r a).map tp := by unfold lessR; rw [List.map_map]; rfl
          rw [e2] at b3
          have ll : (lessR r a).length = r.length := by unfold lessR; rw [List.length_map]
          obtain ⟨S3, c1, c2, c3⟩ := comp_grow (own := [6]) (T := .one 6) (c := mTest (mBin oGtI (mBin oIx (mVar 6) (mC (.int 1))) (mC (.int 0)))) (f := mVar 6) (φ := [some (.ref n), some (.int a), some (.int b), none, none, some (.ref S1.length), none, none]) (it := mItQ (mVar 5)) (S := S2) (S1 := S2) (m := itL (.ref S1.length)) tp (lessR r a) posP tp (by simp only [mFn, mCall, chk, mSeq, mRet, mRetN, mNext, mSet, mDrop, mIfS, mIf, mPar, mTg, mAug, mCB, mCons, mNil, mBin, mChain, mTest, bOf, mAndT, mOrT, mNotT, mAnd, mOr, mNot, mNeg, mVar, mC, mTup, mLst, mYes, mItQ, mItR1, mItR2, mItE, mItZ, mRaise, mIsi, mMt, mDNew, mStore, mGet2, mSl, mPart, bindS_ok, bindS_ex, bindS_bad, Out.bind_ok, Out.bind_ex, Out.bind_bad, ofO_some, ofO_none, List.map_cons, List.map_nil, List.replicate, List.cons_append, List.nil_append, List.append_nil, List.getElem?_cons_zero, List.getElem?_cons_succ, List.set_cons_zero, List.set_cons_succ, List.length_cons, List.length_nil, List.length_append, List.length_map, wipeF, setAll, tgM, if_true, if_false, Bool.not_true, Bool.not_false, Nat.zero_add, reduceCtorEq, Bool.false_eq_true, ref_q b3]) (wk_l (ref_q b3) fun _ _ z => nomatch z) (by rw [ll]; exact hlT) fun x hx S4 k => by
            have i1 : oIx (tp x) (.int 1) S4 = some (.int x.2, S4) := ix_l (tup_q _) (atI_nat (i := 1) rfl)
            refine ⟨_, rfl, S4, ?_, Kp.refl _ _, fun _ => ⟨S4, rfl, Kp.refl _ _⟩⟩
            simp only [mFn, mCall, chk, mSeq, mRet, mRetN, mNext, mSet, mDrop, mIfS, mIf, mPar, mTg, mAug, mCB, mCons, mNil, mBin, mChain, mTest, bOf, mAndT, mOrT, mNotT, mAnd, mOr, mNot, mNeg, mVar, mC, mTup, mLst, mYes, mItQ, mItR1, mItR2, mItE, mItZ, mRaise, mIsi, mMt, mDNew, mStore, mGet2, mSl, mPart, bindS_ok, bindS_ex, bindS_bad, Out.bind_ok, Out.bind_ex, Out.bind_bad, ofO_some, ofO_none, List.map_cons, List.map_nil, List.replicate, List.cons_append, List.nil_append, List.append_nil, List.getElem?_cons_zero, List.getElem?_cons_succ, List.set_cons_zero, List.set_cons_succ, List.length_cons, List.length_nil, List.length_append, List.length_map, wipeF, setAll, tgM, if_true, if_false, Bool.not_true, Bool.not_false, Nat.zero_add, reduceCtorEq, Bool.false_eq_true, i1, gt_ii]
            rfl
          have lz : lstO [.tup [.int b, .int 1], .tup [.int (a - b), .int 1]] S3 = some (.ref S3.length, S3 ++ [.lst ([(b, 1), (a - b, 1)].map tp)]) := lstO_ok (by decide : 2 ≤ bigL)
          have kZ : Kp [] S3 (S3 ++ [.lst ([(b, 1), (a - b, 1)].map tp)]) := Kp.push _ _ _
          have atZ := at_new S3 (.lst ([(b, 1), (a - b, 1)].map tp))
          have atc := kZ.at' _ _ (by simp) c3
          generalize hSZ : S3 ++ [Ob.lst ([(b, 1), (a - b, 1)].map tp)] = SZ at *
          have fl : ((lessR r a).filter posP).length ≤ r.length := by
            have := List.length_filter_le posP (lessR r a)
            omega
          have ad := add_ll (ref_l atc) (ref_l atZ) (by rw [List.length_append, List.length_map, List.length_map]; simp only [List.length_cons, List.length_nil]; omega)
          have eB : ((lessR r a).filter posP).map tp ++ [(b, 1), (a - b, 1)].map tp = (partB r a b).map tp := by unfold partB; rw [List.map_append]
          rw [eB] at ad
          have kY : Kp [] SZ (SZ ++ [.lst ((partB r a b).map tp)]) := Kp.push _ _ _
          have atY := at_new SZ (.lst ((partB r a b).map tp))
          generalize hSY : SZ ++ [Ob.lst ((partB r a b).map tp)] = SY at *
          obtain ⟨S5, d1, d2⟩ := gathered_spec E (S := SY) (ref_q atY) (by unfold partB; rw [List.length_append]; simp only [List.length_cons, List.length_nil]; omega)
          have d1' : m_gathered E [.ref SZ.length] SY = .ok (std (partR r a b)) S5 := d1
          have k5 : Kp [] S S5 := ((((a2.trans b2).trans c2).trans kZ).trans kY).trans d2
          have hn5 := k5.at' _ _ (by simp) hn
          by_cases hl : 40 < (partR r a b).length
          · rw [if_pos hl]
            refine ⟨S5, ?_, k5⟩
            have hl' : g_MOST_SIZES < (((partR r a b).length : Nat) : Int) := by show (40 : Int) < _; omega
            unfold m_Plain_part b_Plain_part
            simp only [mFn, mCall, chk, mSeq, mRet, mRetN, mNext, mSet, mDrop, mIfS, mIf, mPar, mTg, mAug, mCB, mCons, mNil, mBin, mChain, mTest, bOf, mAndT, mOrT, mNotT, mAnd, mOr, mNot, mNeg, mVar, mC, mTup, mLst, mYes, mItQ, mItR1, mItR2, mItE, mItZ, mRaise, mIsi, mMt, mDNew, mStore, mGet2, mSl, mPart, bindS_ok, bindS_ex, bindS_bad, Out.bind_ok, Out.bind_ex, Out.bind_bad, ofO_some, ofO_none, List.map_cons, List.map_nil, List.replicate, List.cons_append, List.nil_append, List.append_nil, List.getElem?_cons_zero, List.getElem?_cons_succ, List.set_cons_zero, List.set_cons_succ, List.length_cons, List.length_nil, List.length_append, List.length_map, wipeF, setAll, tgM, if_true, if_false, Bool.not_true, Bool.not_false, Nat.zero_add, reduceCtorEq, Bool.false_eq_true, w1, a1, ni, sub_ii, hf, b1, c1, t2, lz, ad, d1', len_q (std_q S5 _), gt_ii, decide_eq_true hl']
          · rw [if_neg hl]
            have hl' : ¬ g_MOST_SIZES < (((partR r a b).length : Nat) : Int) := by show ¬ (40 : Int) < _; omega
            refine ⟨S5.set n (.ins (E 9) (fsR (partR r a b) (g + 0))), ?_, set_at hn5, (k5.mono (by simp)).trans (Kp.set (by simp))⟩
            rw [Int.add_zero]
            unfold m_Plain_part b_Plain_part
            simp only [mFn, mCall, chk, mSeq, mRet, mRetN, mNext, mSet, mDrop, mIfS, mIf, mPar, mTg, mAug, mCB, mCons, mNil, mBin, mChain, mTest, bOf, mAndT, mOrT, mNotT, mAnd, mOr, mNot, mNeg, mVar, mC, mTup, mLst, mYes, mItQ, mItR1, mItR2, mItE, mItZ, mRaise, mIsi, mMt, mDNew, mStore, mGet2, mSl, mPart, bindS_ok, bindS_ex, bindS_bad, Out.bind_ok, Out.bind_ex, Out.bind_bad, ofO_some, ofO_none, List.map_cons, List.map_nil, List.replicate, List.cons_append, List.nil_append, List.append_nil, List.getElem?_cons_zero, List.getElem?_cons_succ, List.set_cons_zero, List.set_cons_succ, List.length_cons, List.length_nil, List.length_append, List.length_map, wipeF, setAll, tgM, if_true, if_false, Bool.not_true, Bool.not_false, Nat.zero_add, reduceCtorEq, Bool.false_eq_true, w1, a1, ni, sub_ii, hf, b1, c1, t2, lz, ad, d1', len_q (std_q S5 _), gt_ii, decide_eq_false hl', mSetF, insOf_at hn5, fs_len, put_h]
        · rw [if_neg hb]
          refine nope ?_
          show (decide (1 ≤ b) && decide (b ≤ a - 1)) = false
          by_cases h1 : 1 ≤ b
          · rw [decide_eq_false (show ¬ b ≤ a - 1 by omega), Bool.and_false]
          · rw [decide_eq_false h1, Bool.false_and]
    · rw [if_neg hk]
      rw [decide_eq_false hk] at ni
      have ni : oNotIn (.int a) (.ref S.length) S1 = some (.bl true, S1) := ni
      refine ⟨S1, ?_, a2⟩
      unfold m_Plain_part b_Plain_part
      simp only [mFn, mCall, chk, mSeq, mRet, mRetN, mNext, mSet, mDrop, mIfS, mIf, mPar, mTg, mAug, mCB, mCons, mNil, mBin, mChain, mTest, bOf, mAndT, mOrT, mNotT, mAnd, mOr, mNot, mNeg, mVar, mC, mTup, mLst, mYes, mItQ, mItR1, mItR2, mItE, mItZ, mRaise, mIsi, mMt, mDNew, mStore, mGet2, mSl, mPart, bindS_ok, bindS_ex, bindS_bad, Out.bind_ok, Out.bind_ex, Out.bind_bad, ofO_some, ofO_none, List.map_cons, List.map_nil, List.replicate, List.cons_append, List.nil_append, List.append_nil, List.getElem?_cons_zero, List.getElem?_cons_succ, List.set_cons_zero, List.set_cons_succ, List.length_cons, List.length_nil, List.length_append, List.length_map, wipeF, setAll, tgM, if_true, if_false, Bool.not_true, Bool.not_false, Nat.zero_add, reduceCtorEq, Bool.false_eq_true, w1, a1, ni]
end

/-! ## what the law says of a deed -/
section
theorem put_new {d : Rows} {k v : Int} (h : k ∉ keys d) : put d k v = d ++ [(k, v)] := by
  unfold put
  rw [if_neg (fun z => ?_)]
  obtain ⟨p, hp, e⟩ := List.any_eq_true.mp z
  exact h (List.mem_map.mpr ⟨p, hp, of_decide_eq_true e⟩)
theorem merge_enc2 : ∀ (r d : Rows), (keys (d ++ r)).Nodup → mergeW (enc2 d) (enc2 r) = enc2 (d ++ r)
  | [], d, _ => by rw [List.append_nil]; rfl
  | p :: r, d, h => by
    have hp : p.1 ∉ keys d := by
      rw [keys_append, List.nodup_append] at h
      exact fun z => h.2.2 _ z _ (by simp [keys]) rfl
    show mergeW (putW (enc2 d) (.int p.1) (.int p.2)) (enc2 r) = _
    rw [put_enc2, put_new hp, merge_enc2 r (d ++ [p]) (by rw [List.append_assoc]; exact h), List.append_assoc]
    rfl
theorem pairsW_std : ∀ r : Rows, pairsW (r.map tp) = some (enc2 r)
  | [] => rfl
  | p :: r => by
    show (match keyW (.int p.1), pairsW (r.map tp) with | some _, some m => some ((W.int p.1, W.int p.2) :: m) | _, _ => none) = _
    rw [pairsW_std r]
    rfl
theorem dict_std {S : Sto} {r : Rows} (hr : Rise r) (hl : r.length ≤ bigL) : oDict [std r] S = some (.ref S.length, S ++ [.dic (enc2 r)]) := by
  unfold oDict
  simp only [std_q, pairsW_std, List.length_map, hl, if_true]
  have := merge_enc2 r [] (rise_nodup hr)
  rw [show enc2 [] = [] from rfl, List.nil_append] at this
  rw [this]
theorem dat_tp (S : Sto) (p : Int × Int) : dat S (tp p) = some (.tuple [.int p.1, .int p.2]) := rfl
theorem keyed_tps (S : Sto) : ∀ ns : Rows, keyed S (ns.map tp) = some (ns.map fun p => (tp p, PyData.tuple [.int p.1, .int p.2]))
  | [] => rfl
  | n :: ns => by
    show (match dat S (tp n), keyed S (ns.map tp) with | some d, some r => some ((tp n, d) :: r) | _, _ => none) = _
    rw [dat_tp, keyed_tps S ns]
    rfl
theorem sortable_tps (ns : Rows) : sortable (ns.map fun p => PyData.tuple [.int p.1, .int p.2]) = true := by
  unfold sortable
  rw [Bool.and_eq_true, Bool.and_eq_true, Bool.or_eq_true]
  refine ⟨⟨List.all_eq_true.mpr fun d hd => List.all_eq_true.mpr fun e he => ?_, .inl (List.all_eq_true.mpr fun d hd => ?_)⟩, List.all_eq_true.mpr fun d hd => ?_⟩
  · obtain ⟨a, _, rfl⟩ := List.mem_map.mp hd
    obtain ⟨b, _, rfl⟩ := List.mem_map.mp he
    simp [PySem.W.alike, PySem.W.alikeAll]
  · obtain ⟨a, _, rfl⟩ := List.mem_map.mp hd
    rfl
  · obtain ⟨a, _, rfl⟩ := List.mem_map.mp hd
    simp [PyData.depth, PyData.depthAll]
theorem sort_tps {S : Sto} {x : W} {ns : Rows} (h : asQ S x = some (false, ns.map tp)) (hl : ns.length ≤ bigL) : oSort [x] S = some (.ref S.length, S ++ [.lst ((ns.mergeSort le2).map tp)]) := by
  have e : sortW S (ns.map tp) = some ((ns.mergeSort le2).map tp) := by
    unfold sortW
    rw [keyed_tps]
    dsimp only
    rw [List.map_map, show ((fun x : W × PyData => x.2) ∘ fun p : Int × Int => (tp p, PyData.tuple [.int p.1, .int p.2])) = fun p => PyData.tuple [.int p.1, .int p.2] from rfl, if_pos (sortable_tps ns)]
    congr 1
    unfold sortP
    have hm : (ns.map fun p => (tp p, PyData.tuple [.int p.1, .int p.2])).mergeSort (PySem.W.dataLe false (·.2)) = (ns.mergeSort le2).map fun p => (tp p, PyData.tuple [.int p.1, .int p.2]) := by
      refine (PySem.W.sort_maps (r := le2) (s := PySem.W.dataLe false (·.2)) (fun p : Int × Int => (tp p, PyData.tuple [.int p.1, .int p.2])) fun a _ b _ => ?_).symm
      have := congrFun (congrFun (PySem.W.dataLe_ii (β := Int × Int) (fun b => b.1) fun b => b.2) a) b
      exact this.symm
    rw [hm, List.map_map]
    rfl
  unfold oSort orC oSortL
  simp only [h, e]
  rw [lstO_ok (by rw [List.length_map, List.length_mergeSort]; exact hl)]
theorem eq_strs {S : Sto} {x y : Str} {b : Bool} (hx : SeqAt.shaped (.str x) = true) (hy : SeqAt.shaped (.str y) = true) (hb : PyData.eqv (.str x) (.str y) = b) : oEq (.str x) (.str y) S = some (.bl b, S) := by
  unfold oEq
  rw [dat_of_toD (d := .str x) rfl hx, dat_of_toD (d := .str y) rfl hy]
  dsimp only
  rw [hb]
theorem es_gc (S : Sto) : oEq (.str "go") (.str "go") S = some (.bl true, S) := eq_strs (by simp [SeqAt.shaped, PyData.canLay0, PyData.depth]; decide +kernel) (by simp [SeqAt.shaped, PyData.canLay0, PyData.depth]; decide +kernel) (by simp only [PyData.eqv]; decide +kernel)
theorem es_cg (S : Sto) : oEq (.str "come") (.str "go") S = some (.bl false, S) := eq_strs (by simp [SeqAt.shaped, PyData.canLay0, PyData.depth]; decide +kernel) (by simp [SeqAt.shaped, PyData.canLay0, PyData.depth]; decide +kernel) (by simp only [PyData.eqv]; decide +kernel)
theorem es_cc (S : Sto) : oEq (.str "come") (.str "come") S = some (.bl true, S) := eq_strs (by simp [SeqAt.shaped, PyData.canLay0, PyData.depth]; decide +kernel) (by simp [SeqAt.shaped, PyData.canLay0, PyData.depth]; decide +kernel) (by simp only [PyData.eqv]; decide +kernel)
theorem es_pg (S : Sto) : oEq (.str "part") (.str "go") S = some (.bl false, S) := eq_strs (by simp [SeqAt.shaped, PyData.canLay0, PyData.depth]; decide +kernel) (by simp [SeqAt.shaped, PyData.canLay0, PyData.depth]; decide +kernel) (by simp only [PyData.eqv]; decide +kernel)
theorem es_pc (S : Sto) : oEq (.str "part") (.str "come") S = some (.bl false, S) := eq_strs (by simp [SeqAt.shaped, PyData.canLay0, PyData.depth]; decide +kernel) (by simp [SeqAt.shaped, PyData.canLay0, PyData.depth]; decide +kernel) (by simp only [PyData.eqv]; decide +kernel)
variable (E : Nat → Addr) {S : Sto} {r : Rows}
def bAft : SM :=
    (mSeq (mFor (mItQ (mIf (mTest (mBin oEq (mVar 2) (mC (.str "come")))) (mLst (mCons (mTup (mCons (mVar 3) (mCons (mVar 4) mNil))) mNil)) (mLst (mCons (mTup (mCons (mVar 3) (mCons (mNeg (mC (.int 1))) mNil))) (mCons (mTup (mCons (mVar 4) (mCons (mC (.int 1)) mNil))) (mCons (mTup (mCons (mBin oSubI (mVar 3) (mVar 4)) (mCons (mC (.int 1)) mNil))) mNil)))))) (.many [7, 8]) (mStore (mVar 6) (mVar 7) (mBin oAdd (mGet2 (mVar 6) (mVar 7) (mC (.int 0))) (mVar 8))))
    (mRet (mCB oTuple (mCons (mCB oSort (mCons (mItP 6 9) mNil)) mNil))))
def bAfter (E : Nat → Addr) : SM :=
    (mSeq (mTg (.many [2, 3, 4]) (mVar 1))
    (mSeq (mIfS (mTest (mBin oEq (mVar 2) (mC (.str "go")))) (mSeq (mSet 5 (mCall 1 (m_l_way E) (mCons (mVar 0) mNil)))
    (mRet (mBin oIx (mVar 5) (mCB oMin2 (mCons (mVar 3) (mCons (mBin oSubI (mCB oLen (mCons (mVar 5) mNil)) (mC (.int 1))) mNil)))))) mNext)
    (mSeq (mSet 6 (mCB oDict (mCons (mVar 0) mNil)))
    bAft)))
theorem after_is : b_l_after E = bAfter E := rfl
def itAft : FE ItM := (mItQ (mIf (mTest (mBin oEq (mVar 2) (mC (.str "come")))) (mLst (mCons (mTup (mCons (mVar 3) (mCons (mVar 4) mNil))) mNil)) (mLst (mCons (mTup (mCons (mVar 3) (mCons (mNeg (mC (.int 1))) mNil))) (mCons (mTup (mCons (mVar 4) (mCons (mC (.int 1)) mNil))) (mCons (mTup (mCons (mBin oSubI (mVar 3) (mVar 4)) (mCons (mC (.int 1)) mNil))) mNil))))))
/-- the loop over the changes, and what comes behind -/
theorem after_loop {w1 w2 w3 w4 : W} {o5 : Option W} {x : W} {A : Rows} {S1 : Sto} {n : Nat} (ok : Rise r) (h40 : r.length ≤ 40) (hA : A.length ≤ 3)
    (hit : itAft [some (std r), some w1, some w2, some w3, some w4, o5, some (.ref n), none, none, none] S = .ok (itL x) S1) (hx : asQ S1 x = some (false, A.map tp)) (hxn : ∀ m, x = .ref m → m ≠ n) (hn : S1[n]? = some (.dic (enc2 r))) :
    ∃ S', bAft [some (std r), some w1, some w2, some w3, some w4, o5, some (.ref n), none, none, none] S = .rt (std (lawT (r ++ A))) S' ∧ Kp [n] S1 S' := by
  have big : 2000 ≤ bigL := by decide
  have tr : tally r = r := tally_id (rise_nodup ok)
  unfold bAft
  refine seq_then (P := fun o => ∃ S', o = .rt (std (lawT (r ++ A))) S' ∧ Kp [n] S1 S') ?_
  refine for_ind (P := ThenP (fun o => ∃ S', o = .rt (std (lawT (r ++ A))) S' ∧ Kp [n] S1 S') _) (S1 := S1) (l := A.map tp) (d := [n]) (m := itL x)
    (fun i φ Sx => (∃ g7 g8, φ = [some (std r), some w1, some w2, some w3, some w4, o5, some (.ref n), g7, g8, none]) ∧ Kp [n] S1 Sx ∧ Sx[n]? = some (.dic (enc2 (tally (r ++ A.take i)))))
    hit (wk_l hx fun m e z => hxn m e (by simpa using z)) (by rw [List.length_map]; exact Nat.lt_of_le_of_lt hA (by decide)) ⟨⟨_, _, rfl⟩, Kp.refl _ _, by rw [List.take_zero, List.append_nil, tr]; exact hn⟩ (fun i φ S h => h.2.1) (fun i y φ Sx e h => ?_) (fun φ Sx h => ?_)
  · obtain ⟨⟨g7, g8, rfl⟩, h2, h3⟩ := h
    rw [List.getElem?_map] at e
    obtain ⟨p, e2, rfl⟩ := Option.map_eq_some_iff.mp e
    refine ⟨_, rfl, ?_⟩
    have hlt : (tally (r ++ A.take i)).length < bigL := by
      have := (tally_ok (r ++ A.take i)).len
      rw [List.length_append, List.length_take] at this
      omega
    simp only [mFn, mCall, chk, mSeq, mRet, mRetN, mNext, mSet, mDrop, mIfS, mIf, mPar, mTg, mAug, mCB, mCons, mNil, mBin, mChain, mTest, bOf, mAndT, mOrT, mNotT, mAnd, mOr, mNot, mNeg, mVar, mC, mTup, mLst, mYes, mItQ, mItR1, mItR2, mItE, mItZ, mRaise, mIsi, mMt, mDNew, mStore, mGet2, mSl, mPart, bindS_ok, bindS_ex, bindS_bad, Out.bind_ok, Out.bind_ex, Out.bind_bad, ofO_some, ofO_none, List.map_cons, List.map_nil, List.replicate, List.cons_append, List.nil_append, List.append_nil, List.getElem?_cons_zero, List.getElem?_cons_succ, List.set_cons_zero, List.set_cons_succ, List.length_cons, List.length_nil, List.length_append, List.length_map, wipeF, setAll, tgM, if_true, if_false, Bool.not_true, Bool.not_false, Nat.zero_add, reduceCtorEq, Bool.false_eq_true, isDic_ref h3, get_dic h3, look_enc2, add_ii, set_dic h3 hlt]
    refine ⟨⟨_, _, rfl⟩, h2.trans (Kp.set (by simp)), ?_⟩
    rw [set_at h3, List.take_succ, e2]
    show _ = some (Ob.dic (enc2 (tally (r ++ (A.take i ++ [p])))))
    rw [← List.append_assoc, tally_snoc]
  · obtain ⟨⟨g7, g8, rfl⟩, h2, h3⟩ := h
    rw [List.length_map, List.take_length] at h3
    have tl := (tally_ok (r ++ A)).len
    rw [List.length_append] at tl
    have fl := List.length_filter_le posP (tally (r ++ A))
    have ip : mItP 6 9 [some (std r), some w1, some w2, some w3, some w4, o5, some (.ref n), g7, g8, none] Sx = .ok (.ref Sx.length) (Sx ++ [.lst (((tally (r ++ A)).filter posP).map tp)]) := by
      unfold mItP
      simp only [List.getElem?_cons_zero, List.getElem?_cons_succ, h3, pairs_enc2, List.length_cons, List.length_nil, show (9 : Nat) < 0 + 1 + 1 + 1 + 1 + 1 + 1 + 1 + 1 + 1 + 1 by decide, if_true]
      rw [lstO_ok (by rw [List.length_map]; omega)]
      rfl
    have at1 := at_new Sx (.lst (((tally (r ++ A)).filter posP).map tp))
    have so := sort_tps (ref_q at1) (by omega)
    generalize hSY : Sx ++ [Ob.lst (((tally (r ++ A)).filter posP).map tp)] = SY at *
    have at2 := at_new SY (.lst ((((tally (r ++ A)).filter posP).mergeSort le2).map tp))
    have tq := tuple_q (ref_q at2) (by rw [List.length_map, List.length_mergeSort]; omega)
    refine ⟨SY ++ [.lst ((((tally (r ++ A)).filter posP).mergeSort le2).map tp)], ?_, h2.trans ((by rw [← hSY]; exact Kp.push _ _ _ : Kp [n] Sx SY).trans (Kp.push _ _ _))⟩
    simp only [mFn, mCall, chk, mSeq, mRet, mRetN, mNext, mSet, mDrop, mIfS, mIf, mPar, mTg, mAug, mCB, mCons, mNil, mBin, mChain, mTest, bOf, mAndT, mOrT, mNotT, mAnd, mOr, mNot, mNeg, mVar, mC, mTup, mLst, mYes, mItQ, mItR1, mItR2, mItE, mItZ, mRaise, mIsi, mMt, mDNew, mStore, mGet2, mSl, mPart, bindS_ok, bindS_ex, bindS_bad, Out.bind_ok, Out.bind_ex, Out.bind_bad, ofO_some, ofO_none, List.map_cons, List.map_nil, List.replicate, List.cons_append, List.nil_append, List.append_nil, List.getElem?_cons_zero, List.getElem?_cons_succ, List.set_cons_zero, List.set_cons_succ, List.length_cons, List.length_nil, List.length_append, List.length_map, wipeF, setAll, tgM, if_true, if_false, Bool.not_true, Bool.not_false, Nat.zero_add, reduceCtorEq, Bool.false_eq_true, ip, so, tq]
    rfl
theorem after_come (ok : Ok r) (a b : Int) : ∃ S', m_l_after E [std r, .tup [.str "come", .int a, .int b]] S = .ok (std (lawT (r ++ [(a, b)]))) S' ∧ Kp [] S S' := by
  have l40 := ok.l40
  have big : 2000 ≤ bigL := by decide
  have hd := dict_std (S := S) ok.rise (by omega)
  have at1 := at_new S (.dic (enc2 r))
  have k1 : Kp [] S (S ++ [.dic (enc2 r)]) := Kp.push _ _ _
  generalize hS1 : S ++ [Ob.dic (enc2 r)] = S1 at *
  have t2 : ∀ x y : W, ∀ S, tupO [x, y] S = some (.tup [x, y], S) := fun x y S => tupO_ok (by decide : 2 ≤ bigL)
  have lz : lstO [.tup [.int a, .int b]] S1 = some (.ref S1.length, S1 ++ [.lst ([(a, b)].map tp)]) := lstO_ok (by decide : 1 ≤ bigL)
  have k2 : Kp [] S1 (S1 ++ [.lst ([(a, b)].map tp)]) := Kp.push _ _ _
  have at2 := at_new S1 (.lst ([(a, b)].map tp))
  have atd := k2.at' _ _ (by simp) at1
  have lt := (List.getElem?_eq_some_iff.mp at1).1
  generalize hS2 : S1 ++ [Ob.lst ([(a, b)].map tp)] = S2 at *
  obtain ⟨S3, c1, c2⟩ := after_loop (S := S1) (w1 := .tup [.str "come", .int a, .int b]) (w2 := .str "come") (w3 := .int a) (w4 := .int b) (o5 := none) (x := .ref S1.length)
    (A := [(a, b)]) (n := S.length) (S1 := S2) ok.rise l40 (show 1 ≤ 3 by decide) (by unfold itAft; simp only [mFn, mCall, chk, mSeq, mRet, mRetN, mNext, mSet, mDrop, mIfS, mIf, mPar, mTg, mAug, mCB, mCons, mNil, mBin, mChain, mTest, bOf, mAndT, mOrT, mNotT, mAnd, mOr, mNot, mNeg, mVar, mC, mTup, mLst, mYes, mItQ, mItR1, mItR2, mItE, mItZ, mRaise, mIsi, mMt, mDNew, mStore, mGet2, mSl, mPart, bindS_ok, bindS_ex, bindS_bad, Out.bind_ok, Out.bind_ex, Out.bind_bad, ofO_some, ofO_none, List.map_cons, List.map_nil, List.replicate, List.cons_append, List.nil_append, List.append_nil, List.getElem?_cons_zero, List.getElem?_cons_succ, List.set_cons_zero, List.set_cons_succ, List.length_cons, List.length_nil, List.length_append, List.length_map, wipeF, setAll, tgM, if_true, if_false, Bool.not_true, Bool.not_false, Nat.zero_add, reduceCtorEq, Bool.false_eq_true, es_cc, t2, lz, ref_q at2]) (ref_q at2) (fun m e => by cases e; omega) atd
  refine ⟨S3, ?_, (k1.trans k2).fresh c2 fun m hm => .inr (by simp at hm; omega)⟩
  show mFn 8 (b_l_after E) _ _ = _
  rw [after_is]
  unfold bAfter
  simp only [mFn, mCall, chk, mSeq, mRet, mRetN, mNext, mSet, mDrop, mIfS, mIf, mPar, mTg, mAug, mCB, mCons, mNil, mBin, mChain, mTest, bOf, mAndT, mOrT, mNotT, mAnd, mOr, mNot, mNeg, mVar, mC, mTup, mLst, mYes, mItQ, mItR1, mItR2, mItE, mItZ, mRaise, mIsi, mMt, mDNew, mStore, mGet2, mSl, mPart, bindS_ok, bindS_ex, bindS_bad, Out.bind_ok, Out.bind_ex, Out.bind_bad, ofO_some, ofO_none, List.map_cons, List.map_nil, List.replicate, List.cons_append, List.nil_append, List.append_nil, List.getElem?_cons_zero, List.getElem?_cons_succ, List.set_cons_zero, List.set_cons_succ, List.length_cons, List.length_nil, List.length_append, List.length_map, wipeF, setAll, tgM, if_true, if_false, Bool.not_true, Bool.not_false, Nat.zero_add, reduceCtorEq, Bool.false_eq_true, es_cg, hd, c1]
theorem after_part (ok : Ok r) (a b : Int) : ∃ S', m_l_after E [std r, .tup [.str "part", .int a, .int b]] S = .ok (std (lawT (r ++ [(a, -1), (b, 1), (a - b, 1)]))) S' ∧ Kp [] S S' := by
  have l40 := ok.l40
  have big : 2000 ≤ bigL := by decide
  have hd := dict_std (S := S) ok.rise (by omega)
  have at1 := at_new S (.dic (enc2 r))
  have k1 : Kp [] S (S ++ [.dic (enc2 r)]) := Kp.push _ _ _
  generalize hS1 : S ++ [Ob.dic (enc2 r)] = S1 at *
  have t2 : ∀ x y : W, ∀ S, tupO [x, y] S = some (.tup [x, y], S) := fun x y S => tupO_ok (by decide : 2 ≤ bigL)
  have lz : lstO [.tup [.int a, .int (-1)], .tup [.int b, .int 1], .tup [.int (a - b), .int 1]] S1 = some (.ref S1.length, S1 ++ [.lst ([(a, -1), (b, 1), (a - b, 1)].map tp)]) := lstO_ok (by decide : 3 ≤ bigL)
  have k2 : Kp [] S1 (S1 ++ [.lst ([(a, -1), (b, 1), (a - b, 1)].map tp)]) := Kp.push _ _ _
  have at2 := at_new S1 (.lst ([(a, -1), (b, 1), (a - b, 1)].map tp))
  have atd := k2.at' _ _ (by simp) at1
  have lt := (List.getElem?_eq_some_iff.mp at1).1
  generalize hS2 : S1 ++ [Ob.lst ([(a, -1), (b, 1), (a - b, 1)].map tp)] = S2 at *
  obtain ⟨S3, c1, c2⟩ := after_loop (S := S1) (w1 := .tup [.str "part", .int a, .int b]) (w2 := .str "part") (w3 := .int a) (w4 := .int b) (o5 := none) (x := .ref S1.length)
    (A := [(a, -1), (b, 1), (a - b, 1)]) (n := S.length) (S1 := S2) ok.rise l40 (show 3 ≤ 3 by decide) (by unfold itAft; simp only [mFn, mCall, chk, mSeq, mRet, mRetN, mNext, mSet, mDrop, mIfS, mIf, mPar, mTg, mAug, mCB, mCons, mNil, mBin, mChain, mTest, bOf, mAndT, mOrT, mNotT, mAnd, mOr, mNot, mNeg, mVar, mC, mTup, mLst, mYes, mItQ, mItR1, mItR2, mItE, mItZ, mRaise, mIsi, mMt, mDNew, mStore, mGet2, mSl, mPart, bindS_ok, bindS_ex, bindS_bad, Out.bind_ok, Out.bind_ex, Out.bind_bad, ofO_some, ofO_none, List.map_cons, List.map_nil, List.replicate, List.cons_append, List.nil_append, List.append_nil, List.getElem?_cons_zero, List.getElem?_cons_succ, List.set_cons_zero, List.set_cons_succ, List.length_cons, List.length_nil, List.length_append, List.length_map, wipeF, setAll, tgM, if_true, if_false, Bool.not_true, Bool.not_false, Nat.zero_add, reduceCtorEq, Bool.false_eq_true, es_pc, t2, sub_ii, lz, ref_q at2]) (ref_q at2) (fun m e => by cases e; omega) atd
  refine ⟨S3, ?_, (k1.trans k2).fresh c2 fun m hm => .inr (by simp at hm; omega)⟩
  show mFn 8 (b_l_after E) _ _ = _
  rw [after_is]
  unfold bAfter
  simp only [mFn, mCall, chk, mSeq, mRet, mRetN, mNext, mSet, mDrop, mIfS, mIf, mPar, mTg, mAug, mCB, mCons, mNil, mBin, mChain, mTest, bOf, mAndT, mOrT, mNotT, mAnd, mOr, mNot, mNeg, mVar, mC, mTup, mLst, mYes, mItQ, mItR1, mItR2, mItE, mItZ, mRaise, mIsi, mMt, mDNew, mStore, mGet2, mSl, mPart, bindS_ok, bindS_ex, bindS_bad, Out.bind_ok, Out.bind_ex, Out.bind_bad, ofO_some, ofO_none, List.map_cons, List.map_nil, List.replicate, List.cons_append, List.nil_append, List.append_nil, List.getElem?_cons_zero, List.getElem?_cons_succ, List.set_cons_zero, List.set_cons_succ, List.length_cons, List.length_nil, List.length_append, List.length_map, wipeF, setAll, tgM, if_true, if_false, Bool.not_true, Bool.not_false, Nat.zero_add, reduceCtorEq, Bool.false_eq_true, es_pg, hd, c1]
theorem after_go (ok : Ok r) {d : Int} (h1 : 1 ≤ d) (z : W) : ∃ S', m_l_after E [std r, .tup [.str "go", .int d, z]] S = .ok (std (iter r d.toNat)) S' ∧ Kp [] S S' := by
  obtain ⟨S1, k, a1, a2, a3, a4⟩ := l_way_ok E (S := S) ok.toOw
  have hp := wayL_pos r
  have hm : min d (((wayL r).length : Nat) - 1) = ((min d.toNat ((wayL r).length - 1) : Nat) : Int) := by omega
  have hat : L2.atI ((wayL r).map std) ((min d.toNat ((wayL r).length - 1) : Nat) : Int) = some (std (iter r d.toNat)) := atI_nat (by rw [List.getElem?_map, wayL_at ok.toOw]; rfl)
  refine ⟨S1, ?_, a4⟩
  show mFn 8 (b_l_after E) _ _ = _
  rw [after_is]
  unfold bAfter
  simp only [mFn, mCall, chk, mSeq, mRet, mRetN, mNext, mSet, mDrop, mIfS, mIf, mPar, mTg, mAug, mCB, mCons, mNil, mBin, mChain, mTest, bOf, mAndT, mOrT, mNotT, mAnd, mOr, mNot, mNeg, mVar, mC, mTup, mLst, mYes, mItQ, mItR1, mItR2, mItE, mItZ, mRaise, mIsi, mMt, mDNew, mStore, mGet2, mSl, mPart, bindS_ok, bindS_ex, bindS_bad, Out.bind_ok, Out.bind_ex, Out.bind_bad, ofO_some, ofO_none, List.map_cons, List.map_nil, List.replicate, List.cons_append, List.nil_append, List.append_nil, List.getElem?_cons_zero, List.getElem?_cons_succ, List.set_cons_zero, List.set_cons_succ, List.length_cons, List.length_nil, List.length_append, List.length_map, wipeF, setAll, tgM, if_true, if_false, Bool.not_true, Bool.not_false, Nat.zero_add, reduceCtorEq, Bool.false_eq_true, es_gc, a1, len_q (ref_q a3), sub_ii, min_ii, hm, ix_l (ref_q a3) hat]
end

/-! ## a deed tried, and what is due -/
section
def isR : Nat ⊕ Rows → Bool
  | .inr _ => true
  | .inl _ => false
def tellD : Nat ⊕ Rows → Str
  | .inr _ => ""
  | .inl 2 => "NoCount+"
  | .inl 3 => "NoHerds+"
  | .inl 4 => "NoFirst+"
  | .inl 7 => "Full+"
  | .inl _ => "?"
def behD (r : Rows) : Nat ⊕ Rows → Rows
  | .inr r' => r'
  | .inl _ => r
def gonD (g dg : Int) : Nat ⊕ Rows → Int
  | .inr _ => g + dg
  | .inl _ => g
def kindD : Nat ⊕ Rows → Prop
  | .inr _ => True
  | .inl i => i = 2 ∨ i = 3 ∨ i = 4 ∨ i = 7
variable (E : Nat → Addr) {S : Sto} {r : Rows} {n : Nat} {g dg : Int}
theorem tried {q : Str} {fb : FE W} {φ : Fr} {o : Out W} {d : Nat ⊕ Rows} (inj : Inj9 E) (ht : S[0]? = some (.tab (E 100) q)) (hn : S[n]? = some (.ins (E 9) (fsR r g))) (hfb : fb φ S = o) (hD : Door E n S g o r d dg) (hk : kindD d) :
    ∃ w S', mTry (E 100) q 0 E fb φ S = .ok w S' ∧ (∀ S, oEq w (.tup [.str "told", .non]) S = some (.bl (isR d), S)) ∧ (isR d = false → w = .str (tellD d)) ∧ S'[n]? = some (.ins (E 9) (fsR (behD r d) (gonD g dg d))) ∧ Kp [n] S S' := by
  cases d with
  | inr r' =>
    obtain ⟨S1, e, h1, h2⟩ := hD
    rw [e] at hfb
    exact ⟨_, S1, try_told ht hfb, fun S => (by kernel_rfl), (fun z => by cases z), h1, h2⟩
  | inl i =>
    obtain ⟨S1, e, h2⟩ := hD
    rw [e] at hfb
    have h3 : Kp [] S1 (S1 ++ kinJunk i) := Kp.push _ _ _
    have hk : i = 2 ∨ i = 3 ∨ i = 4 ∨ i = 7 := hk
    have t := try_ex inj ht (by omega) (by omega) hfb
    have hat := (h2.trans h3).at' _ _ (by simp) hn
    rcases hk with rfl | rfl | rfl | rfl
    · exact ⟨_, _, t, fun S => by kernel_rfl, fun _ => by kernel_rfl, hat, (h2.trans h3).mono (by simp)⟩
    · exact ⟨_, _, t, fun S => by kernel_rfl, fun _ => by kernel_rfl, hat, (h2.trans h3).mono (by simp)⟩
    · exact ⟨_, _, t, fun S => by kernel_rfl, fun _ => by kernel_rfl, hat, (h2.trans h3).mono (by simp)⟩
    · exact ⟨_, _, t, fun S => by kernel_rfl, fun _ => by kernel_rfl, hat, (h2.trans h3).mono (by simp)⟩
theorem kind_go (r : Rows) (v : W) : kindD (goD r v) := by
  unfold goD
  split
  · split
    · trivial
    · exact .inl rfl
  · exact .inl rfl
theorem kind_come (r : Rows) (v u : W) : kindD (comeD r v u) := by
  unfold comeD
  split
  · split
    · exact .inr (.inl rfl)
    · split
      · exact .inr (.inr (.inr rfl))
      · trivial
  · exact .inr (.inl rfl)
theorem kind_part (r : Rows) (v u : W) : kindD (partD r v u) := by
  unfold partD
  split
  · split
    · split
      · split
        · split
          · exact .inr (.inr (.inr rfl))
          · trivial
        · exact .inr (.inr (.inl rfl))
      · exact .inr (.inr (.inl rfl))
    · exact .inr (.inl rfl)
  · exact .inr (.inl rfl)
theorem do_end {w w1 w2 w3 w4 : W} {d : Nat ⊕ Rows} {S' : Sto} (h1 : ∀ S, oEq w (.tup [.str "told", .non]) S = some (.bl (isR d), S)) (h2 : isR d = false → w = .str (tellD d)) (x : W) :
    (mRet (mIf (mTest (mBin oEq (mVar 5) (mTup (mCons (mC (.str "told")) (mCons (mC .non) mNil))))) (mC (.str "")) (mVar 5))) [some x, some w1, some w2, some w3, some w4, some w] S' = .rt (.str (tellD d)) S' := by
  have t2 : ∀ a b : W, ∀ S, tupO [a, b] S = some (.tup [a, b], S) := fun a b S => tupO_ok (by decide : 2 ≤ bigL)
  cases d with
  | inr r' =>
    have h1 : ∀ S, oEq w (.tup [.str "told", .non]) S = some (.bl true, S) := h1
    simp only [mFn, mCall, chk, mSeq, mRet, mRetN, mNext, mSet, mDrop, mIfS, mIf, mPar, mTg, mAug, mCB, mCons, mNil, mBin, mChain, mTest, bOf, mAndT, mOrT, mNotT, mAnd, mOr, mNot, mNeg, mVar, mC, mTup, mLst, mYes, mItQ, mItR1, mItR2, mItE, mItZ, mRaise, mIsi, mMt, mDNew, mStore, mGet2, mSl, mPart, bindS_ok, bindS_ex, bindS_bad, Out.bind_ok, Out.bind_ex, Out.bind_bad, ofO_some, ofO_none, List.map_cons, List.map_nil, List.replicate, List.cons_append, List.nil_append, List.append_nil, List.getElem?_cons_zero, List.getElem?_cons_succ, List.set_cons_zero, List.set_cons_succ, List.length_cons, List.length_nil, List.length_append, List.length_map, wipeF, setAll, tgM, if_true, if_false, Bool.not_true, Bool.not_false, Nat.zero_add, reduceCtorEq, Bool.false_eq_true, t2, h1]
    rfl
  | inl i =>
    have h1 : ∀ S, oEq w (.tup [.str "told", .non]) S = some (.bl false, S) := h1
    have h2 := h2 rfl
    subst h2
    simp only [mFn, mCall, chk, mSeq, mRet, mRetN, mNext, mSet, mDrop, mIfS, mIf, mPar, mTg, mAug, mCB, mCons, mNil, mBin, mChain, mTest, bOf, mAndT, mOrT, mNotT, mAnd, mOr, mNot, mNeg, mVar, mC, mTup, mLst, mYes, mItQ, mItR1, mItR2, mItE, mItZ, mRaise, mIsi, mMt, mDNew, mStore, mGet2, mSl, mPart, bindS_ok, bindS_ex, bindS_bad, Out.bind_ok, Out.bind_ex, Out.bind_bad, ofO_some, ofO_none, List.map_cons, List.map_nil, List.replicate, List.cons_append, List.nil_append, List.append_nil, List.getElem?_cons_zero, List.getElem?_cons_succ, List.set_cons_zero, List.set_cons_succ, List.length_cons, List.length_nil, List.length_append, List.length_map, wipeF, setAll, tgM, if_true, if_false, Bool.not_true, Bool.not_false, Nat.zero_add, reduceCtorEq, Bool.false_eq_true, t2, h1]
theorem do_go (inj : Inj9 E) (ht : S[0]? = some (.tab (E 100) "_law_do.<locals>.<lambda>")) (hn : S[n]? = some (.ins (E 9) (fsR r g))) (ok : Ok r) {v : W} (hv : Sc v) (z : W) :
    ∃ S', m_l_do E [.ref n, .tup [.str "go", v, z]] S = .ok (.str (tellD (goD r v))) S' ∧ S'[n]? = some (.ins (E 9) (fsR (behD r (goD r v)) (gonD g (match v with | .int d => d | _ => 0) (goD r v)))) ∧ Kp [n] S S' := by
  obtain ⟨w, S1, a1, a2, a3, a4, a5⟩ := tried E (fb := mMeth (E 9) "go" 2 (m_Plain_go E) (mVar 0) (mCons (mVar 3) mNil)) (φ := [some (.ref n), some (.tup [.str "go", v, z]), some (.str "go"), some v, some z, none]) inj ht hn (by
    simp only [mFn, mCall, chk, mSeq, mRet, mRetN, mNext, mSet, mDrop, mIfS, mIf, mPar, mTg, mAug, mCB, mCons, mNil, mBin, mChain, mTest, bOf, mAndT, mOrT, mNotT, mAnd, mOr, mNot, mNeg, mVar, mC, mTup, mLst, mYes, mItQ, mItR1, mItR2, mItE, mItZ, mRaise, mIsi, mMt, mDNew, mStore, mGet2, mSl, mPart, bindS_ok, bindS_ex, bindS_bad, Out.bind_ok, Out.bind_ex, Out.bind_bad, ofO_some, ofO_none, List.map_cons, List.map_nil, List.replicate, List.cons_append, List.nil_append, List.append_nil, List.getElem?_cons_zero, List.getElem?_cons_succ, List.set_cons_zero, List.set_cons_succ, List.length_cons, List.length_nil, List.length_append, List.length_map, wipeF, setAll, tgM, if_true, if_false, Bool.not_true, Bool.not_false, Nat.zero_add, reduceCtorEq, Bool.false_eq_true, mMeth, insOf_at hn, show List.lookup ("go" : Str) (fsR r g) = none from rfl]) (pl_go E hn ok hv) (kind_go r v)
  have de := do_end (w1 := .tup [.str "go", v, z]) (w2 := .str "go") (w3 := v) (w4 := z) (S' := S1) a2 a3 (.ref n)
  refine ⟨S1, ?_, a4, a5⟩
  unfold m_l_do b_l_do
  generalize mRet _ = T at de ⊢
  simp only [mFn, mCall, chk, mSeq, mRet, mRetN, mNext, mSet, mDrop, mIfS, mIf, mPar, mTg, mAug, mCB, mCons, mNil, mBin, mChain, mTest, bOf, mAndT, mOrT, mNotT, mAnd, mOr, mNot, mNeg, mVar, mC, mTup, mLst, mYes, mItQ, mItR1, mItR2, mItE, mItZ, mRaise, mIsi, mMt, mDNew, mStore, mGet2, mSl, mPart, bindS_ok, bindS_ex, bindS_bad, Out.bind_ok, Out.bind_ex, Out.bind_bad, ofO_some, ofO_none, List.map_cons, List.map_nil, List.replicate, List.cons_append, List.nil_append, List.append_nil, List.getElem?_cons_zero, List.getElem?_cons_succ, List.set_cons_zero, List.set_cons_succ, List.length_cons, List.length_nil, List.length_append, List.length_map, wipeF, setAll, tgM, if_true, if_false, Bool.not_true, Bool.not_false, Nat.zero_add, reduceCtorEq, Bool.false_eq_true, es_gc, a1, de]
theorem do_come (inj : Inj9 E) (ht : S[0]? = some (.tab (E 100) "_law_do.<locals>.<lambda>")) (hn : S[n]? = some (.ins (E 9) (fsR r g))) (ok : Ok r) {v u : W} (hv : Sc v) (hu : Sc u) :
    ∃ S', m_l_do E [.ref n, .tup [.str "come", v, u]] S = .ok (.str (tellD (comeD r v u))) S' ∧ S'[n]? = some (.ins (E 9) (fsR (behD r (comeD r v u)) (gonD g 0 (comeD r v u)))) ∧ Kp [n] S S' := by
  obtain ⟨w, S1, a1, a2, a3, a4, a5⟩ := tried E (fb := mMeth (E 9) "come" 3 (m_Plain_come E) (mVar 0) (mCons (mVar 3) (mCons (mVar 4) mNil))) (φ := [some (.ref n), some (.tup [.str "come", v, u]), some (.str "come"), some v, some u, none]) inj ht hn (by
    simp only [mFn, mCall, chk, mSeq, mRet, mRetN, mNext, mSet, mDrop, mIfS, mIf, mPar, mTg, mAug, mCB, mCons, mNil, mBin, mChain, mTest, bOf, mAndT, mOrT, mNotT, mAnd, mOr, mNot, mNeg, mVar, mC, mTup, mLst, mYes, mItQ, mItR1, mItR2, mItE, mItZ, mRaise, mIsi, mMt, mDNew, mStore, mGet2, mSl, mPart, bindS_ok, bindS_ex, bindS_bad, Out.bind_ok, Out.bind_ex, Out.bind_bad, ofO_some, ofO_none, List.map_cons, List.map_nil, List.replicate, List.cons_append, List.nil_append, List.append_nil, List.getElem?_cons_zero, List.getElem?_cons_succ, List.set_cons_zero, List.set_cons_succ, List.length_cons, List.length_nil, List.length_append, List.length_map, wipeF, setAll, tgM, if_true, if_false, Bool.not_true, Bool.not_false, Nat.zero_add, reduceCtorEq, Bool.false_eq_true, mMeth, insOf_at hn, show List.lookup ("come" : Str) (fsR r g) = none from rfl]) (pl_come E hn ok hv hu) (kind_come r v u)
  have de := do_end (w1 := .tup [.str "come", v, u]) (w2 := .str "come") (w3 := v) (w4 := u) (S' := S1) a2 a3 (.ref n)
  refine ⟨S1, ?_, a4, a5⟩
  unfold m_l_do b_l_do
  generalize mRet _ = T at de ⊢
  simp only [mFn, mCall, chk, mSeq, mRet, mRetN, mNext, mSet, mDrop, mIfS, mIf, mPar, mTg, mAug, mCB, mCons, mNil, mBin, mChain, mTest, bOf, mAndT, mOrT, mNotT, mAnd, mOr, mNot, mNeg, mVar, mC, mTup, mLst, mYes, mItQ, mItR1, mItR2, mItE, mItZ, mRaise, mIsi, mMt, mDNew, mStore, mGet2, mSl, mPart, bindS_ok, bindS_ex, bindS_bad, Out.bind_ok, Out.bind_ex, Out.bind_bad, ofO_some, ofO_none, List.map_cons, List.map_nil, List.replicate, List.cons_append, List.nil_append, List.append_nil, List.getElem?_cons_zero, List.getElem?_cons_succ, List.set_cons_zero, List.set_cons_succ, List.length_cons, List.length_nil, List.length_append, List.length_map, wipeF, setAll, tgM, if_true, if_false, Bool.not_true, Bool.not_false, Nat.zero_add, reduceCtorEq, Bool.false_eq_true, es_cg, es_cc, a1, de]
theorem do_part (inj : Inj9 E) (ht : S[0]? = some (.tab (E 100) "_law_do.<locals>.<lambda>")) (hn : S[n]? = some (.ins (E 9) (fsR r g))) (ok : Ok r) {v u : W} (hv : Sc v) (hu : Sc u) :
    ∃ S', m_l_do E [.ref n, .tup [.str "part", v, u]] S = .ok (.str (tellD (partD r v u))) S' ∧ S'[n]? = some (.ins (E 9) (fsR (behD r (partD r v u)) (gonD g 0 (partD r v u)))) ∧ Kp [n] S S' := by
  obtain ⟨w, S1, a1, a2, a3, a4, a5⟩ := tried E (fb := mMeth (E 9) "part" 3 (m_Plain_part E) (mVar 0) (mCons (mVar 3) (mCons (mVar 4) mNil))) (φ := [some (.ref n), some (.tup [.str "part", v, u]), some (.str "part"), some v, some u, none]) inj ht hn (by
    simp only [mFn, mCall, chk, mSeq, mRet, mRetN, mNext, mSet, mDrop, mIfS, mIf, mPar, mTg, mAug, mCB, mCons, mNil, mBin, mChain, mTest, bOf, mAndT, mOrT, mNotT, mAnd, mOr, mNot, mNeg, mVar, mC, mTup, mLst, mYes, mItQ, mItR1, mItR2, mItE, mItZ, mRaise, mIsi, mMt, mDNew, mStore, mGet2, mSl, mPart, bindS_ok, bindS_ex, bindS_bad, Out.bind_ok, Out.bind_ex, Out.bind_bad, ofO_some, ofO_none, List.map_cons, List.map_nil, List.replicate, List.cons_append, List.nil_append, List.append_nil, List.getElem?_cons_zero, List.getElem?_cons_succ, List.set_cons_zero, List.set_cons_succ, List.length_cons, List.length_nil, List.length_append, List.length_map, wipeF, setAll, tgM, if_true, if_false, Bool.not_true, Bool.not_false, Nat.zero_add, reduceCtorEq, Bool.false_eq_true, mMeth, insOf_at hn, show List.lookup ("part" : Str) (fsR r g) = none from rfl]) (pl_part E hn ok hv hu) (kind_part r v u)
  have de := do_end (w1 := .tup [.str "part", v, u]) (w2 := .str "part") (w3 := v) (w4 := u) (S' := S1) a2 a3 (.ref n)
  refine ⟨S1, ?_, a4, a5⟩
  unfold m_l_do b_l_do
  generalize mRet _ = T at de ⊢
  simp only [mFn, mCall, chk, mSeq, mRet, mRetN, mNext, mSet, mDrop, mIfS, mIf, mPar, mTg, mAug, mCB, mCons, mNil, mBin, mChain, mTest, bOf, mAndT, mOrT, mNotT, mAnd, mOr, mNot, mNeg, mVar, mC, mTup, mLst, mYes, mItQ, mItR1, mItR2, mItE, mItZ, mRaise, mIsi, mMt, mDNew, mStore, mGet2, mSl, mPart, bindS_ok, bindS_ex, bindS_bad, Out.bind_ok, Out.bind_ex, Out.bind_bad, ofO_some, ofO_none, List.map_cons, List.map_nil, List.replicate, List.cons_append, List.nil_append, List.append_nil, List.getElem?_cons_zero, List.getElem?_cons_succ, List.set_cons_zero, List.set_cons_succ, List.length_cons, List.length_nil, List.length_append, List.length_map, wipeF, setAll, tgM, if_true, if_false, Bool.not_true, Bool.not_false, Nat.zero_add, reduceCtorEq, Bool.false_eq_true, es_pg, es_pc, a1, de]
end

/-! ## what is due -/
section
theorem come_small {r : Rows} (ok : Ok r) {a b : Int} (h2 : ¬ a < 1) (h3 : ¬ b < 1) (ha1 : a ≤ 10 ^ 61) (hb1' : b ≤ 10 ^ 61) : ∀ x ∈ comeR r a b, smallN x.1 = true ∧ smallN x.2 = true := fun x hx => by
  have l40 := ok.l40
  have bd := gath_bd (r := r ++ [(a, b)]) (fun y hy => by
    rcases List.mem_append.mp hy with z | z
    · exact ok.bd y z
    · rw [List.mem_singleton.mp z]; exact ⟨by show 1 ≤ a; omega, by show 1 ≤ b; omega⟩) x hx
  have hw : wsum (fun _ => 1) (comeR r a b) = wsum (fun _ => 1) (r ++ [(a, b)]) := (gath_ok _).sum _
  rw [wsum_append, wsum_cons, wsum_nil] at hw
  have hb1 := wsum_bound (f := fun _ => 1) (B := bigF) (r := r) fun y hy => by
    obtain ⟨_, _, _, q, _⟩ := ok.each hy
    show 1 * y.2 ≤ bigF
    omega
  have hx2 := wsum_le (f := fun _ => 1) (r := comeR r a b) (fun y hy => by
    have := gath_bd (r := r ++ [(a, b)]) (fun z hz => by
      rcases List.mem_append.mp hz with q | q
      · exact ok.bd z q
      · rw [List.mem_singleton.mp q]; exact ⟨by show 1 ≤ a; omega, by show 1 ≤ b; omega⟩) y hy
    show 0 ≤ 1 * y.2
    omega) hx
  have hx2 : 1 * x.2 ≤ wsum (fun _ => 1) (comeR r a b) := hx2
  have hk : x.1 ∈ keys (r ++ [(a, b)]) := ((gath_ok (r ++ [(a, b)])).mem x.1).mp (List.mem_map.mpr ⟨x, hx, rfl⟩)
  have hx1 : x.1 ≤ 10 ^ 61 := by
    obtain ⟨y, hy, e⟩ := List.mem_map.mp hk
    have e : y.1 = x.1 := e
    rcases List.mem_append.mp hy with q | q
    · obtain ⟨_, _, q3, _⟩ := ok.each q
      have : bigF ≤ 10 ^ 61 := by decide
      omega
    · rw [List.mem_singleton.mp q] at e
      have e : a = x.1 := e
      omega
  have c1 : bigF * 40 + 10 ^ 61 ≤ 10 ^ 200 := by decide
  have c2 : bigF * (r.length : Int) ≤ bigF * 40 := Int.mul_le_mul_of_nonneg_left (by omega) (by decide)
  have c3 : (10 : Int) ^ 61 ≤ 10 ^ 200 := by decide
  have hw' : wsum (fun _ => 1) (comeR r a b) = wsum (fun _ => 1) r + (1 * b + 0) := hw
  exact ⟨small_of (by omega) (by omega), small_of (by omega) (by omega)⟩
theorem come_len (r : Rows) (h : r.length ≤ 40) (a b : Int) : (comeR r a b).length ≤ 41 := by
  have := (gath_ok (r ++ [(a, b)])).len
  rw [List.length_append] at this
  unfold comeR
  simp only [List.length_cons, List.length_nil] at this
  omega
variable (E : Nat → Addr) {S : Sto} {r : Rows}
theorem sc_lwhole {w : W} (h : Sc w) (S : Sto) : m_l_whole E [w] S = .ok (.bl (isNum w)) S := by
  cases h <;> rfl
theorem due_go {v : W} (hv : Sc v) (z : W) : m_l_due E [std r, .tup [.str "go", v, z]] S = .ok (.str (tellD (goD r v))) S := by
  have p18 : ∀ S, oPowI (.int 10) (.int 18) S = some (.int (10 ^ 18), S) := fun S => pow_ii (by decide) (by decide) (by decide)
  have w1 := fun S => sc_lwhole E hv S
  cases hv with
  | non =>
    have w1 : ∀ S, m_l_whole E [.non] S = .ok (.bl false) S := w1
    unfold m_l_due b_l_due
    simp only [mFn, mCall, chk, mSeq, mRet, mRetN, mNext, mSet, mDrop, mIfS, mIf, mPar, mTg, mAug, mCB, mCons, mNil, mBin, mChain, mTest, bOf, mAndT, mOrT, mNotT, mAnd, mOr, mNot, mNeg, mVar, mC, mTup, mLst, mYes, mItQ, mItR1, mItR2, mItE, mItZ, mRaise, mIsi, mMt, mDNew, mStore, mGet2, mSl, mPart, bindS_ok, bindS_ex, bindS_bad, Out.bind_ok, Out.bind_ex, Out.bind_bad, ofO_some, ofO_none, List.map_cons, List.map_nil, List.replicate, List.cons_append, List.nil_append, List.append_nil, List.getElem?_cons_zero, List.getElem?_cons_succ, List.set_cons_zero, List.set_cons_succ, List.length_cons, List.length_nil, List.length_append, List.length_map, wipeF, setAll, tgM, if_true, if_false, Bool.not_true, Bool.not_false, Nat.zero_add, reduceCtorEq, Bool.false_eq_true, es_gc, w1]
    rfl
  | bl b =>
    have w1 : ∀ S, m_l_whole E [.bl b] S = .ok (.bl false) S := w1
    unfold m_l_due b_l_due
    simp only [mFn, mCall, chk, mSeq, mRet, mRetN, mNext, mSet, mDrop, mIfS, mIf, mPar, mTg, mAug, mCB, mCons, mNil, mBin, mChain, mTest, bOf, mAndT, mOrT, mNotT, mAnd, mOr, mNot, mNeg, mVar, mC, mTup, mLst, mYes, mItQ, mItR1, mItR2, mItE, mItZ, mRaise, mIsi, mMt, mDNew, mStore, mGet2, mSl, mPart, bindS_ok, bindS_ex, bindS_bad, Out.bind_ok, Out.bind_ex, Out.bind_bad, ofO_some, ofO_none, List.map_cons, List.map_nil, List.replicate, List.cons_append, List.nil_append, List.append_nil, List.getElem?_cons_zero, List.getElem?_cons_succ, List.set_cons_zero, List.set_cons_succ, List.length_cons, List.length_nil, List.length_append, List.length_map, wipeF, setAll, tgM, if_true, if_false, Bool.not_true, Bool.not_false, Nat.zero_add, reduceCtorEq, Bool.false_eq_true, es_gc, w1]
    rfl
  | int d _ _ =>
    have w1 : ∀ S, m_l_whole E [.int d] S = .ok (.bl true) S := w1
    unfold goD
    dsimp only
    unfold m_l_due b_l_due
    by_cases h1 : 1 ≤ d
    · by_cases h2 : d ≤ 10 ^ 18
      · rw [if_pos ⟨h1, h2⟩]
        simp only [mFn, mCall, chk, mSeq, mRet, mRetN, mNext, mSet, mDrop, mIfS, mIf, mPar, mTg, mAug, mCB, mCons, mNil, mBin, mChain, mTest, bOf, mAndT, mOrT, mNotT, mAnd, mOr, mNot, mNeg, mVar, mC, mTup, mLst, mYes, mItQ, mItR1, mItR2, mItE, mItZ, mRaise, mIsi, mMt, mDNew, mStore, mGet2, mSl, mPart, bindS_ok, bindS_ex, bindS_bad, Out.bind_ok, Out.bind_ex, Out.bind_bad, ofO_some, ofO_none, List.map_cons, List.map_nil, List.replicate, List.cons_append, List.nil_append, List.append_nil, List.getElem?_cons_zero, List.getElem?_cons_succ, List.set_cons_zero, List.set_cons_succ, List.length_cons, List.length_nil, List.length_append, List.length_map, wipeF, setAll, tgM, if_true, if_false, Bool.not_true, Bool.not_false, Nat.zero_add, reduceCtorEq, Bool.false_eq_true, es_gc, w1, p18, le_ii, decide_eq_true h1, decide_eq_true h2]
        rfl
      · rw [if_neg fun z => h2 z.2]
        simp only [mFn, mCall, chk, mSeq, mRet, mRetN, mNext, mSet, mDrop, mIfS, mIf, mPar, mTg, mAug, mCB, mCons, mNil, mBin, mChain, mTest, bOf, mAndT, mOrT, mNotT, mAnd, mOr, mNot, mNeg, mVar, mC, mTup, mLst, mYes, mItQ, mItR1, mItR2, mItE, mItZ, mRaise, mIsi, mMt, mDNew, mStore, mGet2, mSl, mPart, bindS_ok, bindS_ex, bindS_bad, Out.bind_ok, Out.bind_ex, Out.bind_bad, ofO_some, ofO_none, List.map_cons, List.map_nil, List.replicate, List.cons_append, List.nil_append, List.append_nil, List.getElem?_cons_zero, List.getElem?_cons_succ, List.set_cons_zero, List.set_cons_succ, List.length_cons, List.length_nil, List.length_append, List.length_map, wipeF, setAll, tgM, if_true, if_false, Bool.not_true, Bool.not_false, Nat.zero_add, reduceCtorEq, Bool.false_eq_true, es_gc, w1, p18, le_ii, decide_eq_true h1, decide_eq_false h2]
        rfl
    · rw [if_neg fun z => h1 z.1]
      simp only [mFn, mCall, chk, mSeq, mRet, mRetN, mNext, mSet, mDrop, mIfS, mIf, mPar, mTg, mAug, mCB, mCons, mNil, mBin, mChain, mTest, bOf, mAndT, mOrT, mNotT, mAnd, mOr, mNot, mNeg, mVar, mC, mTup, mLst, mYes, mItQ, mItR1, mItR2, mItE, mItZ, mRaise, mIsi, mMt, mDNew, mStore, mGet2, mSl, mPart, bindS_ok, bindS_ex, bindS_bad, Out.bind_ok, Out.bind_ex, Out.bind_bad, ofO_some, ofO_none, List.map_cons, List.map_nil, List.replicate, List.cons_append, List.nil_append, List.append_nil, List.getElem?_cons_zero, List.getElem?_cons_succ, List.set_cons_zero, List.set_cons_succ, List.length_cons, List.length_nil, List.length_append, List.length_map, wipeF, setAll, tgM, if_true, if_false, Bool.not_true, Bool.not_false, Nat.zero_add, reduceCtorEq, Bool.false_eq_true, es_gc, w1, p18, le_ii, decide_eq_false h1]
      rfl
theorem due_come (ok : Ok r) {v u : W} (hv : Sc v) (hu : Sc u) : ∃ S', m_l_due E [std r, .tup [.str "come", v, u]] S = .ok (.str (tellD (comeD r v u))) S' ∧ Kp [] S S' := by
  have w1 := fun S => sc_lwhole E hv S
  have w2 := fun S => sc_lwhole E hu S
  have bad : ∀ {v u : W}, (isNum v = false ∨ isNum u = false) → (∀ S, m_l_whole E [v] S = .ok (.bl (isNum v)) S) → (∀ S, m_l_whole E [u] S = .ok (.bl (isNum u)) S) → m_l_due E [std r, .tup [.str "come", v, u]] S = .ok (.str "NoHerds+") S := by
    intro v u hz w1 w2
    unfold m_l_due b_l_due
    cases e1 : isNum v with
    | false => rw [e1] at w1; simp only [mFn, mCall, chk, mSeq, mRet, mRetN, mNext, mSet, mDrop, mIfS, mIf, mPar, mTg, mAug, mCB, mCons, mNil, mBin, mChain, mTest, bOf, mAndT, mOrT, mNotT, mAnd, mOr, mNot, mNeg, mVar, mC, mTup, mLst, mYes, mItQ, mItR1, mItR2, mItE, mItZ, mRaise, mIsi, mMt, mDNew, mStore, mGet2, mSl, mPart, bindS_ok, bindS_ex, bindS_bad, Out.bind_ok, Out.bind_ex, Out.bind_bad, ofO_some, ofO_none, List.map_cons, List.map_nil, List.replicate, List.cons_append, List.nil_append, List.append_nil, List.getElem?_cons_zero, List.getElem?_cons_succ, List.set_cons_zero, List.set_cons_succ, List.length_cons, List.length_nil, List.length_append, List.length_map, wipeF, setAll, tgM, if_true, if_false, Bool.not_true, Bool.not_false, Nat.zero_add, reduceCtorEq, Bool.false_eq_true, es_cg, es_cc, w1]
    | true =>
      rw [e1] at w1
      have e2 := hz.resolve_left (by rw [e1]; decide)
      rw [e2] at w2
      simp only [mFn, mCall, chk, mSeq, mRet, mRetN, mNext, mSet, mDrop, mIfS, mIf, mPar, mTg, mAug, mCB, mCons, mNil, mBin, mChain, mTest, bOf, mAndT, mOrT, mNotT, mAnd, mOr, mNot, mNeg, mVar, mC, mTup, mLst, mYes, mItQ, mItR1, mItR2, mItE, mItZ, mRaise, mIsi, mMt, mDNew, mStore, mGet2, mSl, mPart, bindS_ok, bindS_ex, bindS_bad, Out.bind_ok, Out.bind_ex, Out.bind_bad, ofO_some, ofO_none, List.map_cons, List.map_nil, List.replicate, List.cons_append, List.nil_append, List.append_nil, List.getElem?_cons_zero, List.getElem?_cons_succ, List.set_cons_zero, List.set_cons_succ, List.length_cons, List.length_nil, List.length_append, List.length_map, wipeF, setAll, tgM, if_true, if_false, Bool.not_true, Bool.not_false, Nat.zero_add, reduceCtorEq, Bool.false_eq_true, es_cg, es_cc, w1, w2]
  cases hv with
  | non => exact ⟨S, bad (.inl rfl) w1 w2, Kp.refl _ _⟩
  | bl b => exact ⟨S, bad (.inl rfl) w1 w2, Kp.refl _ _⟩
  | int a ha0 ha1 =>
    cases hu with
    | non => exact ⟨S, bad (.inr rfl) w1 w2, Kp.refl _ _⟩
    | bl b => exact ⟨S, bad (.inr rfl) w1 w2, Kp.refl _ _⟩
    | int b hb0 hb1 =>
      have w1 : ∀ S, m_l_whole E [.int a] S = .ok (.bl true) S := w1
      have w2 : ∀ S, m_l_whole E [.int b] S = .ok (.bl true) S := w2
      unfold comeD
      dsimp only
      by_cases h1 : a < 1 ∨ b < 1
      · rw [if_pos h1]
        refine ⟨S, ?_, Kp.refl _ _⟩
        unfold m_l_due b_l_due
        by_cases h2 : a < 1
        · simp only [mFn, mCall, chk, mSeq, mRet, mRetN, mNext, mSet, mDrop, mIfS, mIf, mPar, mTg, mAug, mCB, mCons, mNil, mBin, mChain, mTest, bOf, mAndT, mOrT, mNotT, mAnd, mOr, mNot, mNeg, mVar, mC, mTup, mLst, mYes, mItQ, mItR1, mItR2, mItE, mItZ, mRaise, mIsi, mMt, mDNew, mStore, mGet2, mSl, mPart, bindS_ok, bindS_ex, bindS_bad, Out.bind_ok, Out.bind_ex, Out.bind_bad, ofO_some, ofO_none, List.map_cons, List.map_nil, List.replicate, List.cons_append, List.nil_append, List.append_nil, List.getElem?_cons_zero, List.getElem?_cons_succ, List.set_cons_zero, List.set_cons_succ, List.length_cons, List.length_nil, List.length_append, List.length_map, wipeF, setAll, tgM, if_true, if_false, Bool.not_true, Bool.not_false, Nat.zero_add, reduceCtorEq, Bool.false_eq_true, es_cg, es_cc, w1, w2, lt_ii, decide_eq_true h2]
          rfl
        · simp only [mFn, mCall, chk, mSeq, mRet, mRetN, mNext, mSet, mDrop, mIfS, mIf, mPar, mTg, mAug, mCB, mCons, mNil, mBin, mChain, mTest, bOf, mAndT, mOrT, mNotT, mAnd, mOr, mNot, mNeg, mVar, mC, mTup, mLst, mYes, mItQ, mItR1, mItR2, mItE, mItZ, mRaise, mIsi, mMt, mDNew, mStore, mGet2, mSl, mPart, bindS_ok, bindS_ex, bindS_bad, Out.bind_ok, Out.bind_ex, Out.bind_bad, ofO_some, ofO_none, List.map_cons, List.map_nil, List.replicate, List.cons_append, List.nil_append, List.append_nil, List.getElem?_cons_zero, List.getElem?_cons_succ, List.set_cons_zero, List.set_cons_succ, List.length_cons, List.length_nil, List.length_append, List.length_map, wipeF, setAll, tgM, if_true, if_false, Bool.not_true, Bool.not_false, Nat.zero_add, reduceCtorEq, Bool.false_eq_true, es_cg, es_cc, w1, w2, lt_ii, decide_eq_false h2, decide_eq_true (h1.resolve_left h2)]
          rfl
      · rw [if_neg h1]
        have h2 : ¬ a < 1 := fun z => h1 (.inl z)
        have h3 : ¬ b < 1 := fun z => h1 (.inr z)
        have p60 : ∀ S, oPowI (.int 10) (.int 60) S = some (.int (10 ^ 60), S) := fun S => pow_ii (by decide) (by decide) (by decide)
        obtain ⟨S1, a1, a2⟩ := after_come E (S := S) ok a b
        rw [come_law (fun x hx => (ok.bd x hx).2) (by omega)] at a1
        have cl := come_len r ok.l40 a b
        by_cases hl : 40 < (comeR r a b).length
        · rw [if_pos (.inl hl)]
          refine ⟨S1, ?_, a2⟩
          have hl' : (40 : Int) < (((comeR r a b).length : Nat) : Int) := by omega
          unfold m_l_due b_l_due
          simp only [mFn, mCall, chk, mSeq, mRet, mRetN, mNext, mSet, mDrop, mIfS, mIf, mPar, mTg, mAug, mCB, mCons, mNil, mBin, mChain, mTest, bOf, mAndT, mOrT, mNotT, mAnd, mOr, mNot, mNeg, mVar, mC, mTup, mLst, mYes, mItQ, mItR1, mItR2, mItE, mItZ, mRaise, mIsi, mMt, mDNew, mStore, mGet2, mSl, mPart, bindS_ok, bindS_ex, bindS_bad, Out.bind_ok, Out.bind_ex, Out.bind_bad, ofO_some, ofO_none, List.map_cons, List.map_nil, List.replicate, List.cons_append, List.nil_append, List.append_nil, List.getElem?_cons_zero, List.getElem?_cons_succ, List.set_cons_zero, List.set_cons_succ, List.length_cons, List.length_nil, List.length_append, List.length_map, wipeF, setAll, tgM, if_true, if_false, Bool.not_true, Bool.not_false, Nat.zero_add, reduceCtorEq, Bool.false_eq_true, es_cg, es_cc, w1, w2, lt_ii, decide_eq_false h2, decide_eq_false h3, a1, len_q (std_q S1 _), gt_ii, decide_eq_true hl']
          rfl
        · have hl' : ¬ (40 : Int) < (((comeR r a b).length : Nat) : Int) := by omega
          obtain ⟨S2, b1, b2, b3⟩ := comp_all (own := [6, 7]) (T := .many [6, 7]) (f := mBin oMul (mVar 6) (mVar 7)) (φ := [some (std r), some (.tup [.str "come", .int a, .int b]), some (.str "come"), some (.int a), some (.int b), some (std (comeR r a b)), none, none]) (it := mItQ (mVar 5)) (S := S1) (S1 := S1) (m := itL (std (comeR r a b))) tp (comeR r a b) (fun p => .int (p.1 * p.2)) (by simp only [mFn, mCall, chk, mSeq, mRet, mRetN, mNext, mSet, mDrop, mIfS, mIf, mPar, mTg, mAug, mCB, mCons, mNil, mBin, mChain, mTest, bOf, mAndT, mOrT, mNotT, mAnd, mOr, mNot, mNeg, mVar, mC, mTup, mLst, mYes, mItQ, mItR1, mItR2, mItE, mItZ, mRaise, mIsi, mMt, mDNew, mStore, mGet2, mSl, mPart, bindS_ok, bindS_ex, bindS_bad, Out.bind_ok, Out.bind_ex, Out.bind_bad, ofO_some, ofO_none, List.map_cons, List.map_nil, List.replicate, List.cons_append, List.nil_append, List.append_nil, List.getElem?_cons_zero, List.getElem?_cons_succ, List.set_cons_zero, List.set_cons_succ, List.length_cons, List.length_nil, List.length_append, List.length_map, wipeF, setAll, tgM, if_true, if_false, Bool.not_true, Bool.not_false, Nat.zero_add, reduceCtorEq, Bool.false_eq_true, std_q]) (wk_l (std_q S1 _) fun _ _ z => nomatch z) (Nat.lt_of_le_of_lt cl (by decide)) fun x hx S2 k => by
            obtain ⟨b1, b2⟩ := come_small ok h2 h3 ha1 hb1 x hx
            refine ⟨_, rfl, S2, ?_, Kp.refl _ _⟩
            simp only [mFn, mCall, chk, mSeq, mRet, mRetN, mNext, mSet, mDrop, mIfS, mIf, mPar, mTg, mAug, mCB, mCons, mNil, mBin, mChain, mTest, bOf, mAndT, mOrT, mNotT, mAnd, mOr, mNot, mNeg, mVar, mC, mTup, mLst, mYes, mItQ, mItR1, mItR2, mItE, mItZ, mRaise, mIsi, mMt, mDNew, mStore, mGet2, mSl, mPart, bindS_ok, bindS_ex, bindS_bad, Out.bind_ok, Out.bind_ex, Out.bind_bad, ofO_some, ofO_none, List.map_cons, List.map_nil, List.replicate, List.cons_append, List.nil_append, List.append_nil, List.getElem?_cons_zero, List.getElem?_cons_succ, List.set_cons_zero, List.set_cons_succ, List.length_cons, List.length_nil, List.length_append, List.length_map, wipeF, setAll, tgM, if_true, if_false, Bool.not_true, Bool.not_false, Nat.zero_add, reduceCtorEq, Bool.false_eq_true, mul_ii b1 b2]
          have e6 : ((comeR r a b).map fun p => W.int (p.1 * p.2)) = ((comeR r a b).map fun p => p.1 * p.2).map W.int := by rw [List.map_map]; rfl
          rw [e6] at b3
          have su : oSum [.ref S1.length] S2 = some (.int (folkP (comeR r a b)), S2) := sum_ints (ref_l b3)
          by_cases hf : bigF < folkP (comeR r a b)
          · rw [if_pos (.inr hf)]
            refine ⟨S2, ?_, a2.trans b2⟩
            have hf' : (10 : Int) ^ 60 < folkP (comeR r a b) := hf
            unfold m_l_due b_l_due
            simp only [mFn, mCall, chk, mSeq, mRet, mRetN, mNext, mSet, mDrop, mIfS, mIf, mPar, mTg, mAug, mCB, mCons, mNil, mBin, mChain, mTest, bOf, mAndT, mOrT, mNotT, mAnd, mOr, mNot, mNeg, mVar, mC, mTup, mLst, mYes, mItQ, mItR1, mItR2, mItE, mItZ, mRaise, mIsi, mMt, mDNew, mStore, mGet2, mSl, mPart, bindS_ok, bindS_ex, bindS_bad, Out.bind_ok, Out.bind_ex, Out.bind_bad, ofO_some, ofO_none, List.map_cons, List.map_nil, List.replicate, List.cons_append, List.nil_append, List.append_nil, List.getElem?_cons_zero, List.getElem?_cons_succ, List.set_cons_zero, List.set_cons_succ, List.length_cons, List.length_nil, List.length_append, List.length_map, wipeF, setAll, tgM, if_true, if_false, Bool.not_true, Bool.not_false, Nat.zero_add, reduceCtorEq, Bool.false_eq_true, es_cg, es_cc, w1, w2, lt_ii, decide_eq_false h2, decide_eq_false h3, a1, len_q (std_q S1 _), gt_ii, decide_eq_false hl', b1, su, p60, decide_eq_true hf']
            rfl
          · rw [if_neg fun z => z.elim hl hf]
            refine ⟨S2, ?_, a2.trans b2⟩
            have hf' : ¬ (10 : Int) ^ 60 < folkP (comeR r a b) := hf
            unfold m_l_due b_l_due
            simp only [mFn, mCall, chk, mSeq, mRet, mRetN, mNext, mSet, mDrop, mIfS, mIf, mPar, mTg, mAug, mCB, mCons, mNil, mBin, mChain, mTest, bOf, mAndT, mOrT, mNotT, mAnd, mOr, mNot, mNeg, mVar, mC, mTup, mLst, mYes, mItQ, mItR1, mItR2, mItE, mItZ, mRaise, mIsi, mMt, mDNew, mStore, mGet2, mSl, mPart, bindS_ok, bindS_ex, bindS_bad, Out.bind_ok, Out.bind_ex, Out.bind_bad, ofO_some, ofO_none, List.map_cons, List.map_nil, List.replicate, List.cons_append, List.nil_append, List.append_nil, List.getElem?_cons_zero, List.getElem?_cons_succ, List.set_cons_zero, List.set_cons_succ, List.length_cons, List.length_nil, List.length_append, List.length_map, wipeF, setAll, tgM, if_true, if_false, Bool.not_true, Bool.not_false, Nat.zero_add, reduceCtorEq, Bool.false_eq_true, es_cg, es_cc, w1, w2, lt_ii, decide_eq_false h2, decide_eq_false h3, a1, len_q (std_q S1 _), gt_ii, decide_eq_false hl', b1, su, p60, decide_eq_false hf']
            rfl
theorem due_part (ok : Ok r) {v u : W} (hv : Sc v) (hu : Sc u) : ∃ S', m_l_due E [std r, .tup [.str "part", v, u]] S = .ok (.str (tellD (partD r v u))) S' ∧ Kp [] S S' := by
  have w1 := fun S => sc_lwhole E hv S
  have w2 := fun S => sc_lwhole E hu S
  cases hv with
  | non =>
    refine ⟨S, ?_, Kp.refl _ _⟩
    have w1 : ∀ S, m_l_whole E [.non] S = .ok (.bl false) S := w1
    unfold m_l_due b_l_due
    simp only [mFn, mCall, chk, mSeq, mRet, mRetN, mNext, mSet, mDrop, mIfS, mIf, mPar, mTg, mAug, mCB, mCons, mNil, mBin, mChain, mTest, bOf, mAndT, mOrT, mNotT, mAnd, mOr, mNot, mNeg, mVar, mC, mTup, mLst, mYes, mItQ, mItR1, mItR2, mItE, mItZ, mRaise, mIsi, mMt, mDNew, mStore, mGet2, mSl, mPart, bindS_ok, bindS_ex, bindS_bad, Out.bind_ok, Out.bind_ex, Out.bind_bad, ofO_some, ofO_none, List.map_cons, List.map_nil, List.replicate, List.cons_append, List.nil_append, List.append_nil, List.getElem?_cons_zero, List.getElem?_cons_succ, List.set_cons_zero, List.set_cons_succ, List.length_cons, List.length_nil, List.length_append, List.length_map, wipeF, setAll, tgM, if_true, if_false, Bool.not_true, Bool.not_false, Nat.zero_add, reduceCtorEq, Bool.false_eq_true, es_pg, es_pc, w1]
    rfl
  | bl b =>
    refine ⟨S, ?_, Kp.refl _ _⟩
    have w1 : ∀ S, m_l_whole E [.bl b] S = .ok (.bl false) S := w1
    unfold m_l_due b_l_due
    simp only [mFn, mCall, chk, mSeq, mRet, mRetN, mNext, mSet, mDrop, mIfS, mIf, mPar, mTg, mAug, mCB, mCons, mNil, mBin, mChain, mTest, bOf, mAndT, mOrT, mNotT, mAnd, mOr, mNot, mNeg, mVar, mC, mTup, mLst, mYes, mItQ, mItR1, mItR2, mItE, mItZ, mRaise, mIsi, mMt, mDNew, mStore, mGet2, mSl, mPart, bindS_ok, bindS_ex, bindS_bad, Out.bind_ok, Out.bind_ex, Out.bind_bad, ofO_some, ofO_none, List.map_cons, List.map_nil, List.replicate, List.cons_append, List.nil_append, List.append_nil, List.getElem?_cons_zero, List.getElem?_cons_succ, List.set_cons_zero, List.set_cons_succ, List.length_cons, List.length_nil, List.length_append, List.length_map, wipeF, setAll, tgM, if_true, if_false, Bool.not_true, Bool.not_false, Nat.zero_add, reduceCtorEq, Bool.false_eq_true, es_pg, es_pc, w1]
    rfl
  | int a ha0 ha1 =>
    have w1 : ∀ S, m_l_whole E [.int a] S = .ok (.bl true) S := w1
    obtain ⟨S1, a1, a2, a3⟩ := comp_all (own := [6, 7]) (T := .many [6, 7]) (f := mVar 6) (φ := [some (std r), some (.tup [.str "part", .int a, u]), some (.str "part"), some (.int a), some u, none, none, none]) (it := mItQ (mVar 0)) (S := S) (S1 := S) (m := itL (std r)) tp r (fun p => .int p.1) (by simp only [mFn, mCall, chk, mSeq, mRet, mRetN, mNext, mSet, mDrop, mIfS, mIf, mPar, mTg, mAug, mCB, mCons, mNil, mBin, mChain, mTest, bOf, mAndT, mOrT, mNotT, mAnd, mOr, mNot, mNeg, mVar, mC, mTup, mLst, mYes, mItQ, mItR1, mItR2, mItE, mItZ, mRaise, mIsi, mMt, mDNew, mStore, mGet2, mSl, mPart, bindS_ok, bindS_ex, bindS_bad, Out.bind_ok, Out.bind_ex, Out.bind_bad, ofO_some, ofO_none, List.map_cons, List.map_nil, List.replicate, List.cons_append, List.nil_append, List.append_nil, List.getElem?_cons_zero, List.getElem?_cons_succ, List.set_cons_zero, List.set_cons_succ, List.length_cons, List.length_nil, List.length_append, List.length_map, wipeF, setAll, tgM, if_true, if_false, Bool.not_true, Bool.not_false, Nat.zero_add, reduceCtorEq, Bool.false_eq_true, std_q]) (wk_l (std_q S r) fun _ _ z => nomatch z) (Ok.ltT ok.toOw) fun x hx S2 k => ⟨_, rfl, S2, rfl, Kp.refl _ _⟩
    have e1 : (r.map fun p => W.int p.1) = (keys r).map W.int := by unfold keys; rw [List.map_map]; rfl
    rw [e1] at a3
    have ni := notIn_ints a3 a
    unfold partD
    dsimp only
    by_cases hk : a ∈ keys r
    · rw [if_pos hk]
      rw [decide_eq_true hk] at ni
      have ni : oNotIn (.int a) (.ref S.length) S1 = some (.bl false, S1) := ni
      cases hu with
      | non =>
        refine ⟨S1, ?_, a2⟩
        have w2 : ∀ S, m_l_whole E [.non] S = .ok (.bl false) S := w2
        unfold m_l_due b_l_due
        simp only [mFn, mCall, chk, mSeq, mRet, mRetN, mNext, mSet, mDrop, mIfS, mIf, mPar, mTg, mAug, mCB, mCons, mNil, mBin, mChain, mTest, bOf, mAndT, mOrT, mNotT, mAnd, mOr, mNot, mNeg, mVar, mC, mTup, mLst, mYes, mItQ, mItR1, mItR2, mItE, mItZ, mRaise, mIsi, mMt, mDNew, mStore, mGet2, mSl, mPart, bindS_ok, bindS_ex, bindS_bad, Out.bind_ok, Out.bind_ex, Out.bind_bad, ofO_some, ofO_none, List.map_cons, List.map_nil, List.replicate, List.cons_append, List.nil_append, List.append_nil, List.getElem?_cons_zero, List.getElem?_cons_succ, List.set_cons_zero, List.set_cons_succ, List.length_cons, List.length_nil, List.length_append, List.length_map, wipeF, setAll, tgM, if_true, if_false, Bool.not_true, Bool.not_false, Nat.zero_add, reduceCtorEq, Bool.false_eq_true, es_pg, es_pc, w1, a1, ni, w2]
        rfl
      | bl b =>
        refine ⟨S1, ?_, a2⟩
        have w2 : ∀ S, m_l_whole E [.bl b] S = .ok (.bl false) S := w2
        unfold m_l_due b_l_due
        simp only [mFn, mCall, chk, mSeq, mRet, mRetN, mNext, mSet, mDrop, mIfS, mIf, mPar, mTg, mAug, mCB, mCons, mNil, mBin, mChain, mTest, bOf, mAndT, mOrT, mNotT, mAnd, mOr, mNot, mNeg, mVar, mC, mTup, mLst, mYes, mItQ, mItR1, mItR2, mItE, mItZ, mRaise, mIsi, mMt, mDNew, mStore, mGet2, mSl, mPart, bindS_ok, bindS_ex, bindS_bad, Out.bind_ok, Out.bind_ex, Out.bind_bad, ofO_some, ofO_none, List.map_cons, List.map_nil, List.replicate, List.cons_append, List.nil_append, List.append_nil, List.getElem?_cons_zero, List.getElem?_cons_succ, List.set_cons_zero, List.set_cons_succ, List.length_cons, List.length_nil, List.length_append, List.length_map, wipeF, setAll, tgM, if_true, if_false, Bool.not_true, Bool.not_false, Nat.zero_add, reduceCtorEq, Bool.false_eq_true, es_pg, es_pc, w1, a1, ni, w2]
        rfl
      | int b hb0 hb1 =>
        have w2 : ∀ S, m_l_whole E [.int b] S = .ok (.bl true) S := w2
        dsimp only
        by_cases h1 : 1 ≤ b
        · by_cases h2 : b < a
          · rw [if_pos ⟨h1, h2⟩]
            obtain ⟨S2, b1, b2⟩ := after_part E (S := S1) ok a b
            rw [part_law (rise_nodup ok.rise) (fun x hx => (ok.bd x hx).2) hk] at b1
            refine ⟨S2, ?_, a2.trans b2⟩
            unfold m_l_due b_l_due
            by_cases hl : 40 < (partR r a b).length
            · rw [if_pos hl]
              have hl' : (40 : Int) < (((partR r a b).length : Nat) : Int) := by omega
              simp only [mFn, mCall, chk, mSeq, mRet, mRetN, mNext, mSet, mDrop, mIfS, mIf, mPar, mTg, mAug, mCB, mCons, mNil, mBin, mChain, mTest, bOf, mAndT, mOrT, mNotT, mAnd, mOr, mNot, mNeg, mVar, mC, mTup, mLst, mYes, mItQ, mItR1, mItR2, mItE, mItZ, mRaise, mIsi, mMt, mDNew, mStore, mGet2, mSl, mPart, bindS_ok, bindS_ex, bindS_bad, Out.bind_ok, Out.bind_ex, Out.bind_bad, ofO_some, ofO_none, List.map_cons, List.map_nil, List.replicate, List.cons_append, List.nil_append, List.append_nil, List.getElem?_cons_zero, List.getElem?_cons_succ, List.set_cons_zero, List.set_cons_succ, List.length_cons, List.length_nil, List.length_append, List.length_map, wipeF, setAll, tgM, if_true, if_false, Bool.not_true, Bool.not_false, Nat.zero_add, reduceCtorEq, Bool.false_eq_true, es_pg, es_pc, w1, a1, ni, w2, le_ii, lt_ii, decide_eq_true h1, decide_eq_true h2, b1, len_q (std_q S2 _), gt_ii, decide_eq_true hl']
              rfl
            · rw [if_neg hl]
              have hl' : ¬ (40 : Int) < (((partR r a b).length : Nat) : Int) := by omega
              simp only [mFn, mCall, chk, mSeq, mRet, mRetN, mNext, mSet, mDrop, mIfS, mIf, mPar, mTg, mAug, mCB, mCons, mNil, mBin, mChain, mTest, bOf, mAndT, mOrT, mNotT, mAnd, mOr, mNot, mNeg, mVar, mC, mTup, mLst, mYes, mItQ, mItR1, mItR2, mItE, mItZ, mRaise, mIsi, mMt, mDNew, mStore, mGet2, mSl, mPart, bindS_ok, bindS_ex, bindS_bad, Out.bind_ok, Out.bind_ex, Out.bind_bad, ofO_some, ofO_none, List.map_cons, List.map_nil, List.replicate, List.cons_append, List.nil_append, List.append_nil, List.getElem?_cons_zero, List.getElem?_cons_succ, List.set_cons_zero, List.set_cons_succ, List.length_cons, List.length_nil, List.length_append, List.length_map, wipeF, setAll, tgM, if_true, if_false, Bool.not_true, Bool.not_false, Nat.zero_add, reduceCtorEq, Bool.false_eq_true, es_pg, es_pc, w1, a1, ni, w2, le_ii, lt_ii, decide_eq_true h1, decide_eq_true h2, b1, len_q (std_q S2 _), gt_ii, decide_eq_false hl']
              rfl
          · rw [if_neg fun z => h2 z.2]
            refine ⟨S1, ?_, a2⟩
            unfold m_l_due b_l_due
            simp only [mFn, mCall, chk, mSeq, mRet, mRetN, mNext, mSet, mDrop, mIfS, mIf, mPar, mTg, mAug, mCB, mCons, mNil, mBin, mChain, mTest, bOf, mAndT, mOrT, mNotT, mAnd, mOr, mNot, mNeg, mVar, mC, mTup, mLst, mYes, mItQ, mItR1, mItR2, mItE, mItZ, mRaise, mIsi, mMt, mDNew, mStore, mGet2, mSl, mPart, bindS_ok, bindS_ex, bindS_bad, Out.bind_ok, Out.bind_ex, Out.bind_bad, ofO_some, ofO_none, List.map_cons, List.map_nil, List.replicate, List.cons_append, List.nil_append, List.append_nil, List.getElem?_cons_zero, List.getElem?_cons_succ, List.set_cons_zero, List.set_cons_succ, List.length_cons, List.length_nil, List.length_append, List.length_map, wipeF, setAll, tgM, if_true, if_false, Bool.not_true, Bool.not_false, Nat.zero_add, reduceCtorEq, Bool.false_eq_true, es_pg, es_pc, w1, a1, ni, w2, le_ii, lt_ii, decide_eq_true h1, decide_eq_false h2]
            rfl
        · rw [if_neg fun z => h1 z.1]
          refine ⟨S1, ?_, a2⟩
          unfold m_l_due b_l_due
          simp only [mFn, mCall, chk, mSeq, mRet, mRetN, mNext, mSet, mDrop, mIfS, mIf, mPar, mTg, mAug, mCB, mCons, mNil, mBin, mChain, mTest, bOf, mAndT, mOrT, mNotT, mAnd, mOr, mNot, mNeg, mVar, mC, mTup, mLst, mYes, mItQ, mItR1, mItR2, mItE, mItZ, mRaise, mIsi, mMt, mDNew, mStore, mGet2, mSl, mPart, bindS_ok, bindS_ex, bindS_bad, Out.bind_ok, Out.bind_ex, Out.bind_bad, ofO_some, ofO_none, List.map_cons, List.map_nil, List.replicate, List.cons_append, List.nil_append, List.append_nil, List.getElem?_cons_zero, List.getElem?_cons_succ, List.set_cons_zero, List.set_cons_succ, List.length_cons, List.length_nil, List.length_append, List.length_map, wipeF, setAll, tgM, if_true, if_false, Bool.not_true, Bool.not_false, Nat.zero_add, reduceCtorEq, Bool.false_eq_true, es_pg, es_pc, w1, a1, ni, w2, le_ii, lt_ii, decide_eq_false h1]
          rfl
    · rw [if_neg hk]
      rw [decide_eq_false hk] at ni
      have ni : oNotIn (.int a) (.ref S.length) S1 = some (.bl true, S1) := ni
      refine ⟨S1, ?_, a2⟩
      unfold m_l_due b_l_due
      simp only [mFn, mCall, chk, mSeq, mRet, mRetN, mNext, mSet, mDrop, mIfS, mIf, mPar, mTg, mAug, mCB, mCons, mNil, mBin, mChain, mTest, bOf, mAndT, mOrT, mNotT, mAnd, mOr, mNot, mNeg, mVar, mC, mTup, mLst, mYes, mItQ, mItR1, mItR2, mItE, mItZ, mRaise, mIsi, mMt, mDNew, mStore, mGet2, mSl, mPart, bindS_ok, bindS_ex, bindS_bad, Out.bind_ok, Out.bind_ex, Out.bind_bad, ofO_some, ofO_none, List.map_cons, List.map_nil, List.replicate, List.cons_append, List.nil_append, List.append_nil, List.getElem?_cons_zero, List.getElem?_cons_succ, List.set_cons_zero, List.set_cons_succ, List.length_cons, List.length_nil, List.length_append, List.length_map, wipeF, setAll, tgM, if_true, if_false, Bool.not_true, Bool.not_false, Nat.zero_add, reduceCtorEq, Bool.false_eq_true, es_pg, es_pc, w1, a1, ni]
      rfl
end

/-! ## a deed drawn -/
section
def DeedW (d : W) : Prop := (∃ v, d = .tup [.str "go", v, .int 0] ∧ Sc v) ∨ (∃ v u, d = .tup [.str "come", v, u] ∧ Sc v ∧ Sc u) ∨ ∃ v u, d = .tup [.str "part", v, u] ∧ Sc v ∧ Sc u
variable (E : Nat → Addr) {S : Sto} {r : Rows} {dk t : Nat}
end

/-! ## a deed, its end, its due, what is behind it -/
section
variable (E : Nat → Addr) {S : Sto} {r s : Rows} {n m : Nat} {g h : Int}
theorem tell_eq {D : Nat ⊕ Rows} (k : kindD D) (S : Sto) : oNe (.str (tellD D)) (.str (tellD D)) S = some (.bl false, S) ∧ oEq (.str (tellD D)) (.str "") S = some (.bl (isR D), S) := by
  cases D with
  | inr r' => exact ⟨by kernel_rfl, by kernel_rfl⟩
  | inl i =>
    have k : i = 2 ∨ i = 3 ∨ i = 4 ∨ i = 7 := k
    rcases k with rfl | rfl | rfl | rfl <;> exact ⟨by kernel_rfl, by kernel_rfl⟩
theorem eqP_ref (hn : S[n]? = some (.ins (E 9) (fsR r g))) (hm : S[m]? = some (.ins (E 9) (fsR s h))) : oEqP (E 9) (m_Plain_eq E) (.ref n) (.ref m) S = some (.bl (decide (r = s) && decide (g = h)), S) := by
  unfold oEqP
  rw [insOf_at hn, kinC_at hm]
  dsimp only
  unfold chk
  rw [if_pos (by rfl), pl_eq E hn hm]
theorem eqP_tup (hn : S[n]? = some (.ins (E 9) (fsR r g))) (l : List W) : oEqP (E 9) (m_Plain_eq E) (.ref n) (.tup l) S = some (.bl false, S) := by
  unfold oEqP
  rw [insOf_at hn, kinC_tup]
  dsimp only
  unfold chk
  rw [if_pos (by rfl), pl_eq_tup E hn]
theorem lenP_ref (hn : S[n]? = some (.ins (E 9) (fsR r g))) (hl : r.length ≤ 40) : oLenP (E 9) (m_Plain_len E) [.ref n] S = some (.int (r.length : Nat), S) := by
  unfold oLenP
  dsimp only
  rw [insOf_at hn]
  dsimp only
  unfold chk
  rw [if_pos (by rfl), pl_len E hn]
  dsimp only
  rw [if_pos ⟨by omega, by omega⟩]
theorem make_ev {φ : Fr} {fr : FE (List W)} (hf : fr φ S = .ok [std r] S) (ok : Ok r) : ∃ S', mMake (E 9) 2 (m_Plain_init E) fr φ S = .ok (.ref S.length) S' ∧ S'[S.length]? = some (.ins (E 9) (fsR r 0)) ∧ Kp [] S S' := by
  obtain ⟨S1, a1, a2, a3⟩ := pl_init E (S := S ++ [.ins (E 9) []]) (at_new S (.ins (E 9) [])) ok
  refine ⟨S1, ?_, a2, (Kp.push [] S [.ins (E 9) []]).fresh a3 fun m hm => .inr (by simp at hm; omega)⟩
  unfold mMake
  rw [hf, Out.bind_ok]
  unfold chk
  rw [if_pos (by rfl), a1]
/-- what the law counts of a deed -/
def goneE (i : Nat) : FE W := mIf (mTest (mBin oEq (mBin oIx (mVar i) (mC (.int 0))) (mC (.str "go")))) (mBin oIx (mVar i) (mC (.int 1))) (mC (.int 0))
theorem hd_less {r s : Rows} (h : hd r ≠ hd s) : r ≠ s := fun z => h (by rw [z])
theorem deed_all (inj : Inj9 E) (ok : Ok r) {d : W} (hd : DeedW d) : ∃ (D : Nat ⊕ Rows) (dg : Int), kindD D ∧
    (∀ S n g, S[0]? = some (.tab (E 100) "_law_do.<locals>.<lambda>") → S[n]? = some (.ins (E 9) (fsR r g)) → ∃ S', m_l_do E [.ref n, d] S = .ok (.str (tellD D)) S' ∧ S'[n]? = some (.ins (E 9) (fsR (behD r D) (gonD g dg D))) ∧ Kp [n] S S') ∧
    (∀ S, ∃ S', m_l_due E [std r, d] S = .ok (.str (tellD D)) S' ∧ Kp [] S S') ∧
    ∀ r', D = .inr r' → Ok r' ∧ (r' ≠ r ∨ dg ≠ 0) ∧ (∀ S, ∃ S', m_l_after E [std r, d] S = .ok (std r') S' ∧ Kp [] S S') ∧ ∀ (i : Nat) φ S, φ[i]? = some (some d) → goneE i φ S = .ok (.int dg) S := by
  have rn := rise_nodup ok.rise
  have rp : ∀ x ∈ r, 1 ≤ x.2 := fun x hx => (ok.bd x hx).2
  rcases hd with ⟨v, rfl, hv⟩ | ⟨v, u, rfl, hv, hu⟩ | ⟨v, u, rfl, hv, hu⟩
  · refine ⟨goD r v, _, kind_go r v, fun S n g ht hn => do_go E inj ht hn ok hv _, fun S => ⟨S, due_go E hv _, Kp.refl _ _⟩, fun r' e => ?_⟩
    cases hv with
    | non => cases e
    | bl b => cases e
    | int d _ _ =>
      unfold goD at e
      dsimp only at e
      by_cases hc : 1 ≤ d ∧ d ≤ 10 ^ 18
      · rw [if_pos hc] at e
        cases e
        refine ⟨ok.iter _, .inr (show d ≠ 0 by omega), fun S => after_go E ok hc.1 _, fun i φ S hφ => ?_⟩
        have i0 : oIx (.tup [.str "go", .int d, .int 0]) (.int 0) S = some (.str "go", S) := ix_l (tup_q _) (atI_nat (i := 0) rfl)
        have i1 : oIx (.tup [.str "go", .int d, .int 0]) (.int 1) S = some (.int d, S) := ix_l (tup_q _) (atI_nat (i := 1) rfl)
        unfold goneE
        simp only [mFn, mCall, chk, mSeq, mRet, mRetN, mNext, mSet, mDrop, mIfS, mIf, mPar, mTg, mAug, mCB, mCons, mNil, mBin, mChain, mTest, bOf, mAndT, mOrT, mNotT, mAnd, mOr, mNot, mNeg, mVar, mC, mTup, mLst, mYes, mItQ, mItR1, mItR2, mItE, mItZ, mRaise, mIsi, mMt, mDNew, mStore, mGet2, mSl, mPart, bindS_ok, bindS_ex, bindS_bad, Out.bind_ok, Out.bind_ex, Out.bind_bad, ofO_some, ofO_none, List.map_cons, List.map_nil, List.replicate, List.cons_append, List.nil_append, List.append_nil, List.getElem?_cons_zero, List.getElem?_cons_succ, List.set_cons_zero, List.set_cons_succ, List.length_cons, List.length_nil, List.length_append, List.length_map, wipeF, setAll, tgM, if_true, if_false, Bool.not_true, Bool.not_false, Nat.zero_add, reduceCtorEq, Bool.false_eq_true, hφ, i0, i1, es_gc]
      · rw [if_neg hc] at e
        cases e
  · refine ⟨comeD r v u, 0, kind_come r v u, fun S n g ht hn => do_come E inj ht hn ok hv hu, fun S => due_come E ok hv hu, fun r' e => ?_⟩
    cases hv with
    | non => cases e
    | bl b => cases e
    | int a _ _ =>
      cases hu with
      | non => cases e
      | bl b => cases e
      | int b _ _ =>
        unfold comeD at e
        dsimp only at e
        by_cases h1 : a < 1 ∨ b < 1
        · rw [if_pos h1] at e; cases e
        · rw [if_neg h1] at e
          by_cases h2 : 40 < (comeR r a b).length ∨ bigF < folkP (comeR r a b)
          · rw [if_pos h2] at e; cases e
          · rw [if_neg h2] at e
            cases e
            have ha : 1 ≤ a := by omega
            have hb : 1 ≤ b := by omega
            have hf : folkP (comeR r a b) ≠ folkP r := by
              rw [come_folk]
              have := mul_pos1 ha hb
              omega
            refine ⟨come_ok ok ha hb (by omega) (by omega), .inl fun z => hf (by rw [z]), fun S => ?_, fun i φ S hφ => ?_⟩
            · rw [← come_law rp hb]
              exact after_come E ok a b
            · have i0 : oIx (.tup [.str "come", .int a, .int b]) (.int 0) S = some (.str "come", S) := ix_l (tup_q _) (atI_nat (i := 0) rfl)
              unfold goneE
              simp only [mFn, mCall, chk, mSeq, mRet, mRetN, mNext, mSet, mDrop, mIfS, mIf, mPar, mTg, mAug, mCB, mCons, mNil, mBin, mChain, mTest, bOf, mAndT, mOrT, mNotT, mAnd, mOr, mNot, mNeg, mVar, mC, mTup, mLst, mYes, mItQ, mItR1, mItR2, mItE, mItZ, mRaise, mIsi, mMt, mDNew, mStore, mGet2, mSl, mPart, bindS_ok, bindS_ex, bindS_bad, Out.bind_ok, Out.bind_ex, Out.bind_bad, ofO_some, ofO_none, List.map_cons, List.map_nil, List.replicate, List.cons_append, List.nil_append, List.append_nil, List.getElem?_cons_zero, List.getElem?_cons_succ, List.set_cons_zero, List.set_cons_succ, List.length_cons, List.length_nil, List.length_append, List.length_map, wipeF, setAll, tgM, if_true, if_false, Bool.not_true, Bool.not_false, Nat.zero_add, reduceCtorEq, Bool.false_eq_true, hφ, i0, es_cg]
  · refine ⟨partD r v u, 0, kind_part r v u, fun S n g ht hn => do_part E inj ht hn ok hv hu, fun S => due_part E ok hv hu, fun r' e => ?_⟩
    cases hv with
    | non => cases e
    | bl b => cases e
    | int a _ _ =>
      unfold partD at e
      dsimp only at e
      by_cases hk : a ∈ keys r
      · rw [if_pos hk] at e
        cases hu with
        | non => cases e
        | bl b => cases e
        | int b _ _ =>
          dsimp only at e
          by_cases h1 : 1 ≤ b ∧ b < a
          · rw [if_pos h1] at e
            by_cases h2 : 40 < (partR r a b).length
            · rw [if_pos h2] at e; cases e
            · rw [if_neg h2] at e
              cases e
              refine ⟨part_ok ok hk h1.1 h1.2 (by omega), .inl (hd_less (by rw [part_hd rn rp hk]; omega)), fun S => ?_, fun i φ S hφ => ?_⟩
              · rw [← part_law rn rp hk]
                exact after_part E ok a b
              · have i0 : oIx (.tup [.str "part", .int a, .int b]) (.int 0) S = some (.str "part", S) := ix_l (tup_q _) (atI_nat (i := 0) rfl)
                unfold goneE
                simp only [mFn, mCall, chk, mSeq, mRet, mRetN, mNext, mSet, mDrop, mIfS, mIf, mPar, mTg, mAug, mCB, mCons, mNil, mBin, mChain, mTest, bOf, mAndT, mOrT, mNotT, mAnd, mOr, mNot, mNeg, mVar, mC, mTup, mLst, mYes, mItQ, mItR1, mItR2, mItE, mItZ, mRaise, mIsi, mMt, mDNew, mStore, mGet2, mSl, mPart, bindS_ok, bindS_ex, bindS_bad, Out.bind_ok, Out.bind_ex, Out.bind_bad, ofO_some, ofO_none, List.map_cons, List.map_nil, List.replicate, List.cons_append, List.nil_append, List.append_nil, List.getElem?_cons_zero, List.getElem?_cons_succ, List.set_cons_zero, List.set_cons_succ, List.length_cons, List.length_nil, List.length_append, List.length_map, wipeF, setAll, tgM, if_true, if_false, Bool.not_true, Bool.not_false, Nat.zero_add, reduceCtorEq, Bool.false_eq_true, hφ, i0, es_pg]
          · rw [if_neg h1] at e; cases e
      · rw [if_neg hk] at e; cases e
end

/-! ## a good deed drawn; a look beside -/
section
variable (E : Nat → Addr) {S : Sto} {r : Rows} {dk t : Nat}
theorem good_deed_spec (hd : Deck S dk t) (ht : t + 10 < 4294967296) (ok : Ok r) : ∃ S' d, m_l_good_deed E [.ref dk, std r] S = .ok d S' ∧ DeedW d ∧ Deck S' dk (t + 10) ∧ Kp [dk] S S' := by
  have big : 2000 ≤ bigL := by decide
  have l40 := ok.l40
  have hlt := hd.lt
  have bF : bigF ≤ 10 ^ 61 := by decide
  have bF2 : bigF ≤ 10 ^ 200 := by decide
  have t3 : ∀ a b c : W, ∀ S, tupO [a, b, c] S = some (.tup [a, b, c], S) := fun a b c S => tupO_ok (by decide : 3 ≤ bigL)
  have p18 : ∀ S, oPowI (.int 10) (.int 18) S = some (.int (10 ^ 18), S) := fun S => pow_ii (by decide) (by decide) (by decide)
  obtain ⟨S1, b1, b2, b3⟩ := comp_all (own := [2, 3]) (T := .many [2, 3]) (f := mVar 2) (φ := [some (.ref dk), some (std r), none, none, none, none]) (it := mItQ (mVar 1)) (S := S) (S1 := S) (m := itL (std r)) tp r (fun p => .int p.1) (by simp only [mFn, mCall, chk, mSeq, mRet, mRetN, mNext, mSet, mDrop, mIfS, mIf, mPar, mTg, mAug, mCB, mCons, mNil, mBin, mChain, mTest, bOf, mAndT, mOrT, mNotT, mAnd, mOr, mNot, mNeg, mVar, mC, mTup, mLst, mYes, mItQ, mItR1, mItR2, mItE, mItZ, mRaise, mIsi, mMt, mDNew, mStore, mGet2, mSl, mPart, bindS_ok, bindS_ex, bindS_bad, Out.bind_ok, Out.bind_ex, Out.bind_bad, ofO_some, ofO_none, List.map_cons, List.map_nil, List.replicate, List.cons_append, List.nil_append, List.append_nil, List.getElem?_cons_zero, List.getElem?_cons_succ, List.set_cons_zero, List.set_cons_succ, List.length_cons, List.length_nil, List.length_append, List.length_map, wipeF, setAll, tgM, if_true, if_false, Bool.not_true, Bool.not_false, Nat.zero_add, reduceCtorEq, Bool.false_eq_true, std_q]) (wk_l (std_q S r) fun _ _ z => nomatch z) (Ok.ltT ok.toOw) fun x hx S2 k => ⟨_, rfl, S2, rfl, Kp.refl _ _⟩
  have d1 := hd.keep b2
  obtain ⟨S2, w, a1, a2, a3, a4, a5⟩ := pick_spec E d1 (by omega) (size := 6) (by decide) (by decide)
  have lt1 : dk < S1.length := d1.lt
  have atz := a5.at' _ _ (show S.length ∉ [dk] by simp; omega) b3
  have szr : ∀ x ∈ (r.map fun p => W.int p.1), ∃ i : Int, x = .int i ∧ 1 ≤ i ∧ i ≤ bigF := fun x hx => by
    obtain ⟨p, hp, rfl⟩ := List.mem_map.mp hx
    obtain ⟨q1, _, q3, _⟩ := ok.each hp
    exact ⟨_, rfl, q1, q3⟩
  have sne : (r.map fun p => W.int p.1) ≠ [] := fun z => ok.ne (List.map_eq_nil_iff.mp z)
  have k02 : Kp [dk] S S2 := (b2.mono (by simp)).trans a5
  have szl : (r.map fun p => W.int p.1).length ≤ 40 := by rw [List.length_map]; exact l40
  generalize hsz : (r.map fun p => W.int p.1) = sz at *
  have draw : ∀ (l : List W) (S : Sto) (t2 : Nat), (∀ x ∈ l, Sc x) → l ≠ [] → l.length ≤ 200 → Deck S dk t2 → t2 < 4294967296 → ∃ S' y, m_l_one E [.ref dk, .ref S.length] (S ++ [.lst l]) = .ok y S' ∧ Sc y ∧ Deck S' dk (t2 + 1) ∧ Kp [dk] S S' := fun l S t2 hl hne hlen dkS h3 => by
    have k1 : Kp [] S (S ++ [.lst l]) := Kp.push _ _ _
    have lt := dkS.lt
    obtain ⟨S', y, o1, o2, o3, o4⟩ := one_spec E (dkS.keep k1) h3 (ref_q (at_new S (.lst l))) (fun z => by have := W.ref.inj z; omega) hne (by omega)
    exact ⟨S', y, o1, hl y o2, o3, (k1.mono (by simp)).trans o4⟩
  have s1 : Sc (.int 1) := .int _ (by decide) (by decide)
  have s2 : Sc (.int 2) := .int _ (by decide) (by decide)
  have s3 : Sc (.int 3) := .int _ (by decide) (by decide)
  by_cases h1 : w = 0
  · have lz : lstO [W.int 1, .int 1, .int 2, .int 3, .int (10 ^ 18)] S2 = some (.ref S2.length, S2 ++ [.lst [W.int 1, .int 1, .int 2, .int 3, .int (10 ^ 18)]]) := lstO_ok (by decide : 5 ≤ bigL)
    obtain ⟨S3, y, c1, c2, c3, c4⟩ := draw [W.int 1, .int 1, .int 2, .int 3, .int (10 ^ 18)] S2 (t + 1) (fun x hx => by
      simp only [List.mem_cons, List.not_mem_nil, or_false] at hx
      rcases hx with rfl | rfl | rfl | rfl | rfl
      · exact s1
      · exact s1
      · exact s2
      · exact s3
      · exact .int _ (by decide) (by decide)) (by simp) (by simp) a4 (by omega)
    refine ⟨S3, .tup [.str "go", y, .int 0], ?_, .inl ⟨y, rfl, c2⟩, c3.mono (by omega), k02.trans c4⟩
    unfold m_l_good_deed b_l_good_deed
    simp only [mFn, mCall, chk, mSeq, mRet, mRetN, mNext, mSet, mDrop, mIfS, mIf, mPar, mTg, mAug, mCB, mCons, mNil, mBin, mChain, mTest, bOf, mAndT, mOrT, mNotT, mAnd, mOr, mNot, mNeg, mVar, mC, mTup, mLst, mYes, mItQ, mItR1, mItR2, mItE, mItZ, mRaise, mIsi, mMt, mDNew, mStore, mGet2, mSl, mPart, bindS_ok, bindS_ex, bindS_bad, Out.bind_ok, Out.bind_ex, Out.bind_bad, ofO_some, ofO_none, List.map_cons, List.map_nil, List.replicate, List.cons_append, List.nil_append, List.append_nil, List.getElem?_cons_zero, List.getElem?_cons_succ, List.set_cons_zero, List.set_cons_succ, List.length_cons, List.length_nil, List.length_append, List.length_map, wipeF, setAll, tgM, if_true, if_false, Bool.not_true, Bool.not_false, Nat.zero_add, reduceCtorEq, Bool.false_eq_true, b1, a1, eq_ii, decide_eq_true h1, p18, lz, c1, t3]
  · obtain ⟨S3, y, c1, c2, c3, c4⟩ := one_spec E a4 (by omega) (ref_q atz) (fun z => by have := W.ref.inj z; omega) sne (by omega)
    obtain ⟨i, rfl, i1, i2⟩ := szr y c2
    have atz3 := c4.at' _ _ (show S.length ∉ [dk] by simp; omega) atz
    by_cases h2 : w < 4 ∨ i = 1
    · obtain ⟨S4, v, d1, d2, d3, d4, d5⟩ := pick_spec E c3 (by omega) (size := 50) (by decide) (by decide)
      have atz4 := d5.at' _ _ (show S.length ∉ [dk] by simp; omega) atz3
      have lz : lstO [W.int 1, .int 2, .int (1 + v)] S4 = some (.ref S4.length, S4 ++ [.lst [W.int 1, .int 2, .int (1 + v)]]) := lstO_ok (by decide : 3 ≤ bigL)
      have kk : Kp [] S4 (S4 ++ [.lst [W.int 1, .int 2, .int (1 + v)]]) := Kp.push _ _ _
      have at4 := at_new S4 (.lst [W.int 1, .int 2, .int (1 + v)])
      have atz5 := kk.at' _ _ (by simp) atz4
      have dk5 := d4.keep kk
      generalize hS5 : S4 ++ [Ob.lst [W.int 1, .int 2, .int (1 + v)]] = S5 at *
      have ad := add_ll (ref_l atz5) (ref_l at4) (by rw [List.length_append]; simp only [List.length_cons, List.length_nil]; omega)
      obtain ⟨S6, y, e1, e2, e3, e4⟩ := draw (sz ++ [W.int 1, .int 2, .int (1 + v)]) S5 (t + 1 + 1 + 1) (fun x hx => by
        rcases List.mem_append.mp hx with hx | hx
        · obtain ⟨j, rfl, j1, j2⟩ := szr x hx
          exact .int _ (by omega) (by omega)
        · simp only [List.mem_cons, List.not_mem_nil, or_false] at hx
          rcases hx with rfl | rfl | rfl
          · exact s1
          · exact s2
          · exact .int _ (by omega) (by have : (51 : Int) ≤ 10 ^ 61 := by decide
                                        omega)) (by simp) (by rw [List.length_append]; simp only [List.length_cons, List.length_nil]; omega) dk5 (by omega)
      have lz2 : lstO [W.int 1, .int 1, .int 2, .int 3] S6 = some (.ref S6.length, S6 ++ [.lst [W.int 1, .int 1, .int 2, .int 3]]) := lstO_ok (by decide : 4 ≤ bigL)
      obtain ⟨S7, y2, g1, g2, g3, g4⟩ := draw [W.int 1, .int 1, .int 2, .int 3] S6 (t + 1 + 1 + 1 + 1) (fun x hx => by
        simp only [List.mem_cons, List.not_mem_nil, or_false] at hx
        rcases hx with rfl | rfl | rfl | rfl
        · exact s1
        · exact s1
        · exact s2
        · exact s3) (by simp) (by simp) e3 (by omega)
      refine ⟨S7, .tup [.str "come", y, y2], ?_, .inr (.inl ⟨y, y2, rfl, e2, g2⟩), g3.mono (by omega), ((((k02.trans c4).trans d5).trans (kk.mono (by simp))).trans e4).trans g4⟩
      unfold m_l_good_deed b_l_good_deed
      by_cases h3 : w < 4
      · simp only [mFn, mCall, chk, mSeq, mRet, mRetN, mNext, mSet, mDrop, mIfS, mIf, mPar, mTg, mAug, mCB, mCons, mNil, mBin, mChain, mTest, bOf, mAndT, mOrT, mNotT, mAnd, mOr, mNot, mNeg, mVar, mC, mTup, mLst, mYes, mItQ, mItR1, mItR2, mItE, mItZ, mRaise, mIsi, mMt, mDNew, mStore, mGet2, mSl, mPart, bindS_ok, bindS_ex, bindS_bad, Out.bind_ok, Out.bind_ex, Out.bind_bad, ofO_some, ofO_none, List.map_cons, List.map_nil, List.replicate, List.cons_append, List.nil_append, List.append_nil, List.getElem?_cons_zero, List.getElem?_cons_succ, List.set_cons_zero, List.set_cons_succ, List.length_cons, List.length_nil, List.length_append, List.length_map, wipeF, setAll, tgM, if_true, if_false, Bool.not_true, Bool.not_false, Nat.zero_add, reduceCtorEq, Bool.false_eq_true, b1, a1, eq_ii, decide_eq_false h1, c1, lt_ii, decide_eq_true h3, d1, add_ii, lz, ad, e1, lz2, g1, t3]
      · simp only [mFn, mCall, chk, mSeq, mRet, mRetN, mNext, mSet, mDrop, mIfS, mIf, mPar, mTg, mAug, mCB, mCons, mNil, mBin, mChain, mTest, bOf, mAndT, mOrT, mNotT, mAnd, mOr, mNot, mNeg, mVar, mC, mTup, mLst, mYes, mItQ, mItR1, mItR2, mItE, mItZ, mRaise, mIsi, mMt, mDNew, mStore, mGet2, mSl, mPart, bindS_ok, bindS_ex, bindS_bad, Out.bind_ok, Out.bind_ex, Out.bind_bad, ofO_some, ofO_none, List.map_cons, List.map_nil, List.replicate, List.cons_append, List.nil_append, List.append_nil, List.getElem?_cons_zero, List.getElem?_cons_succ, List.set_cons_zero, List.set_cons_succ, List.length_cons, List.length_nil, List.length_append, List.length_map, wipeF, setAll, tgM, if_true, if_false, Bool.not_true, Bool.not_false, Nat.zero_add, reduceCtorEq, Bool.false_eq_true, b1, a1, eq_ii, decide_eq_false h1, c1, lt_ii, decide_eq_false h3, decide_eq_true (h2.resolve_left h3), d1, add_ii, lz, ad, e1, lz2, g1, t3]
    · have h3 : ¬ w < 4 := fun z => h2 (.inl z)
      have h4 : ¬ i = 1 := fun z => h2 (.inr z)
      obtain ⟨S4, v, d1, d2, d3, d4, d5⟩ := pick_spec E c3 (by omega) (size := i - 1) (by omega) (by omega)
      have lz : lstO [W.int 1, .int (i - 1), .int (1 + v)] S4 = some (.ref S4.length, S4 ++ [.lst [W.int 1, .int (i - 1), .int (1 + v)]]) := lstO_ok (by decide : 3 ≤ bigL)
      obtain ⟨S7, y2, g1, g2, g3, g4⟩ := draw [W.int 1, .int (i - 1), .int (1 + v)] S4 (t + 1 + 1 + 1) (fun x hx => by
        simp only [List.mem_cons, List.not_mem_nil, or_false] at hx
        rcases hx with rfl | rfl | rfl
        · exact s1
        · exact .int _ (by omega) (by omega)
        · exact .int _ (by omega) (by omega)) (by simp) (by simp) d4 (by omega)
      refine ⟨S7, .tup [.str "part", .int i, y2], ?_, .inr (.inr ⟨.int i, y2, rfl, .int _ (by omega) (by omega), g2⟩), g3.mono (by omega), ((k02.trans c4).trans d5).trans g4⟩
      unfold m_l_good_deed b_l_good_deed
      simp only [mFn, mCall, chk, mSeq, mRet, mRetN, mNext, mSet, mDrop, mIfS, mIf, mPar, mTg, mAug, mCB, mCons, mNil, mBin, mChain, mTest, bOf, mAndT, mOrT, mNotT, mAnd, mOr, mNot, mNeg, mVar, mC, mTup, mLst, mYes, mItQ, mItR1, mItR2, mItE, mItZ, mRaise, mIsi, mMt, mDNew, mStore, mGet2, mSl, mPart, bindS_ok, bindS_ex, bindS_bad, Out.bind_ok, Out.bind_ex, Out.bind_bad, ofO_some, ofO_none, List.map_cons, List.map_nil, List.replicate, List.cons_append, List.nil_append, List.append_nil, List.getElem?_cons_zero, List.getElem?_cons_succ, List.set_cons_zero, List.set_cons_succ, List.length_cons, List.length_nil, List.length_append, List.length_map, wipeF, setAll, tgM, if_true, if_false, Bool.not_true, Bool.not_false, Nat.zero_add, reduceCtorEq, Bool.false_eq_true, b1, a1, eq_ii, decide_eq_false h1, c1, lt_ii, decide_eq_false h3, decide_eq_false h4, sub_ii, d1, add_ii, lz, g1, t3]
theorem met_ok (h : Ok r) : ∃ S' n, m_met E [std r] S = .ok (.ref n) S' ∧ S.length ≤ n ∧ S'[n]? = some (.lst ((met r).map W.int)) ∧ Kp [] S S' := by
  obtain ⟨S1, a1, a2⟩ := need_stand_ok E (S := S) h
  obtain ⟨S2, n, b1, b2, b3, b4⟩ := met_sizes_ok E (S := S1) h.toOw
  refine ⟨S2, n, ?_, Nat.le_trans a2.le b2, b3, a2.trans b4⟩
  unfold m_met b_met
  simp only [mFn, mCall, chk, mSeq, mRet, mRetN, mNext, mSet, mDrop, mIfS, mIf, mPar, mTg, mAug, mCB, mCons, mNil, mBin, mChain, mTest, bOf, mAndT, mOrT, mNotT, mAnd, mOr, mNot, mNeg, mVar, mC, mTup, mLst, mYes, mItQ, mItR1, mItR2, mItE, mItZ, mRaise, mIsi, mMt, mDNew, mStore, mGet2, mSl, mPart, bindS_ok, bindS_ex, bindS_bad, Out.bind_ok, Out.bind_ex, Out.bind_bad, ofO_some, ofO_none, List.map_cons, List.map_nil, List.replicate, List.cons_append, List.nil_append, List.append_nil, List.getElem?_cons_zero, List.getElem?_cons_succ, List.set_cons_zero, List.set_cons_succ, List.length_cons, List.length_nil, List.length_append, List.length_map, wipeF, setAll, tgM, if_true, if_false, Bool.not_true, Bool.not_false, Nat.zero_add, reduceCtorEq, Bool.false_eq_true, a1, b1]
theorem beside_spec (ok : Ok r) : ∃ S' w, m_l_beside E [std r] S = .ok w S' ∧ Kp [] S S' := by
  obtain ⟨S1, a1, a2⟩ := dusk_ok E (S := S) ok
  obtain ⟨S2, b1, b2⟩ := rest_ok E (S := S1) ok
  obtain ⟨S3, n3, c1, _, c2, c3⟩ := met_ok E (S := S2) ok
  obtain ⟨S4, d1, d2⟩ := behind_ok E (S := S3) ok (n := 2) (by decide)
  obtain ⟨S5, e1, e2, e3⟩ := make_ev E (S := S4) (φ := [some (std r)]) (fr := mCons (mVar 0) mNil) (by simp only [mFn, mCall, chk, mSeq, mRet, mRetN, mNext, mSet, mDrop, mIfS, mIf, mPar, mTg, mAug, mCB, mCons, mNil, mBin, mChain, mTest, bOf, mAndT, mOrT, mNotT, mAnd, mOr, mNot, mNeg, mVar, mC, mTup, mLst, mYes, mItQ, mItR1, mItR2, mItE, mItZ, mRaise, mIsi, mMt, mDNew, mStore, mGet2, mSl, mPart, bindS_ok, bindS_ex, bindS_bad, Out.bind_ok, Out.bind_ex, Out.bind_bad, ofO_some, ofO_none, List.map_cons, List.map_nil, List.replicate, List.cons_append, List.nil_append, List.append_nil, List.getElem?_cons_zero, List.getElem?_cons_succ, List.set_cons_zero, List.set_cons_succ, List.length_cons, List.length_nil, List.length_append, List.length_map, wipeF, setAll, tgM, if_true, if_false, Bool.not_true, Bool.not_false, Nat.zero_add, reduceCtorEq, Bool.false_eq_true]) ok
  obtain ⟨S6, f1, f2⟩ := pl_rest E e2 ok
  have d1' : m_behind E [std r, .int 2] S3 = .ok (std (iter r 2)) S4 := d1
  have lz := lstO_ok (S := S6) (show [std (jn r), .tup [std (restL r), .int (((wayL r).length - 1 : Nat) : Int)], .ref n3, std (iter r 2), std (restL r)].length ≤ bigL from (show 5 ≤ bigL by decide))
  refine ⟨S6 ++ [Ob.lst [std (jn r), .tup [std (restL r), .int (((wayL r).length - 1 : Nat) : Int)], .ref n3, std (iter r 2), std (restL r)]], .ref S6.length, ?_, (((((a2.trans b2).trans c3).trans d2).trans e3).trans f2).trans (Kp.push [] S6 _)⟩
  unfold m_l_beside b_l_beside
  simp only [mFn, mCall, chk, mSeq, mRet, mRetN, mNext, mSet, mDrop, mIfS, mIf, mPar, mTg, mAug, mCB, mCons, mNil, mBin, mChain, mTest, bOf, mAndT, mOrT, mNotT, mAnd, mOr, mNot, mNeg, mVar, mC, mTup, mLst, mYes, mItQ, mItR1, mItR2, mItE, mItZ, mRaise, mIsi, mMt, mDNew, mStore, mGet2, mSl, mPart, bindS_ok, bindS_ex, bindS_bad, Out.bind_ok, Out.bind_ex, Out.bind_bad, ofO_some, ofO_none, List.map_cons, List.map_nil, List.replicate, List.cons_append, List.nil_append, List.append_nil, List.getElem?_cons_zero, List.getElem?_cons_succ, List.set_cons_zero, List.set_cons_succ, List.length_cons, List.length_nil, List.length_append, List.length_map, wipeF, setAll, tgM, if_true, if_false, Bool.not_true, Bool.not_false, Nat.zero_add, reduceCtorEq, Bool.false_eq_true, a1, b1, c1, d1', e1, mMeth, insOf_at e2, show List.lookup ("rest" : Str) (fsR r 0) = none from rfl, f1, lz]
end

/-! ## the law: plains by turns -/
section
def bPair (E : Nat → Addr) : SM := (mSeq (mSet 15 (mBin oEq (mTup (mCons (mBin oIx (mVar 5) (mVar 12)) (mCons (mBin oIx (mVar 6) (mVar 12)) mNil))) (mTup (mCons (mBin oIx (mVar 5) (mVar 14)) (mCons (mBin oIx (mVar 6) (mVar 14)) mNil)))))
    (mIfS (mNotT (mTest (mCall 2 (m_l_same E 8) (mCons (mBin (oEqP (E 9) (m_Plain_eq E)) (mBin oIx (mVar 4) (mVar 12)) (mBin oIx (mVar 4) (mVar 14))) (mCons (mVar 15) mNil))))) (mRet (mC (.bl false))) mNext))
def bLook (E : Nat → Addr) : SM := (mSeq (mSet 13 (mLst (mCons (mMeth (E 9) "stand" 1 (m_Plain_stand E) (mBin oIx (mVar 4) (mVar 12)) mNil) (mCons (mMeth (E 9) "dusks" 1 (m_Plain_dusks E) (mBin oIx (mVar 4) (mVar 12)) mNil) (mCons (mCB (oLenP (E 9) (m_Plain_len E)) (mCons (mBin oIx (mVar 4) (mVar 12)) mNil)) (mCons (mMeth (E 9) "rest" 1 (m_Plain_rest E) (mBin oIx (mVar 4) (mVar 12)) mNil) mNil))))))
    (mSeq (mIfS (mNotT (mTest (mCall 2 (m_l_same E 8) (mCons (mVar 13) (mCons (mLst (mCons (mBin oIx (mVar 5) (mVar 12)) (mCons (mBin oIx (mVar 6) (mVar 12)) (mCons (mCB oLen (mCons (mBin oIx (mVar 5) (mVar 12)) mNil)) (mCons (mBin oIx (mCall 1 (m_l_way E) (mCons (mBin oIx (mVar 5) (mVar 12)) mNil)) (mNeg (mC (.int 1)))) mNil))))) mNil))))) (mRet (mC (.bl false))) mNext)
    (mFor (mItR1 (mCons (mCB oLen (mCons (mVar 4) mNil)) mNil)) (.one 14) (bPair E))))
def bLooks (E : Nat → Addr) : SM := (mFor (mItR1 (mCons (mCB oLen (mCons (mVar 4) mNil)) mNil)) (.one 12) (bLook E))
def bDeed (E : Nat → Addr) : SM := (mSeq (mSet 9 (mCall 2 (m_l_pick E) (mCons (mVar 2) (mCons (mCB oLen (mCons (mVar 4) mNil)) mNil))))
    (mSeq (mSet 10 (mCall 2 (m_l_good_deed E) (mCons (mVar 2) (mCons (mBin oIx (mVar 5) (mVar 9)) mNil))))
    (mSeq (mSet 11 (mCall 2 (m_l_due E) (mCons (mBin oIx (mVar 5) (mVar 9)) (mCons (mVar 10) mNil))))
    (mSeq (mIfS (mTest (mBin oNe (mCall 2 (m_l_do E) (mCons (mBin oIx (mVar 4) (mVar 9)) (mCons (mVar 10) mNil))) (mVar 11))) (mRet (mC (.bl false))) mNext)
    (mSeq (mIfS (mTest (mBin oEq (mVar 11) (mC (.str "")))) (mSeq (mStore (mVar 5) (mVar 9) (mCall 2 (m_l_after E) (mCons (mBin oIx (mVar 5) (mVar 9)) (mCons (mVar 10) mNil))))
    (mStore (mVar 6) (mVar 9) (mBin oAdd (mBin oIx (mVar 6) (mVar 9)) (goneE 10)))) mNext)
    (mSeq (mDrop (mCall 1 (m_l_beside E) (mCons (mBin oIx (mVar 5) (mCall 2 (m_l_pick E) (mCons (mVar 2) (mCons (mCB oLen (mCons (mVar 5) mNil)) mNil)))) mNil)))
    (bLooks E)))))))
def bNew (E : Nat → Addr) : SM := (mIfS (mTest (mBin oEq (mVar 7) (mC (.int 20)))) (mSeq (mSet 8 (mCall 2 (m_l_few E) (mCons (mVar 2) (mCons (mBin oAdd (mC (.int 1)) (mCall 2 (m_l_pick E) (mCons (mVar 2) (mCons (mC (.int 40)) mNil)))) mNil))))
    (mSeq (mDrop (mMt oAppend (mVar 4) (mCons (mMake (E 9) 2 (m_Plain_init E) (mCons (mVar 8) mNil)) mNil)))
    (mSeq (mDrop (mMt oAppend (mVar 5) (mCons (mVar 8) mNil)))
    (mDrop (mMt oAppend (mVar 6) (mCons (mC (.int 0)) mNil)))))) mNext)
def bTurn (E : Nat → Addr) : SM := (mSeq (bNew E)
    (bDeed E))
def bCell (E : Nat → Addr) : SM := (mSeq (mSet 2 (mCall 2 (m_l_deck E) (mCons (mVar 1) (mCons (mC (.int 19)) mNil))))
    (mSeq (mSet 3 (mCall 2 (m_l_few E) (mCons (mVar 2) (mCons (mBin oAdd (mC (.int 1)) (mCall 2 (m_l_pick E) (mCons (mVar 2) (mCons (mC (.int 40)) mNil)))) mNil))))
    (mSeq (mPar3 4 5 6 (mCons (mLst (mCons (mMake (E 9) 2 (m_Plain_init E) (mCons (mVar 3) mNil)) (mCons (mMake (E 9) 2 (m_Plain_init E) (mCons (mVar 3) mNil)) mNil))) (mCons (mLst (mCons (mVar 3) (mCons (mVar 3) mNil))) (mCons (mLst (mCons (mC (.int 0)) (mCons (mC (.int 0)) mNil))) mNil))))
    (mFor (mItR1 (mCons (mC (.int 40)) mNil)) (.one 7) (bTurn E)))))
def bLaw (E : Nat → Addr) : SM :=
    (mSeq (mFor (mItQ (mSl (mBin oAdd (mLst (mCons (mC (.int 0)) mNil)) (mVar 0)) none (some (mC (.int 6))))) (.one 1) (bCell E))
    (mRet (mC (.bl true))))
theorem law_is (E : Nat → Addr) : b_law E = bLaw E := rfl
theorem eq_pair (S : Sto) (r s : Rows) (g h : Int) : oEq (.tup [std r, .int g]) (.tup [std s, .int h]) S = some (.bl (decide (r = s) && decide (g = h)), S) := by
  unfold oEq
  rw [dat_pair, dat_pair]
  dsimp only
  rw [PyData.eqv, PyData.eqvAll, PyData.eqvAll, PyData.eqvAll, eqv_dS, eqv_int]
  simp
abbrev Pl := Nat × Rows × Int
/-- plains, their stands and counts beside them -/
structure Big (E : Nat → Addr) (S : Sto) (a4 a5 a6 : Nat) (L : List Pl) : Prop where
  p4 : S[a4]? = some (.lst (L.map fun x => W.ref x.1))
  p5 : S[a5]? = some (.lst (L.map fun x => std x.2.1))
  p6 : S[a6]? = some (.lst (L.map fun x => W.int x.2.2))
  ob : ∀ x ∈ L, S[x.1]? = some (.ins (E 9) (fsR x.2.1 x.2.2)) ∧ Ok x.2.1
  nd : (L.map (·.1)).Nodup
  l2 : 2 ≤ L.length
  l3 : L.length ≤ 3
variable (E : Nat → Addr) {S S' : Sto} {a4 a5 a6 : Nat} {L : List Pl}
theorem Big.keepd {d : List Nat} (b : Big E S a4 a5 a6 L) (k : Kp d S S') (h4 : a4 ∉ d) (h5 : a5 ∉ d) (h6 : a6 ∉ d) (h : ∀ x ∈ L, x.1 ∉ d) : Big E S' a4 a5 a6 L :=
  ⟨k.at' _ _ h4 b.p4, k.at' _ _ h5 b.p5, k.at' _ _ h6 b.p6, fun x hx => ⟨k.at' _ _ (h x hx) (b.ob x hx).1, (b.ob x hx).2⟩, b.nd, b.l2, b.l3⟩
theorem Big.keep (b : Big E S a4 a5 a6 L) (k : Kp [] S S') : Big E S' a4 a5 a6 L := b.keepd E k (by simp) (by simp) (by simp) (by simp)
theorem Big.ix4 (b : Big E S a4 a5 a6 L) {k : Nat} {x : Pl} (h : L[k]? = some x) : oIx (.ref a4) (.int k) S = some (.ref x.1, S) := ix_l (ref_q b.p4) (atI_nat (by rw [List.getElem?_map, h]; rfl))
theorem Big.ix5 (b : Big E S a4 a5 a6 L) {k : Nat} {x : Pl} (h : L[k]? = some x) : oIx (.ref a5) (.int k) S = some (std x.2.1, S) := ix_l (ref_q b.p5) (atI_nat (by rw [List.getElem?_map, h]; rfl))
theorem Big.ix6 (b : Big E S a4 a5 a6 L) {k : Nat} {x : Pl} (h : L[k]? = some x) : oIx (.ref a6) (.int k) S = some (.int x.2.2, S) := ix_l (ref_q b.p6) (atI_nat (by rw [List.getElem?_map, h]; rfl))
theorem pair_body (b : Big E S a4 a5 a6 L) {j m : Nat} {x y : Pl} (hx : L[j]? = some x) (hy : L[m]? = some y) (f0 f1 f2 f3 f7 f8 f9 f10 f11 f13 f15 : Option W) :
    ∃ g15 S', bPair E [f0, f1, f2, f3, some (.ref a4), some (.ref a5), some (.ref a6), f7, f8, f9, f10, f11, some (.int j), f13, some (.int m), f15] S = .nx [f0, f1, f2, f3, some (.ref a4), some (.ref a5), some (.ref a6), f7, f8, f9, f10, f11, some (.int j), f13, some (.int m), g15] S' ∧ Kp [] S S' := by
  have t2 : ∀ a b : W, ∀ S, tupO [a, b] S = some (.tup [a, b], S) := fun a b S => tupO_ok (by decide : 2 ≤ bigL)
  have e1 := eqP_ref E (b.ob x (List.mem_of_getElem? hx)).1 (b.ob y (List.mem_of_getElem? hy)).1
  obtain ⟨S1, c1, c2⟩ := same_spec E 8 S _ _ (.bl (decide (x.2.1 = y.2.1) && decide (x.2.2 = y.2.2)))
  refine ⟨some (.bl (decide (x.2.1 = y.2.1) && decide (x.2.2 = y.2.2))), S1, ?_, c2⟩
  unfold bPair
  simp only [mFn, mCall, chk, mSeq, mRet, mRetN, mNext, mSet, mDrop, mIfS, mIf, mPar, mTg, mAug, mCB, mCons, mNil, mBin, mChain, mTest, bOf, mAndT, mOrT, mNotT, mAnd, mOr, mNot, mNeg, mVar, mC, mTup, mLst, mYes, mItQ, mItR1, mItR2, mItE, mItZ, mRaise, mIsi, mMt, mDNew, mStore, mGet2, mSl, mPart, bindS_ok, bindS_ex, bindS_bad, Out.bind_ok, Out.bind_ex, Out.bind_bad, ofO_some, ofO_none, List.map_cons, List.map_nil, List.replicate, List.cons_append, List.nil_append, List.append_nil, List.getElem?_cons_zero, List.getElem?_cons_succ, List.set_cons_zero, List.set_cons_succ, List.length_cons, List.length_nil, List.length_append, List.length_map, wipeF, setAll, tgM, if_true, if_false, Bool.not_true, Bool.not_false, Nat.zero_add, reduceCtorEq, Bool.false_eq_true, b.ix5 E hx, b.ix6 E hx, b.ix5 E hy, b.ix6 E hy, t2, eq_pair, b.ix4 E hx, b.ix4 E hy, e1, c1]
theorem look_body (b : Big E S a4 a5 a6 L) {j : Nat} {x : Pl} (hx : L[j]? = some x) (f0 f1 f2 f3 f7 f8 f9 f10 f11 f13 f14 f15 : Option W) :
    ∃ g13 g14 g15 S', bLook E [f0, f1, f2, f3, some (.ref a4), some (.ref a5), some (.ref a6), f7, f8, f9, f10, f11, some (.int j), f13, f14, f15] S = .nx [f0, f1, f2, f3, some (.ref a4), some (.ref a5), some (.ref a6), f7, f8, f9, f10, f11, some (.int j), g13, g14, g15] S' ∧ Kp [] S S' := by
  obtain ⟨hp, ok⟩ := b.ob x (List.mem_of_getElem? hx)
  obtain ⟨p, r, g⟩ := x
  dsimp only at hp ok
  have l40 := ok.l40
  obtain ⟨S0, d1, d2⟩ := pl_rest E hp ok
  generalize hA : [std r, .int g, .int (r.length : Nat), std (restL r)] = A
  have hAl : A.length = 4 := by rw [← hA]; rfl
  have la : ∀ S, lstO [std r, .int g, .int (r.length : Nat), std (restL r)] S = some (.ref S.length, S ++ [.lst A]) := fun S => by rw [hA]; exact lstO_ok (by rw [hAl]; decide)
  have kA : Kp [] S0 (S0 ++ [.lst A]) := Kp.push _ _ _
  have atA := at_new S0 (.lst A)
  have bA := (b.keep E d2).keep E kA
  have laS := la S0
  generalize hSA : S0 ++ [Ob.lst A] = SA at *
  obtain ⟨SB, n5, e1, e2, e3, e4⟩ := l_way_ok E (S := SA) ok.toOw
  have last : L2.atI ((wayL r).map std) (-1) = some (std (restL r)) := atI_last (by rw [List.getLast?_map, wayL_last ok.toOw]; rfl)
  have kB : Kp [] SB (SB ++ [.lst A]) := Kp.push _ _ _
  have atB := at_new SB (.lst A)
  have atA2 := kB.at' _ _ (by simp) (e4.at' _ _ (by simp) atA)
  have lbS := la SB
  generalize hSC : SB ++ [Ob.lst A] = SC at *
  obtain ⟨SD, c1, c2⟩ := same_spec E 8 SC (.ref S0.length) (.ref SB.length) (.lst atA2 atB (by rw [hAl]; decide) rfl fun i x y h1 h2 => by
    rw [h1] at h2
    cases h2
    rw [← hA] at h1
    cases i with
    | zero => cases h1; exact (Eqd.std SC (Ok.ltT ok.toOw)).more (by decide)
    | succ i =>
      cases i with
      | zero => cases h1; exact .int _
      | succ i =>
        cases i with
        | zero => cases h1; exact .int _
        | succ i =>
          cases i with
          | zero => cases h1; exact (Eqd.std SC (Ok.ltT (ok.iter _).toOw)).more (by decide)
          | succ i => simp at h1)
  have kD : Kp [] S SD := (((d2.trans kA).trans e4).trans kB).trans c2
  have bD := b.keep E kD
  unfold bLook
  simp only [mFn, mCall, chk, mSeq, mRet, mRetN, mNext, mSet, mDrop, mIfS, mIf, mPar, mTg, mAug, mCB, mCons, mNil, mBin, mChain, mTest, bOf, mAndT, mOrT, mNotT, mAnd, mOr, mNot, mNeg, mVar, mC, mTup, mLst, mYes, mItQ, mItR1, mItR2, mItE, mItZ, mRaise, mIsi, mMt, mDNew, mStore, mGet2, mSl, mPart, bindS_ok, bindS_ex, bindS_bad, Out.bind_ok, Out.bind_ex, Out.bind_bad, ofO_some, ofO_none, List.map_cons, List.map_nil, List.replicate, List.cons_append, List.nil_append, List.append_nil, List.getElem?_cons_zero, List.getElem?_cons_succ, List.set_cons_zero, List.set_cons_succ, List.length_cons, List.length_nil, List.length_append, List.length_map, wipeF, setAll, tgM, if_true, if_false, Bool.not_true, Bool.not_false, Nat.zero_add, reduceCtorEq, Bool.false_eq_true, b.ix4 E hx, mMeth, insOf_at hp, show List.lookup ("stand" : Str) (fsR r g) = none from rfl, show List.lookup ("dusks" : Str) (fsR r g) = none from rfl, show List.lookup ("rest" : Str) (fsR r g) = none from rfl, pl_stand E hp, pl_dusks E hp, lenP_ref E hp l40, d1, laS, bA.ix5 E hx, bA.ix6 E hx, len_q (std_q SA r), e1, ix_l (ref_q e3) last, lbS, c1]
  have l3 := b.l3
  refine for_ind (P := fun o => ∃ g13 g14 g15 S', o = .nx [f0, f1, f2, f3, some (.ref a4), some (.ref a5), some (.ref a6), f7, f8, f9, f10, f11, some (.int j), g13, g14, g15] S' ∧ Kp [] S S') (S1 := SD) (l := rangeW 0 L.length) (d := []) (m := fun i _ => some (if (i : Int) < L.length then some (.int (i : Int)) else none))
    (fun i φ Sx => (∃ g14 g15, φ = [f0, f1, f2, f3, some (.ref a4), some (.ref a5), some (.ref a6), f7, f8, f9, f10, f11, some (.int j), some (.ref S0.length), g14, g15]) ∧ Kp [] SD Sx) (by
      simp only [mFn, mCall, chk, mSeq, mRet, mRetN, mNext, mSet, mDrop, mIfS, mIf, mPar, mTg, mAug, mCB, mCons, mNil, mBin, mChain, mTest, bOf, mAndT, mOrT, mNotT, mAnd, mOr, mNot, mNeg, mVar, mC, mTup, mLst, mYes, mItQ, mItR1, mItR2, mItE, mItZ, mRaise, mIsi, mMt, mDNew, mStore, mGet2, mSl, mPart, bindS_ok, bindS_ex, bindS_bad, Out.bind_ok, Out.bind_ex, Out.bind_bad, ofO_some, ofO_none, List.map_cons, List.map_nil, List.replicate, List.cons_append, List.nil_append, List.append_nil, List.getElem?_cons_zero, List.getElem?_cons_succ, List.set_cons_zero, List.set_cons_succ, List.length_cons, List.length_nil, List.length_append, List.length_map, wipeF, setAll, tgM, if_true, if_false, Bool.not_true, Bool.not_false, Nat.zero_add, reduceCtorEq, Bool.false_eq_true, len_q (ref_q bD.p4)]
      rw [if_pos (by omega)]) wk_r1 (by rw [rangeW_len]; exact Nat.lt_of_le_of_lt (show _ ≤ 3 by omega) (by decide)) ⟨⟨_, _, rfl⟩, Kp.refl _ _⟩ (fun i φ S h => h.2) (fun i y φ Sx e h => ?_) (fun φ Sx h => ?_)
  · obtain ⟨⟨g14, g15, rfl⟩, hk⟩ := h
    obtain ⟨rfl, hi⟩ := mem_range e
    refine ⟨_, rfl, ?_⟩
    have hi' : i < L.length := by omega
    obtain ⟨g15', S', u1, u2⟩ := pair_body E (bD.keep E hk) hx (List.getElem?_eq_getElem hi') f0 f1 f2 f3 f7 f8 f9 f10 f11 (some (.ref S0.length)) g15
    have e0 : (0 : Int) + (i : Int) = i := by omega
    show LoopR _ _ (bPair E [f0, f1, f2, f3, some (.ref a4), some (.ref a5), some (.ref a6), f7, f8, f9, f10, f11, some (.int j), some (.ref S0.length), some (.int (0 + (i : Int))), g15] Sx)
    rw [e0, u1]
    exact ⟨⟨_, _, rfl⟩, hk.trans u2⟩
  · obtain ⟨⟨g14, g15, rfl⟩, hk⟩ := h
    exact ⟨_, _, _, Sx, rfl, kD.trans hk⟩
theorem looks_body (b : Big E S a4 a5 a6 L) (f0 f1 f2 f3 f7 f8 f9 f10 f11 f12 f13 f14 f15 : Option W) :
    ∃ g12 g13 g14 g15 S', bLooks E [f0, f1, f2, f3, some (.ref a4), some (.ref a5), some (.ref a6), f7, f8, f9, f10, f11, f12, f13, f14, f15] S = .nx [f0, f1, f2, f3, some (.ref a4), some (.ref a5), some (.ref a6), f7, f8, f9, f10, f11, g12, g13, g14, g15] S' ∧ Kp [] S S' := by
  have l3 := b.l3
  unfold bLooks
  refine for_ind (P := fun o => ∃ g12 g13 g14 g15 S', o = .nx [f0, f1, f2, f3, some (.ref a4), some (.ref a5), some (.ref a6), f7, f8, f9, f10, f11, g12, g13, g14, g15] S' ∧ Kp [] S S') (S1 := S) (l := rangeW 0 L.length) (d := []) (m := fun i _ => some (if (i : Int) < L.length then some (.int (i : Int)) else none))
    (fun i φ Sx => (∃ g12 g13 g14 g15, φ = [f0, f1, f2, f3, some (.ref a4), some (.ref a5), some (.ref a6), f7, f8, f9, f10, f11, g12, g13, g14, g15]) ∧ Kp [] S Sx) (by
      simp only [mFn, mCall, chk, mSeq, mRet, mRetN, mNext, mSet, mDrop, mIfS, mIf, mPar, mTg, mAug, mCB, mCons, mNil, mBin, mChain, mTest, bOf, mAndT, mOrT, mNotT, mAnd, mOr, mNot, mNeg, mVar, mC, mTup, mLst, mYes, mItQ, mItR1, mItR2, mItE, mItZ, mRaise, mIsi, mMt, mDNew, mStore, mGet2, mSl, mPart, bindS_ok, bindS_ex, bindS_bad, Out.bind_ok, Out.bind_ex, Out.bind_bad, ofO_some, ofO_none, List.map_cons, List.map_nil, List.replicate, List.cons_append, List.nil_append, List.append_nil, List.getElem?_cons_zero, List.getElem?_cons_succ, List.set_cons_zero, List.set_cons_succ, List.length_cons, List.length_nil, List.length_append, List.length_map, wipeF, setAll, tgM, if_true, if_false, Bool.not_true, Bool.not_false, Nat.zero_add, reduceCtorEq, Bool.false_eq_true, len_q (ref_q b.p4)]
      rw [if_pos (by omega)]) wk_r1 (by rw [rangeW_len]; exact Nat.lt_of_le_of_lt (show _ ≤ 3 by omega) (by decide)) ⟨⟨_, _, _, _, rfl⟩, Kp.refl _ _⟩ (fun i φ S h => h.2) (fun i y φ Sx e h => ?_) (fun φ Sx h => ?_)
  · obtain ⟨⟨g12, g13, g14, g15, rfl⟩, hk⟩ := h
    obtain ⟨rfl, hi⟩ := mem_range e
    refine ⟨_, rfl, ?_⟩
    have hi' : i < L.length := by omega
    obtain ⟨h13, h14, h15, S', u1, u2⟩ := look_body E (b.keep E hk) (List.getElem?_eq_getElem hi') f0 f1 f2 f3 f7 f8 f9 f10 f11 g13 g14 g15
    have e0 : (0 : Int) + (i : Int) = i := by omega
    show LoopR _ _ (bLook E [f0, f1, f2, f3, some (.ref a4), some (.ref a5), some (.ref a6), f7, f8, f9, f10, f11, some (.int (0 + (i : Int))), g13, g14, g15] Sx)
    rw [e0, u1]
    exact ⟨⟨_, _, _, _, rfl⟩, hk.trans u2⟩
  · obtain ⟨⟨g12, g13, g14, g15, rfl⟩, hk⟩ := h
    exact ⟨_, _, _, _, Sx, rfl, hk⟩
end

section
variable (E : Nat → Addr) {S S' : Sto} {a4 a5 a6 dk t : Nat} {L : List Pl}
theorem Big.off (b : Big E S a4 a5 a6 L) {x : Pl} (h : x ∈ L) : x.1 ≠ a4 ∧ x.1 ≠ a5 ∧ x.1 ≠ a6 := by
  have e := (b.ob x h).1
  refine ⟨fun z => ?_, fun z => ?_, fun z => ?_⟩
  · rw [z, b.p4] at e; cases e
  · rw [z, b.p5] at e; cases e
  · rw [z, b.p6] at e; cases e
theorem Big.deck (b : Big E S a4 a5 a6 L) (hd : Deck S dk t) {x : Pl} (h : x ∈ L) : x.1 ≠ dk := fun z => by
  have e := (b.ob x h).1
  obtain ⟨_, _, _, e2, _⟩ := hd
  rw [z, e2] at e
  cases e
theorem nd_other {L : List Pl} (hn : (L.map (·.1)).Nodup) {k : Nat} {x y : Pl} (hx : L[k]? = some x) {i : Nat} (hy : L[i]? = some y) (hi : i ≠ k) : y.1 ≠ x.1 := fun z => by
  have e1 : (L.map (·.1))[k]? = some x.1 := by rw [List.getElem?_map, hx]; rfl
  have e2 : (L.map (·.1))[i]? = some x.1 := by rw [List.getElem?_map, hy, ← z]; rfl
  obtain ⟨l1, g1⟩ := List.getElem?_eq_some_iff.mp e1
  obtain ⟨l2, g2⟩ := List.getElem?_eq_some_iff.mp e2
  exact hi ((List.getElem_inj hn).mp (g2.trans g1.symm))
theorem Big.same (b : Big E S a4 a5 a6 L) {k : Nat} {x : Pl} (hx : L[k]? = some x) (kp : Kp [x.1] S S') (hp : S'[x.1]? = some (.ins (E 9) (fsR x.2.1 x.2.2))) : Big E S' a4 a5 a6 L := by
  have hm := List.mem_of_getElem? hx
  obtain ⟨o4, o5, o6⟩ := b.off E hm
  refine ⟨kp.at' _ _ (by simp; exact Ne.symm o4) b.p4, kp.at' _ _ (by simp; exact Ne.symm o5) b.p5, kp.at' _ _ (by simp; exact Ne.symm o6) b.p6, fun y hy => ⟨?_, (b.ob y hy).2⟩, b.nd, b.l2, b.l3⟩
  obtain ⟨i, hi, e⟩ := List.mem_iff_getElem.mp hy
  have ei : L[i]? = some y := by rw [List.getElem?_eq_getElem hi, e]
  by_cases hik : i = k
  · subst hik
    rw [hx] at ei
    cases ei
    exact hp
  · exact kp.at' _ _ (by simp; exact nd_other b.nd hx ei hik) (b.ob y hy).1
theorem Big.upd (b : Big E S a4 a5 a6 L) {k p : Nat} {r r' : Rows} {g g' : Int} (hx : L[k]? = some (p, r, g)) (kp : Kp [p] S S') (hp : S'[p]? = some (.ins (E 9) (fsR r' g'))) (ok' : Ok r') (n1 : a4 ≠ a5) (n2 : a4 ≠ a6) (n3 : a5 ≠ a6) :
    Big E ((S'.set a5 (.lst ((L.map fun x => std x.2.1).set k (std r')))).set a6 (.lst ((L.map fun x => W.int x.2.2).set k (.int g')))) a4 a5 a6 (L.set k (p, r', g')) := by
  have hm := List.mem_of_getElem? hx
  obtain ⟨o4, o5, o6⟩ := b.off E hm
  have o4 : p ≠ a4 := o4
  have o5 : p ≠ a5 := o5
  have o6 : p ≠ a6 := o6
  have q4 := kp.at' _ _ (by simp; exact Ne.symm o4) b.p4
  have q5 := kp.at' _ _ (by simp; exact Ne.symm o5) b.p5
  have q6 := kp.at' _ _ (by simp; exact Ne.symm o6) b.p6
  have e1 : (L.set k (p, r', g')).map (·.1) = L.map (·.1) := by
    rw [List.map_set]
    have : (L.map (·.1))[k]? = some p := by rw [List.getElem?_map, hx]; rfl
    obtain ⟨hl, e⟩ := List.getElem?_eq_some_iff.mp this
    show (L.map (·.1)).set k p = _
    rw [← e]
    exact List.set_getElem_self hl
  have e4 : ((L.set k (p, r', g')).map fun x => W.ref x.1) = L.map fun x => W.ref x.1 := by
    have : ((L.set k (p, r', g')).map fun x => W.ref x.1) = ((L.set k (p, r', g')).map (·.1)).map W.ref := by rw [List.map_map]; rfl
    rw [this, e1, List.map_map]
    rfl
  have e5 : ((L.set k (p, r', g')).map fun x => std x.2.1) = (L.map fun x => std x.2.1).set k (std r') := by rw [List.map_set]
  have e6 : ((L.set k (p, r', g')).map fun x => W.int x.2.2) = (L.map fun x => W.int x.2.2).set k (.int g') := by rw [List.map_set]
  refine ⟨?_, ?_, ?_, fun y hy => ?_, by rw [e1]; exact b.nd, by rw [List.length_set]; exact b.l2, by rw [List.length_set]; exact b.l3⟩
  · rw [set_off n2, set_off n1, e4]; exact q4
  · rw [set_off n3, e5]; exact set_at q5
  · rw [e6]; exact set_at (o := .lst (L.map fun x => W.int x.2.2)) (by rw [set_off (Ne.symm n3)]; exact q6)
  · obtain ⟨i, hi, e⟩ := List.mem_iff_getElem.mp hy
    rw [List.length_set] at hi
    by_cases hik : i = k
    · subst hik
      rw [List.getElem_set_self] at e
      subst e
      refine ⟨?_, ok'⟩
      show (_ : Sto)[p]? = _
      rw [set_off o6, set_off o5]
      exact hp
    · rw [List.getElem_set_ne (Ne.symm hik)] at e
      have ei : L[i]? = some y := by rw [List.getElem?_eq_getElem hi, e]
      have hym := List.mem_of_getElem? ei
      obtain ⟨_, y5, y6⟩ := b.off E hym
      refine ⟨?_, (b.ob y hym).2⟩
      rw [set_off y6, set_off y5]
      exact kp.at' _ _ (by simp; exact nd_other b.nd hx ei hik) (b.ob y hym).1
theorem deed_body (inj : Inj9 E) (b : Big E S a4 a5 a6 L) (ht : S[0]? = some (.tab (E 100) "_law_do.<locals>.<lambda>")) (hd : Deck S dk t) (htl : t + 20 < 4294967296) (n1 : a4 ≠ a5) (n2 : a4 ≠ a6) (n3 : a5 ≠ a6) (m4 : a4 ≠ dk) (m5 : a5 ≠ dk) (m6 : a6 ≠ dk)
    (f0 f1 f3 f7 f8 f9 f10 f11 f12 f13 f14 f15 : Option W) :
    ∃ L' h9 h10 h11 h12 h13 h14 h15 S', bDeed E [f0, f1, some (.ref dk), f3, some (.ref a4), some (.ref a5), some (.ref a6), f7, f8, f9, f10, f11, f12, f13, f14, f15] S = .nx [f0, f1, some (.ref dk), f3, some (.ref a4), some (.ref a5), some (.ref a6), f7, f8, h9, h10, h11, h12, h13, h14, h15] S' ∧ Big E S' a4 a5 a6 L' ∧ L'.map (·.1) = L.map (·.1) ∧ Deck S' dk (t + 20) ∧ Kp (dk :: a5 :: a6 :: L.map (·.1)) S S' := by
  have l2 := b.l2
  have l3 := b.l3
  have z0 : 0 ≠ dk := fun z => by
    subst z
    obtain ⟨a, b, c, e, _⟩ := hd
    rw [ht] at e; cases e
  have dkeep : ∀ {S S' : Sto} {d : List Nat} {t : Nat}, Kp d S S' → dk ∉ d → Deck S dk t → Deck S' dk t := fun k hn ⟨a, b, c, e, h⟩ => ⟨a, b, c, k.at' _ _ hn e, h⟩
  have le4 := len_q (ref_q b.p4)
  obtain ⟨S1, v, a1, a2, a3, d1, k1⟩ := pick_spec E hd (by omega) (size := ((L.length : Nat) : Int)) (by omega) (by omega)
  obtain ⟨k, rfl⟩ : ∃ k : Nat, v = k := ⟨v.toNat, by omega⟩
  have hk : k < L.length := by omega
  have hx := List.getElem?_eq_getElem hk
  generalize L[k] = x at hx
  obtain ⟨p, r, g⟩ := x
  have hm := List.mem_of_getElem? hx
  have ok : Ok r := (b.ob _ hm).2
  have pd : p ≠ dk := b.deck E hd hm
  have b1 := b.keepd E k1 (by simpa using m4) (by simpa using m5) (by simpa using m6) (fun x hx => by simpa using b.deck E hd hx)
  obtain ⟨S2, d, c1, c2, d2, k2⟩ := good_deed_spec E d1 (by omega) ok
  have b2 := b1.keepd E k2 (by simpa using m4) (by simpa using m5) (by simpa using m6) (fun x hx => by simpa using b.deck E hd hx)
  obtain ⟨D, dg, kD, hdo, hdue, haft⟩ := deed_all E inj ok c2
  obtain ⟨S3, e1, k3⟩ := hdue S2
  have b3 := b2.keep E k3
  have d3 := d2.keep k3
  have k03 : Kp [dk] S S3 := (k1.trans k2).trans (k3.mono (by simp))
  have ht3 := k03.at' _ _ (by simpa using z0) ht
  have hp3 : S3[p]? = some (.ins (E 9) (fsR r g)) := (b3.ob _ hm).1
  obtain ⟨S4, o1, o2, k4⟩ := hdo S3 p g ht3 hp3
  have d4 := dkeep k4 (by simpa using Ne.symm pd) d3
  have te := tell_eq kD
  have fin : ∀ (L' : List Pl) (S5 : Sto), Big E S5 a4 a5 a6 L' → L'.map (·.1) = L.map (·.1) → Deck S5 dk (t + 1 + 10) → ∃ S6 v6 S7 w7 h12 h13 h14 h15 S8 x6, m_l_pick E [.ref dk, .int ((L'.length : Nat) : Int)] S5 = .ok (.int v6) S6 ∧ oLen [.ref a5] S5 = some (.int ((L'.length : Nat) : Int), S5) ∧ oIx (.ref a5) (.int v6) S6 = some (x6, S6) ∧ m_l_beside E [x6] S6 = .ok w7 S7 ∧
      bLooks E [f0, f1, some (.ref dk), f3, some (.ref a4), some (.ref a5), some (.ref a6), f7, f8, some (.int k), some d, some (.str (tellD D)), f12, f13, f14, f15] S7 = .nx [f0, f1, some (.ref dk), f3, some (.ref a4), some (.ref a5), some (.ref a6), f7, f8, some (.int k), some d, some (.str (tellD D)), h12, h13, h14, h15] S8 ∧ Big E S8 a4 a5 a6 L' ∧ Deck S8 dk (t + 20) ∧ Kp [dk] S5 S8 := by
    intro L' S5 b5 em d5
    have len' : L'.length = L.length := by
      have := congrArg List.length em
      rwa [List.length_map, List.length_map] at this
    have l5 := len_q (ref_q b5.p5)
    rw [List.length_map] at l5
    obtain ⟨S6, v6, p1, p2, p3, d6, k6⟩ := pick_spec E d5 (by omega) (size := ((L'.length : Nat) : Int)) (by omega) (by omega)
    obtain ⟨i, rfl⟩ : ∃ i : Nat, v6 = i := ⟨v6.toNat, by omega⟩
    have hi : i < L'.length := by omega
    have hy := List.getElem?_eq_getElem hi
    have hym := List.mem_of_getElem? hy
    have b6 := b5.keepd E k6 (by simpa using m4) (by simpa using m5) (by simpa using m6) (fun x hx => by simpa using b5.deck E d5 hx)
    obtain ⟨S7, w7, q1, q2⟩ := beside_spec E (S := S6) (b6.ob _ hym).2
    have b7 := b6.keep E q2
    obtain ⟨h12, h13, h14, h15, S8, u1, u2⟩ := looks_body E b7 f0 f1 (some (.ref dk)) f3 f7 f8 (some (.int k)) (some d) (some (.str (tellD D))) f12 f13 f14 f15
    exact ⟨S6, _, S7, w7, h12, h13, h14, h15, S8, _, p1, l5, b6.ix5 E hy, q1, u1, b7.keep E u2, ((d6.keep q2).keep u2).mono (by omega), k6.trans ((q2.trans u2).mono (by simp))⟩
  rw [List.length_map] at le4
  cases D with
  | inl i =>
    have te : ∀ S, oNe (.str (tellD (.inl i))) (.str (tellD (.inl i))) S = some (.bl false, S) ∧ oEq (.str (tellD (.inl i))) (.str "") S = some (.bl false, S) := te
    have b4 := b3.same E hx k4 o2
    obtain ⟨S6, v6, S7, w7, h12, h13, h14, h15, S8, x6, p1, p2, p3, p4, p5, b8, d8, k8⟩ := fin L S4 b4 rfl d4
    refine ⟨L, some (.int k), some d, some (.str (tellD (.inl i))), h12, h13, h14, h15, S8, ?_, b8, rfl, d8, ((k03.mono (by simp)).trans (k4.mono ?_)).trans (k8.mono (by simp))⟩
    · unfold bDeed
      simp only [mFn, mCall, chk, mSeq, mRet, mRetN, mNext, mSet, mDrop, mIfS, mIf, mPar, mTg, mAug, mCB, mCons, mNil, mBin, mChain, mTest, bOf, mAndT, mOrT, mNotT, mAnd, mOr, mNot, mNeg, mVar, mC, mTup, mLst, mYes, mItQ, mItR1, mItR2, mItE, mItZ, mRaise, mIsi, mMt, mDNew, mStore, mGet2, mSl, mPart, bindS_ok, bindS_ex, bindS_bad, Out.bind_ok, Out.bind_ex, Out.bind_bad, ofO_some, ofO_none, List.map_cons, List.map_nil, List.replicate, List.cons_append, List.nil_append, List.append_nil, List.getElem?_cons_zero, List.getElem?_cons_succ, List.set_cons_zero, List.set_cons_succ, List.length_cons, List.length_nil, List.length_append, List.length_map, wipeF, setAll, tgM, if_true, if_false, Bool.not_true, Bool.not_false, Nat.zero_add, reduceCtorEq, Bool.false_eq_true, le4, a1, b1.ix5 E hx, c1, b2.ix5 E hx, e1, b3.ix4 E hx, o1, (te S4).1, (te S4).2, p2, p1, p3, p4, p5]
    · intro m hm'
      have : m = p := by simpa using hm'
      subst this
      simp
      exact .inr (.inr (.inr ⟨_, _, hm⟩))
  | inr r' =>
    have te : ∀ S, oNe (.str (tellD (.inr r'))) (.str (tellD (.inr r'))) S = some (.bl false, S) ∧ oEq (.str (tellD (.inr r'))) (.str "") S = some (.bl true, S) := te
    have o2 : S4[p]? = some (.ins (E 9) (fsR r' (g + dg))) := o2
    obtain ⟨ok', _, haf, hgo⟩ := haft r' rfl
    have pa : p ≠ a4 ∧ p ≠ a5 ∧ p ≠ a6 := b.off E hm
    have q4 := k4.at' _ _ (by simp; exact Ne.symm pa.1) b3.p4
    have q5 := k4.at' _ _ (by simp; exact Ne.symm pa.2.1) b3.p5
    have q6 := k4.at' _ _ (by simp; exact Ne.symm pa.2.2) b3.p6
    have x5 : oIx (.ref a5) (.int k) S4 = some (std r, S4) := ix_l (ref_q q5) (atI_nat (by rw [List.getElem?_map, hx]; rfl))
    obtain ⟨S5, f1', k5⟩ := haf S4
    have k45 : Kp [p] S3 S5 := k4.trans (k5.mono (by simp))
    have o5 := k5.at' _ _ (by simp) o2
    have r5 := k5.at' _ _ (by simp) q5
    have r6 := k5.at' _ _ (by simp) q6
    have st5 := set_l (y := std r') r5 (by rw [List.length_map]; exact hk)
    have B := b3.upd E hx k45 o5 ok' n1 n2 n3
    have w6 : (S5.set a5 (.lst ((L.map fun x => std x.2.1).set k (std r'))))[a6]? = some (.lst (L.map fun x => W.int x.2.2)) := by rw [set_off (Ne.symm n3)]; exact r6
    have x6 : oIx (.ref a6) (.int k) (S5.set a5 (.lst ((L.map fun x => std x.2.1).set k (std r')))) = some (.int g, S5.set a5 (.lst ((L.map fun x => std x.2.1).set k (std r')))) := ix_l (ref_q w6) (atI_nat (by rw [List.getElem?_map, hx]; rfl))
    have st6 := set_l (y := .int (g + dg)) w6 (by rw [List.length_map]; exact hk)
    have d5 : Deck S5 dk (t + 1 + 10) := d4.keep k5
    have kset : Kp [a5, a6] S5 ((S5.set a5 (.lst ((L.map fun x => std x.2.1).set k (std r')))).set a6 (.lst ((L.map fun x => W.int x.2.2).set k (.int (g + dg))))) := (Kp.set (d := [a5, a6]) (by simp)).trans (Kp.set (by simp))
    have d6 := dkeep kset (by simp; exact ⟨Ne.symm m5, Ne.symm m6⟩) d5
    have g10 := hgo 10 [f0, f1, some (.ref dk), f3, some (.ref a4), some (.ref a5), some (.ref a6), f7, f8, some (.int k), some d, some (.str (tellD (.inr r'))), f12, f13, f14, f15] (S5.set a5 (.lst ((L.map fun x => std x.2.1).set k (std r')))) rfl
    have em : (L.set k (p, r', g + dg)).map (·.1) = L.map (·.1) := by
      rw [List.map_set]
      have : (L.map (·.1))[k]? = some p := by rw [List.getElem?_map, hx]; rfl
      obtain ⟨hl, e⟩ := List.getElem?_eq_some_iff.mp this
      show (L.map (·.1)).set k p = _
      rw [← e]
      exact List.set_getElem_self hl
    generalize hT5 : S5.set a5 (.lst ((L.map fun x => std x.2.1).set k (std r'))) = T5 at *
    generalize hT6 : T5.set a6 (.lst ((L.map fun x => W.int x.2.2).set k (.int (g + dg)))) = T6 at *
    obtain ⟨S6, v6, S7, w7, h12, h13, h14, h15, S8, y6, p1, p2, p3, p4, p5, b8, d8, k8⟩ := fin _ T6 B em d6
    refine ⟨L.set k (p, r', g + dg), some (.int k), some d, some (.str (tellD (.inr r'))), h12, h13, h14, h15, S8, ?_, b8, em, d8, ((((k03.mono (by simp)).trans (k4.mono ?_)).trans (k5.mono (by simp))).trans (kset.mono ?_)).trans (k8.mono (by simp))⟩
    · unfold bDeed
      simp only [mFn, mCall, chk, mSeq, mRet, mRetN, mNext, mSet, mDrop, mIfS, mIf, mPar, mTg, mAug, mCB, mCons, mNil, mBin, mChain, mTest, bOf, mAndT, mOrT, mNotT, mAnd, mOr, mNot, mNeg, mVar, mC, mTup, mLst, mYes, mItQ, mItR1, mItR2, mItE, mItZ, mRaise, mIsi, mMt, mDNew, mStore, mGet2, mSl, mPart, bindS_ok, bindS_ex, bindS_bad, Out.bind_ok, Out.bind_ex, Out.bind_bad, ofO_some, ofO_none, List.map_cons, List.map_nil, List.replicate, List.cons_append, List.nil_append, List.append_nil, List.getElem?_cons_zero, List.getElem?_cons_succ, List.set_cons_zero, List.set_cons_succ, List.length_cons, List.length_nil, List.length_append, List.length_map, wipeF, setAll, tgM, if_true, if_false, Bool.not_true, Bool.not_false, Nat.zero_add, reduceCtorEq, Bool.false_eq_true, le4, a1, b1.ix5 E hx, c1, b2.ix5 E hx, e1, b3.ix4 E hx, o1, (te S4).1, (te S4).2, x5, f1', st5, x6, g10, add_ii, st6, p2, p1, p3, p4, p5]
    · intro m hm'
      have : m = p := by simpa using hm'
      subst this
      simp
      exact .inr (.inr (.inr ⟨_, _, hm⟩))
    · intro m hm'
      simp at hm' ⊢
      rcases hm' with e | e
      · exact .inr (.inl e)
      · exact .inr (.inr (.inl e))
end

section
variable (E : Nat → Addr)
theorem new_body {S : Sto} {a4 a5 a6 dk t : Nat} {L : List Pl} (b : Big E S a4 a5 a6 L) (hl : L.length = 2) (hd : Deck S dk t) (htl : t + 2500 < 4294967296) (n1 : a4 ≠ a5) (n2 : a4 ≠ a6) (n3 : a5 ≠ a6) (m4 : a4 ≠ dk) (m5 : a5 ≠ dk) (m6 : a6 ≠ dk)
    (f0 f1 f3 f8 f9 f10 f11 f12 f13 f14 f15 : Option W) :
    ∃ p r h8 S', bNew E [f0, f1, some (.ref dk), f3, some (.ref a4), some (.ref a5), some (.ref a6), some (.int 20), f8, f9, f10, f11, f12, f13, f14, f15] S = .nx [f0, f1, some (.ref dk), f3, some (.ref a4), some (.ref a5), some (.ref a6), some (.int 20), h8, f9, f10, f11, f12, f13, f14, f15] S' ∧ Big E S' a4 a5 a6 (L ++ [(p, r, 0)]) ∧ S.length ≤ p ∧ Deck S' dk (t + 2500) ∧ Kp [dk, a4, a5, a6] S S' := by
  have big : 2000 ≤ bigL := by decide
  have dkeep : ∀ {S S' : Sto} {d : List Nat} {t : Nat}, Kp d S S' → dk ∉ d → Deck S dk t → Deck S' dk t := fun k hn ⟨a, b, c, e, h⟩ => ⟨a, b, c, k.at' _ _ hn e, h⟩
  obtain ⟨S1, v, a1, a2, a3, d1, k1⟩ := pick_spec E hd (by omega) (size := 40) (by decide) (by decide)
  obtain ⟨S2, r, c1, ok, _, d2, k2⟩ := few_spec E d1 (f := 1 + v) (by omega) (by omega) (by omega)
  have k02 := k1.trans k2
  have b2 := b.keepd E k02 (by simpa using m4) (by simpa using m5) (by simpa using m6) (fun x hx => by simpa using b.deck E hd hx)
  obtain ⟨S3, e1, e2, e3⟩ := make_ev E (S := S2) (φ := [f0, f1, some (.ref dk), f3, some (.ref a4), some (.ref a5), some (.ref a6), some (.int 20), some (std r), f9, f10, f11, f12, f13, f14, f15]) (fr := mCons (mVar 8) mNil) (by simp only [mFn, mCall, chk, mSeq, mRet, mRetN, mNext, mSet, mDrop, mIfS, mIf, mPar, mTg, mAug, mCB, mCons, mNil, mBin, mChain, mTest, bOf, mAndT, mOrT, mNotT, mAnd, mOr, mNot, mNeg, mVar, mC, mTup, mLst, mYes, mItQ, mItR1, mItR2, mItE, mItZ, mRaise, mIsi, mMt, mDNew, mStore, mGet2, mSl, mPart, bindS_ok, bindS_ex, bindS_bad, Out.bind_ok, Out.bind_ex, Out.bind_bad, ofO_some, ofO_none, List.map_cons, List.map_nil, List.replicate, List.cons_append, List.nil_append, List.append_nil, List.getElem?_cons_zero, List.getElem?_cons_succ, List.set_cons_zero, List.set_cons_succ, List.length_cons, List.length_nil, List.length_append, List.length_map, wipeF, setAll, tgM, if_true, if_false, Bool.not_true, Bool.not_false, Nat.zero_add, reduceCtorEq, Bool.false_eq_true]) ok
  have b3 := b2.keep E e3
  have d3 := d2.keep e3
  have ap4 := app_l (w := .ref S2.length) b3.p4 (by rw [List.length_map]; omega)
  have s5 : (S3.set a4 (.lst ((L.map fun x => W.ref x.1) ++ [.ref S2.length])))[a5]? = some (.lst (L.map fun x => std x.2.1)) := by rw [set_off (Ne.symm n1)]; exact b3.p5
  have ap5 := app_l (w := std r) s5 (by rw [List.length_map]; omega)
  have s4 : (S3.set a4 (.lst ((L.map fun x => W.ref x.1) ++ [.ref S2.length])))[a4]? = some (.lst ((L.map fun x => W.ref x.1) ++ [.ref S2.length])) := set_at b3.p4
  have s6 : (S3.set a4 (.lst ((L.map fun x => W.ref x.1) ++ [.ref S2.length])))[a6]? = some (.lst (L.map fun x => W.int x.2.2)) := by rw [set_off (Ne.symm n2)]; exact b3.p6
  have kA : Kp [dk, a4, a5, a6] S3 (S3.set a4 (.lst ((L.map fun x => W.ref x.1) ++ [.ref S2.length]))) := Kp.set (by simp)
  have obA : ∀ (m : Nat) (o : Ob), m ≠ a4 → S3[m]? = some o → (S3.set a4 (.lst ((L.map fun x => W.ref x.1) ++ [.ref S2.length])))[m]? = some o := fun m o hm h => by rw [set_off hm]; exact h
  generalize hA : S3.set a4 (.lst ((L.map fun x => W.ref x.1) ++ [.ref S2.length])) = SA at *
  have t5 : (SA.set a5 (.lst ((L.map fun x => std x.2.1) ++ [std r])))[a5]? = some (.lst ((L.map fun x => std x.2.1) ++ [std r])) := set_at s5
  have t4 : (SA.set a5 (.lst ((L.map fun x => std x.2.1) ++ [std r])))[a4]? = some (.lst ((L.map fun x => W.ref x.1) ++ [.ref S2.length])) := by rw [set_off n1]; exact s4
  have t6 : (SA.set a5 (.lst ((L.map fun x => std x.2.1) ++ [std r])))[a6]? = some (.lst (L.map fun x => W.int x.2.2)) := by rw [set_off (Ne.symm n3)]; exact s6
  have kB : Kp [dk, a4, a5, a6] SA (SA.set a5 (.lst ((L.map fun x => std x.2.1) ++ [std r]))) := Kp.set (by simp)
  have obB : ∀ (m : Nat) (o : Ob), m ≠ a4 → m ≠ a5 → S3[m]? = some o → (SA.set a5 (.lst ((L.map fun x => std x.2.1) ++ [std r])))[m]? = some o := fun m o hm h5 h => by rw [set_off h5]; exact obA m o hm h
  have ap6 := app_l (w := .int 0) t6 (by rw [List.length_map]; omega)
  generalize hB : SA.set a5 (.lst ((L.map fun x => std x.2.1) ++ [std r])) = SB at *
  have u6 : (SB.set a6 (.lst ((L.map fun x => W.int x.2.2) ++ [.int 0])))[a6]? = some (.lst ((L.map fun x => W.int x.2.2) ++ [.int 0])) := set_at t6
  have u4 : (SB.set a6 (.lst ((L.map fun x => W.int x.2.2) ++ [.int 0])))[a4]? = some (.lst ((L.map fun x => W.ref x.1) ++ [.ref S2.length])) := by rw [set_off n2]; exact t4
  have u5 : (SB.set a6 (.lst ((L.map fun x => W.int x.2.2) ++ [.int 0])))[a5]? = some (.lst ((L.map fun x => std x.2.1) ++ [std r])) := by rw [set_off n3]; exact t5
  have kC : Kp [dk, a4, a5, a6] SB (SB.set a6 (.lst ((L.map fun x => W.int x.2.2) ++ [.int 0]))) := Kp.set (by simp)
  have obC : ∀ (m : Nat) (o : Ob), m ≠ a4 → m ≠ a5 → m ≠ a6 → S3[m]? = some o → (SB.set a6 (.lst ((L.map fun x => W.int x.2.2) ++ [.int 0])))[m]? = some o := fun m o hm h5 h6 h => by rw [set_off h6]; exact obB m o hm h5 h
  generalize hC : SB.set a6 (.lst ((L.map fun x => W.int x.2.2) ++ [.int 0])) = SC at *
  have lt4 : a4 < S2.length := (List.getElem?_eq_some_iff.mp b2.p4).1
  have lt5 : a5 < S2.length := (List.getElem?_eq_some_iff.mp b2.p5).1
  have lt6 : a6 < S2.length := (List.getElem?_eq_some_iff.mp b2.p6).1
  have ltx : ∀ x ∈ L, x.1 < S2.length := fun x hx => (List.getElem?_eq_some_iff.mp (b2.ob x hx).1).1
  have dC : Deck SC dk (t + 2500) := by
    obtain ⟨x, y, z, e, h⟩ := d3
    exact Deck.mono ⟨x, y, z, obC dk _ (Ne.symm m4) (Ne.symm m5) (Ne.symm m6) e, h⟩ (by omega)
  refine ⟨S2.length, r, some (std r), SC, ?_, ⟨by rw [List.map_append]; exact u4, by rw [List.map_append]; exact u5, by rw [List.map_append]; exact u6, fun x hx => ?_, ?_, by rw [List.length_append]; simp; omega, by rw [List.length_append]; simp; omega⟩, k02.le, dC, ((((k02.mono (by simp)).trans (e3.mono (by simp))).trans kA).trans kB).trans kC⟩
  · unfold bNew
    simp only [mFn, mCall, chk, mSeq, mRet, mRetN, mNext, mSet, mDrop, mIfS, mIf, mPar, mTg, mAug, mCB, mCons, mNil, mBin, mChain, mTest, bOf, mAndT, mOrT, mNotT, mAnd, mOr, mNot, mNeg, mVar, mC, mTup, mLst, mYes, mItQ, mItR1, mItR2, mItE, mItZ, mRaise, mIsi, mMt, mDNew, mStore, mGet2, mSl, mPart, bindS_ok, bindS_ex, bindS_bad, Out.bind_ok, Out.bind_ex, Out.bind_bad, ofO_some, ofO_none, List.map_cons, List.map_nil, List.replicate, List.cons_append, List.nil_append, List.append_nil, List.getElem?_cons_zero, List.getElem?_cons_succ, List.set_cons_zero, List.set_cons_succ, List.length_cons, List.length_nil, List.length_append, List.length_map, wipeF, setAll, tgM, if_true, if_false, Bool.not_true, Bool.not_false, Nat.zero_add, reduceCtorEq, Bool.false_eq_true, eq_ii, decide_eq_true rfl, a1, add_ii, c1, isLst_ref b2.p4, e1, ap4, isLst_ref s5, ap5, isLst_ref t6, ap6]
    rw [if_pos (by simp)]
  · rcases List.mem_append.mp hx with hx | hx
    · obtain ⟨x4, x5, x6⟩ := b3.off E hx
      exact ⟨obC _ _ x4 x5 x6 (b3.ob x hx).1, (b3.ob x hx).2⟩
    · rw [List.mem_singleton.mp hx]
      exact ⟨obC _ _ (by show S2.length ≠ a4; omega) (by show S2.length ≠ a5; omega) (by show S2.length ≠ a6; omega) e2, ok⟩
  · rw [List.map_append, List.nodup_append]
    refine ⟨b.nd, by simp, fun x hx y hy e => ?_⟩
    obtain ⟨z, hz, ez⟩ := List.mem_map.mp hx
    have ey : y = S2.length := by simpa using hy
    have := ltx z hz
    have ez : z.1 = x := ez
    omega
theorem law_true (inj : Inj9 E) : LawTrueT (m_law E) [(E 100, "_law_do.<locals>.<lambda>")] := by
  have e : m_law E = mFn 15 (bLaw E) := rfl
  rw [e]
  unfold bLaw
  refine law_cellsT (K := 6) (r := 15) (by decide) (fun cell φ S hφ hc htab => ?_) (fun φ S hφ _ => ?_)
  · match φ, hφ, hc with
    | [f0, f1, f2, f3, f4, f5, f6, f7, f8, f9, f10, f11, f12, f13, f14, f15], _, hc =>
    have hc1 : f1 = some (.int cell) := by simpa using hc
    subst hc1
    have ht : S[0]? = some (.tab (E 100) "_law_do.<locals>.<lambda>") := htab 0 _ rfl
    have lt0 : 0 < S.length := (List.getElem?_eq_some_iff.mp ht).1
    obtain ⟨S1, d1, d2, d3⟩ := deck_spec E (S := S) cell 19
    have d1' : m_l_deck E [.int cell, .int 19] S = .ok (.ref S.length) S1 := d1
    obtain ⟨S2, v, a1, a2, a3, dk2, k2⟩ := pick_spec E d2 (by decide) (size := 40) (by decide) (by decide)
    obtain ⟨S3, r, c1, ok, _, dk3, k3⟩ := few_spec E dk2 (f := 1 + v) (by omega) (by omega) (by decide)
    obtain ⟨S4, e1, e2, e3⟩ := make_ev E (S := S3) (φ := [f0, some (.int cell), some (.ref S.length), some (std r), f4, f5, f6, f7, f8, f9, f10, f11, f12, f13, f14, f15]) (fr := mCons (mVar 3) mNil) (by simp only [mFn, mCall, chk, mSeq, mRet, mRetN, mNext, mSet, mDrop, mIfS, mIf, mPar, mTg, mAug, mCB, mCons, mNil, mBin, mChain, mTest, bOf, mAndT, mOrT, mNotT, mAnd, mOr, mNot, mNeg, mVar, mC, mTup, mLst, mYes, mItQ, mItR1, mItR2, mItE, mItZ, mRaise, mIsi, mMt, mDNew, mStore, mGet2, mSl, mPart, bindS_ok, bindS_ex, bindS_bad, Out.bind_ok, Out.bind_ex, Out.bind_bad, ofO_some, ofO_none, List.map_cons, List.map_nil, List.replicate, List.cons_append, List.nil_append, List.append_nil, List.getElem?_cons_zero, List.getElem?_cons_succ, List.set_cons_zero, List.set_cons_succ, List.length_cons, List.length_nil, List.length_append, List.length_map, wipeF, setAll, tgM, if_true, if_false, Bool.not_true, Bool.not_false, Nat.zero_add, reduceCtorEq, Bool.false_eq_true]) ok
    obtain ⟨S5, g1, g2, g3⟩ := make_ev E (S := S4) (φ := [f0, some (.int cell), some (.ref S.length), some (std r), f4, f5, f6, f7, f8, f9, f10, f11, f12, f13, f14, f15]) (fr := mCons (mVar 3) mNil) (by simp only [mFn, mCall, chk, mSeq, mRet, mRetN, mNext, mSet, mDrop, mIfS, mIf, mPar, mTg, mAug, mCB, mCons, mNil, mBin, mChain, mTest, bOf, mAndT, mOrT, mNotT, mAnd, mOr, mNot, mNeg, mVar, mC, mTup, mLst, mYes, mItQ, mItR1, mItR2, mItE, mItZ, mRaise, mIsi, mMt, mDNew, mStore, mGet2, mSl, mPart, bindS_ok, bindS_ex, bindS_bad, Out.bind_ok, Out.bind_ex, Out.bind_bad, ofO_some, ofO_none, List.map_cons, List.map_nil, List.replicate, List.cons_append, List.nil_append, List.append_nil, List.getElem?_cons_zero, List.getElem?_cons_succ, List.set_cons_zero, List.set_cons_succ, List.length_cons, List.length_nil, List.length_append, List.length_map, wipeF, setAll, tgM, if_true, if_false, Bool.not_true, Bool.not_false, Nat.zero_add, reduceCtorEq, Bool.false_eq_true]) ok
    have l4 := lstO_ok (S := S5) (show [W.ref S3.length, .ref S4.length].length ≤ bigL from (show 2 ≤ bigL by decide))
    have kp4 : Kp [] S5 (S5 ++ [.lst [W.ref S3.length, .ref S4.length]]) := Kp.push _ _ _
    have at4 := at_new S5 (.lst [W.ref S3.length, .ref S4.length])
    have sz4 : (S5 ++ [Ob.lst [W.ref S3.length, .ref S4.length]]).length = S5.length + 1 := by rw [List.length_append]; rfl
    generalize hS6 : S5 ++ [Ob.lst [W.ref S3.length, .ref S4.length]] = S6 at *
    have l5 := lstO_ok (S := S6) (show [std r, std r].length ≤ bigL from (show 2 ≤ bigL by decide))
    have kp5 : Kp [] S6 (S6 ++ [.lst [std r, std r]]) := Kp.push _ _ _
    have at5 := at_new S6 (.lst [std r, std r])
    have sz5 : (S6 ++ [Ob.lst [std r, std r]]).length = S6.length + 1 := by rw [List.length_append]; rfl
    generalize hS7 : S6 ++ [Ob.lst [std r, std r]] = S7 at *
    have l6 := lstO_ok (S := S7) (show [W.int 0, .int 0].length ≤ bigL from (show 2 ≤ bigL by decide))
    have kp6 : Kp [] S7 (S7 ++ [.lst [W.int 0, .int 0]]) := Kp.push _ _ _
    have at6 := at_new S7 (.lst [W.int 0, .int 0])
    generalize hS8 : S7 ++ [Ob.lst [W.int 0, .int 0]] = S8 at *
    have lt3 : S.length < S3.length := dk3.lt
    have lt34 : S3.length < S4.length := (List.getElem?_eq_some_iff.mp e2).1
    have lt45 : S4.length < S5.length := (List.getElem?_eq_some_iff.mp g2).1
    have k58 : Kp [] S5 S8 := (kp4.trans kp5).trans kp6
    have dk8 := ((dk3.keep e3).keep g3).keep k58
    have k08 : Kp [] S S8 := (((d3.fresh (k2.trans k3) fun m hm => .inr (by simp at hm; omega)).trans e3).trans g3).trans k58
    have ht8 := k08.at' _ _ (by simp) ht
    have le8 : S8.length = S5.length + 3 := by rw [← hS8, List.length_append]; simp; omega
    have b8 : Big E S8 S5.length S6.length S7.length [(S3.length, r, 0), (S4.length, r, 0)] := by
      refine ⟨(kp5.trans kp6).at' _ _ (by simp) at4, kp6.at' _ _ (by simp) at5, at6, fun x hx => ?_, ?_, show 2 ≤ 2 by decide, show 2 ≤ 3 by decide⟩
      · simp only [List.mem_cons, List.not_mem_nil, or_false] at hx
        rcases hx with rfl | rfl
        · exact ⟨(g3.trans k58).at' _ _ (by simp) e2, ok⟩
        · exact ⟨k58.at' _ _ (by simp) g2, ok⟩
      · simp
        omega
    unfold bCell
    simp only [mFn, mCall, chk, mSeq, mRet, mRetN, mNext, mSet, mDrop, mIfS, mIf, mPar, mTg, mAug, mCB, mCons, mNil, mBin, mChain, mTest, bOf, mAndT, mOrT, mNotT, mAnd, mOr, mNot, mNeg, mVar, mC, mTup, mLst, mYes, mItQ, mItR1, mItR2, mItE, mItZ, mRaise, mIsi, mMt, mDNew, mStore, mGet2, mSl, mPart, bindS_ok, bindS_ex, bindS_bad, Out.bind_ok, Out.bind_ex, Out.bind_bad, ofO_some, ofO_none, List.map_cons, List.map_nil, List.replicate, List.cons_append, List.nil_append, List.append_nil, List.getElem?_cons_zero, List.getElem?_cons_succ, List.set_cons_zero, List.set_cons_succ, List.length_cons, List.length_nil, List.length_append, List.length_map, wipeF, setAll, tgM, if_true, if_false, Bool.not_true, Bool.not_false, Nat.zero_add, reduceCtorEq, Bool.false_eq_true, d1', a1, add_ii, c1, e1, g1, l4, l5, l6, mPar3]
    show Goes _ _
    refine for_ind (P := Goes (fun φ' S' => φ'.length = 15 + 1 ∧ Kp [] S S')) (S1 := S8) (l := rangeW 0 40) (d := [S.length, S5.length, S6.length, S7.length, S3.length, S4.length]) (m := fun i _ => some (if (i : Int) < 40 then some (.int (i : Int)) else none))
      (fun i φ Sx => (∃ L g7 g8 g9 g10 g11 g12 g13 g14 g15, φ = [f0, some (.int cell), some (.ref S.length), some (std r), some (.ref S5.length), some (.ref S6.length), some (.ref S7.length), g7, g8, g9, g10, g11, g12, g13, g14, g15] ∧ Big E Sx S5.length S6.length S7.length L ∧ (i ≤ 20 → L.length = 2) ∧ ∀ x ∈ L, x.1 ∈ [S.length, S5.length, S6.length, S7.length, S3.length, S4.length] ∨ S8.length ≤ x.1) ∧ Deck Sx S.length (2500 + 3000 * i) ∧ Kp [S.length, S5.length, S6.length, S7.length, S3.length, S4.length] S8 Sx)
      (by simp only [mFn, mCall, chk, mSeq, mRet, mRetN, mNext, mSet, mDrop, mIfS, mIf, mPar, mTg, mAug, mCB, mCons, mNil, mBin, mChain, mTest, bOf, mAndT, mOrT, mNotT, mAnd, mOr, mNot, mNeg, mVar, mC, mTup, mLst, mYes, mItQ, mItR1, mItR2, mItE, mItZ, mRaise, mIsi, mMt, mDNew, mStore, mGet2, mSl, mPart, bindS_ok, bindS_ex, bindS_bad, Out.bind_ok, Out.bind_ex, Out.bind_bad, ofO_some, ofO_none, List.map_cons, List.map_nil, List.replicate, List.cons_append, List.nil_append, List.append_nil, List.getElem?_cons_zero, List.getElem?_cons_succ, List.set_cons_zero, List.set_cons_succ, List.length_cons, List.length_nil, List.length_append, List.length_map, wipeF, setAll, tgM, if_true, if_false, Bool.not_true, Bool.not_false, Nat.zero_add, reduceCtorEq, Bool.false_eq_true]; rw [if_pos (by omega)]) wk_r1 (by rw [rangeW_len]; exact (by decide : 40 < bigT)) ⟨⟨_, _, _, _, _, _, _, _, _, _, rfl, b8, fun _ => rfl, fun x hx => .inl (by
        simp only [List.mem_cons, List.not_mem_nil, or_false] at hx
        rcases hx with rfl | rfl <;> simp)⟩, dk8.mono (by omega), Kp.refl _ _⟩ (fun i φ S h => h.2.2) (fun i x φ Sx e h => ?_) (fun φ Sx h => ?_)
    · obtain ⟨⟨L, g7, g8, g9, g10, g11, g12, g13, g14, g15, rfl, b, hL, hin⟩, dk, hk⟩ := h
      obtain ⟨rfl, hi⟩ := mem_range e
      refine ⟨_, rfl, ?_⟩
      have hi' : i < 40 := by omega
      have z0 : (0 : Nat) ∉ [S.length, S5.length, S6.length, S7.length, S3.length, S4.length] := by simp; omega
      have htx := hk.at' _ _ z0 ht8
      have e0 : (0 : Int) + (i : Int) = i := by omega
      show LoopR _ _ (bTurn E [f0, some (.int cell), some (.ref S.length), some (std r), some (.ref S5.length), some (.ref S6.length), some (.ref S7.length), some (.int (0 + (i : Int))), g8, g9, g10, g11, g12, g13, g14, g15] Sx)
      rw [e0]
      have go : ∀ (L2 : List Pl) (Sy : Sto) (h8 : Option W), Big E Sy S5.length S6.length S7.length L2 → (i + 1 ≤ 20 → L2.length = 2) → (∀ x ∈ L2, x.1 ∈ [S.length, S5.length, S6.length, S7.length, S3.length, S4.length] ∨ S8.length ≤ x.1) → Deck Sy S.length (2500 + 3000 * i + 2500) → Kp [S.length, S5.length, S6.length, S7.length, S3.length, S4.length] S8 Sy →
          ∃ L3 h9 h10 h11 h12 h13 h14 h15 Sz, bDeed E [f0, some (.int cell), some (.ref S.length), some (std r), some (.ref S5.length), some (.ref S6.length), some (.ref S7.length), some (.int i), h8, g9, g10, g11, g12, g13, g14, g15] Sy = .nx [f0, some (.int cell), some (.ref S.length), some (std r), some (.ref S5.length), some (.ref S6.length), some (.ref S7.length), some (.int i), h8, h9, h10, h11, h12, h13, h14, h15] Sz ∧ Big E Sz S5.length S6.length S7.length L3 ∧ (i + 1 ≤ 20 → L3.length = 2) ∧ (∀ x ∈ L3, x.1 ∈ [S.length, S5.length, S6.length, S7.length, S3.length, S4.length] ∨ S8.length ≤ x.1) ∧ Deck Sz S.length (2500 + 3000 * (i + 1)) ∧ Kp [S.length, S5.length, S6.length, S7.length, S3.length, S4.length] S8 Sz := by
        intro L2 Sy h8 b2 hl2 hin2 dky hky
        obtain ⟨L3, h9, h10, h11, h12, h13, h14, h15, Sz, u1, u2, u3, u4, u5⟩ := deed_body E inj b2 (hky.at' _ _ z0 ht8) dky (by omega) (by omega) (by omega) (by omega) (by omega) (by omega) (by omega) f0 (some (.int cell)) (some (std r)) (some (.int i)) h8 g9 g10 g11 g12 g13 g14 g15
        have mem3 : ∀ x ∈ L3, ∃ y ∈ L2, y.1 = x.1 := fun x hx => by
          have : x.1 ∈ L3.map (·.1) := List.mem_map.mpr ⟨x, hx, rfl⟩
          rw [u3] at this
          obtain ⟨y, hy, e⟩ := List.mem_map.mp this
          exact ⟨y, hy, e⟩
        refine ⟨L3, h9, h10, h11, h12, h13, h14, h15, Sz, u1, u2, fun z => ?_, fun x hx => ?_, u4.mono (by omega), hky.fresh u5 fun m hm => ?_⟩
        · have := congrArg List.length u3
          rw [List.length_map, List.length_map] at this
          rw [this]
          exact hl2 z
        · obtain ⟨y, hy, e⟩ := mem3 x hx
          rw [← e]
          exact hin2 y hy
        · rcases List.mem_cons.mp hm with e | hm
          · exact .inl (by rw [e]; simp)
          · rcases List.mem_cons.mp hm with e | hm
            · exact .inl (by rw [e]; simp)
            · rcases List.mem_cons.mp hm with e | hm
              · exact .inl (by rw [e]; simp)
              · obtain ⟨y, hy, e⟩ := List.mem_map.mp hm
                have e : y.1 = m := e
                rw [← e]
                exact hin2 y hy
      by_cases h20 : i = 20
      · subst h20
        obtain ⟨p, r2, h8, Sy, w1, w2, w3, w4, w5⟩ := new_body E b (hL (Nat.le_refl _)) dk (by omega) (by omega) (by omega) (by omega) (by omega) (by omega) (by omega) f0 (some (.int cell)) (some (std r)) g8 g9 g10 g11 g12 g13 g14 g15
        obtain ⟨L3, h9, h10, h11, h12, h13, h14, h15, Sz, u1, u2, u3, u4, u5, u6⟩ := go _ Sy h8 w2 (fun z => absurd z (by decide)) (fun x hx => by
          rcases List.mem_append.mp hx with hx | hx
          · exact hin x hx
          · rw [List.mem_singleton.mp hx]
            exact .inr (Nat.le_trans hk.le w3)) w4 (hk.fresh w5 fun m hm => .inl (by
              simp only [List.mem_cons, List.not_mem_nil, or_false] at hm ⊢
              rcases hm with e | e | e | e
              · exact .inl e
              · exact .inr (.inl e)
              · exact .inr (.inr (.inl e))
              · exact .inr (.inr (.inr (.inl e)))))
        have w1' : bNew E [f0, some (.int cell), some (.ref S.length), some (std r), some (.ref S5.length), some (.ref S6.length), some (.ref S7.length), some (.int ((20 : Nat) : Int)), g8, g9, g10, g11, g12, g13, g14, g15] Sx = _ := w1
        unfold bTurn mSeq
        rw [w1']
        show LoopR _ _ (bDeed E _ _)
        have u1' : bDeed E [f0, some (.int cell), some (.ref S.length), some (std r), some (.ref S5.length), some (.ref S6.length), some (.ref S7.length), some (.int 20), h8, g9, g10, g11, g12, g13, g14, g15] Sy = _ := u1
        rw [u1']
        exact ⟨⟨L3, _, _, _, _, _, _, _, _, _, rfl, u2, u3, u4⟩, u5, u6⟩
      · obtain ⟨L3, h9, h10, h11, h12, h13, h14, h15, Sz, u1, u2, u3, u4, u5, u6⟩ := go L Sx g8 b (fun z => hL (by omega)) hin (dk.mono (by omega)) hk
        have w1 : bNew E [f0, some (.int cell), some (.ref S.length), some (std r), some (.ref S5.length), some (.ref S6.length), some (.ref S7.length), some (.int i), g8, g9, g10, g11, g12, g13, g14, g15] Sx = .nx [f0, some (.int cell), some (.ref S.length), some (std r), some (.ref S5.length), some (.ref S6.length), some (.ref S7.length), some (.int i), g8, g9, g10, g11, g12, g13, g14, g15] Sx := by
          unfold bNew
          simp only [mFn, mCall, chk, mSeq, mRet, mRetN, mNext, mSet, mDrop, mIfS, mIf, mPar, mTg, mAug, mCB, mCons, mNil, mBin, mChain, mTest, bOf, mAndT, mOrT, mNotT, mAnd, mOr, mNot, mNeg, mVar, mC, mTup, mLst, mYes, mItQ, mItR1, mItR2, mItE, mItZ, mRaise, mIsi, mMt, mDNew, mStore, mGet2, mSl, mPart, bindS_ok, bindS_ex, bindS_bad, Out.bind_ok, Out.bind_ex, Out.bind_bad, ofO_some, ofO_none, List.map_cons, List.map_nil, List.replicate, List.cons_append, List.nil_append, List.append_nil, List.getElem?_cons_zero, List.getElem?_cons_succ, List.set_cons_zero, List.set_cons_succ, List.length_cons, List.length_nil, List.length_append, List.length_map, wipeF, setAll, tgM, if_true, if_false, Bool.not_true, Bool.not_false, Nat.zero_add, reduceCtorEq, Bool.false_eq_true, eq_ii, decide_eq_false (show ¬ (i : Int) = 20 by omega)]
        unfold bTurn mSeq
        rw [w1]
        show LoopR _ _ (bDeed E _ _)
        rw [u1]
        exact ⟨⟨L3, _, _, _, _, _, _, _, _, _, rfl, u2, u3, u4⟩, u5, u6⟩
    · obtain ⟨⟨L, g7, g8, g9, g10, g11, g12, g13, g14, g15, rfl, b, hL, hin⟩, dk, hk⟩ := h
      refine ⟨rfl, k08.fresh hk fun m hm => .inr ?_⟩
      simp only [List.mem_cons, List.not_mem_nil, or_false] at hm
      rcases hm with e | e | e | e | e | e <;> omega
  · exact ⟨S, rfl⟩
end


end Lw
namespace Lw
open PySem PySem.Spec PyProof.Rows L2 Wm
/-! what the top has written -/
theorem all_mk {P : Program} {w : World} {K : PySem.W.Frag} {h : Heap} {mg : Str → Option Value} {fa f_0 f_1 f_2 f_3 f_4 f_5 f_6 f_7 f_8 f_9 f_10 f_11 f_12 f_13 f_14 f_15 f_16 f_17 f_18 f_19 f_20 f_21 f_22 f_23 f_24 f_25 f_26 f_27 f_28 f_29 f_30 f_31 f_32 f_33 f_34 f_35 f_36 f_37 f_38 f_39 f_40 f_41 C_0 C_1 C_2 C_3 C_4 C_5 C_6 C_7 C_8 C_9 : Addr} {od0 an0 od1 an1 od2 an2 od3 an3 od4 an4 od5 an5 od6 an6 od7 an7 od8 an8 od9 an9 od10 an10 od11 an11 od12 an12 od13 an13 od14 an14 od15 an15 od16 an16 od17 an17 od18 an18 od19 an19 od20 an20 od21 an21 od22 an22 od23 an23 od24 an24 od25 an25 od26 an26 od27 an27 od28 an28 od29 an29 od30 an30 od31 an31 od32 an32 od33 an33 od34 an34 od35 an35 od36 an36 od37 an37 od38 an38 od39 an39 od40 an40 od41 an41 : Option Addr} {sl0 sl1 sl2 sl3 sl4 sl5 sl6 sl7 sl8 sl9 sl10 sl11 sl12 sl13 sl14 sl15 sl16 sl17 sl18 sl19 sl20 sl21 sl22 sl23 sl24 sl25 sl26 sl27 sl28 sl29 sl30 sl31 sl32 sl33 sl34 sl35 sl36 sl37 sl38 sl39 sl40 sl41 : Array (Option Value)} {oc0 kV0 dc0 pm0 cd0 ct0 oc1 kV1 dc1 pm1 cd1 ct1 oc2 kV2 dc2 pm2 cd2 ct2 oc3 kV3 dc3 pm3 cd3 ct3 oc4 kV4 dc4 pm4 cd4 ct4 oc5 kV5 dc5 pm5 cd5 ct5 oc6 kV6 dc6 pm6 cd6 ct6 oc7 kV7 dc7 pm7 cd7 ct7 oc8 kV8 dc8 pm8 cd8 ct8 oc9 kV9 dc9 pm9 cd9 ct9 oc10 kV10 dc10 pm10 cd10 ct10 oc11 kV11 dc11 pm11 cd11 ct11 oc12 kV12 dc12 pm12 cd12 ct12 oc13 kV13 dc13 pm13 cd13 ct13 oc14 kV14 dc14 pm14 cd14 ct14 oc15 kV15 dc15 pm15 cd15 ct15 oc16 kV16 dc16 pm16 cd16 ct16 oc17 kV17 dc17 pm17 cd17 ct17 oc18 kV18 dc18 pm18 cd18 ct18 oc19 kV19 dc19 pm19 cd19 ct19 oc20 kV20 dc20 pm20 cd20 ct20 oc21 kV21 dc21 pm21 cd21 ct21 oc22 kV22 dc22 pm22 cd22 ct22 oc23 kV23 dc23 pm23 cd23 ct23 oc24 kV24 dc24 pm24 cd24 ct24 oc25 kV25 dc25 pm25 cd25 ct25 oc26 kV26 dc26 pm26 cd26 ct26 oc27 kV27 dc27 pm27 cd27 ct27 oc28 kV28 dc28 pm28 cd28 ct28 oc29 kV29 dc29 pm29 cd29 ct29 oc30 kV30 dc30 pm30 ct30 oc31 kV31 dc31 pm31 cd31 ct31 oc32 kV32 dc32 pm32 cd32 ct32 oc33 kV33 dc33 pm33 cd33 ct33 oc34 kV34 dc34 pm34 cd34 ct34 oc35 kV35 dc35 pm35 cd35 ct35 oc36 kV36 dc36 pm36 cd36 ct36 oc37 kV37 dc37 pm37 cd37 ct37 oc38 kV38 dc38 pm38 cd38 ct38 oc39 kV39 dc39 pm39 cd39 ct39 oc40 kV40 dc40 pm40 cd40 ct40 oc41 kV41 dc41 pm41 cd41 ct41 : Value} {t_FAR t_MOST_FOLK t_MOST_SIZES : Tok} {cc30 P30 : Addr} {co30 : Value} {cod30 : Option Addr} {vs30 : Array Value} {csl30 : Array (Option Value)} (X : K.In h) (G : h.Ns mainGlobals mg) (hfa : mg "law" = some (.ref fa))
    (xaP : PySem.W.nsIn K mainGlobals "Plain" = some (some (.ref C_9)))
    (a0 : PySem.W.nsIn K mainGlobals "is_whole" = some (some (.ref f_0)))
    (l0 : K.lookup f_0 = some ⟨oc0, od0, .func (PySem.W.fnOf "is_whole" "is_whole" (defArgs s_is_whole) (defBody s_is_whole) (defScope s_is_whole) .none kV0 dc0 pm0 an0 cd0 ct0), sl0⟩)
    (c0 : PySem.W.codeIn K cd0 "is_whole" = true)
    (k0 : PySem.W.keepIn K (.ref f_0) = true)
    (a1 : PySem.W.nsIn K mainGlobals "is_from" = some (some (.ref f_1)))
    (l1 : K.lookup f_1 = some ⟨oc1, od1, .func (PySem.W.fnOf "is_from" "is_from" (defArgs s_is_from) (defBody s_is_from) (defScope s_is_from) .none kV1 dc1 pm1 an1 cd1 ct1), sl1⟩)
    (c1 : PySem.W.codeIn K cd1 "is_from" = true)
    (k1 : PySem.W.keepIn K (.ref f_1) = true)
    (a2 : PySem.W.nsIn K mainGlobals "are_herds" = some (some (.ref f_2)))
    (l2 : K.lookup f_2 = some ⟨oc2, od2, .func (PySem.W.fnOf "are_herds" "are_herds" (defArgs s_are_herds) (defBody s_are_herds) (defScope s_are_herds) .none kV2 dc2 pm2 an2 cd2 ct2), sl2⟩)
    (c2 : PySem.W.codeIn K cd2 "are_herds" = true)
    (k2 : PySem.W.keepIn K (.ref f_2) = true)
    (a3 : PySem.W.nsIn K mainGlobals "all_folk" = some (some (.ref f_3)))
    (l3 : K.lookup f_3 = some ⟨oc3, od3, .func (PySem.W.fnOf "all_folk" "all_folk" (defArgs s_all_folk) (defBody s_all_folk) (defScope s_all_folk) .none kV3 dc3 pm3 an3 cd3 ct3), sl3⟩)
    (c3 : PySem.W.codeIn K cd3 "all_folk" = true)
    (k3 : PySem.W.keepIn K (.ref f_3) = true)
    (a4 : PySem.W.nsIn K mainGlobals "is_stand" = some (some (.ref f_4)))
    (l4 : K.lookup f_4 = some ⟨oc4, od4, .func (PySem.W.fnOf "is_stand" "is_stand" (defArgs s_is_stand) (defBody s_is_stand) (defScope s_is_stand) .none kV4 dc4 pm4 an4 cd4 ct4), sl4⟩)
    (c4 : PySem.W.codeIn K cd4 "is_stand" = true)
    (k4 : PySem.W.keepIn K (.ref f_4) = true)
    (a5 : PySem.W.nsIn K mainGlobals "need_stand" = some (some (.ref f_5)))
    (l5 : K.lookup f_5 = some ⟨oc5, od5, .func (PySem.W.fnOf "need_stand" "need_stand" (defArgs s_need_stand) (defBody s_need_stand) (defScope s_need_stand) .none kV5 dc5 pm5 an5 cd5 ct5), sl5⟩)
    (c5 : PySem.W.codeIn K cd5 "need_stand" = true)
    (k5 : PySem.W.keepIn K (.ref f_5) = true)
    (a6 : PySem.W.findIn K (.ref C_9) "__init__" = some (some (.ref f_6)))
    (i6 : PySem.W.isFn K (.ref f_6) = true)
    (l6 : K.lookup f_6 = some ⟨oc6, od6, .func (PySem.W.fnOf "__init__" "Plain.__init__" (defArgs s_Plain_init) (defBody s_Plain_init) (defScope s_Plain_init) .none kV6 dc6 pm6 an6 cd6 ct6), sl6⟩)
    (c6 : PySem.W.codeIn K cd6 "Plain.__init__" = true)
    (k6 : PySem.W.keepIn K (.ref f_6) = true)
    (a7 : PySem.W.findIn K (.ref C_9) "__len__" = some (some (.ref f_7)))
    (i7 : PySem.W.isFn K (.ref f_7) = true)
    (l7 : K.lookup f_7 = some ⟨oc7, od7, .func (PySem.W.fnOf "__len__" "Plain.__len__" (defArgs s_Plain_len) (defBody s_Plain_len) (defScope s_Plain_len) .none kV7 dc7 pm7 an7 cd7 ct7), sl7⟩)
    (c7 : PySem.W.codeIn K cd7 "Plain.__len__" = true)
    (k7 : PySem.W.keepIn K (.ref f_7) = true)
    (a8 : PySem.W.findIn K (.ref C_9) "__eq__" = some (some (.ref f_8)))
    (i8 : PySem.W.isFn K (.ref f_8) = true)
    (l8 : K.lookup f_8 = some ⟨oc8, od8, .func (PySem.W.fnOf "__eq__" "Plain.__eq__" (defArgs s_Plain_eq) (defBody s_Plain_eq) (defScope s_Plain_eq) .none kV8 dc8 pm8 an8 cd8 ct8), sl8⟩)
    (c8 : PySem.W.codeIn K cd8 "Plain.__eq__" = true)
    (k8 : PySem.W.keepIn K (.ref f_8) = true)
    (a9 : PySem.W.findIn K (.ref C_9) "stand" = some (some (.ref f_9)))
    (i9 : PySem.W.isFn K (.ref f_9) = true)
    (l9 : K.lookup f_9 = some ⟨oc9, od9, .func (PySem.W.fnOf "stand" "Plain.stand" (defArgs s_Plain_stand) (defBody s_Plain_stand) (defScope s_Plain_stand) .none kV9 dc9 pm9 an9 cd9 ct9), sl9⟩)
    (c9 : PySem.W.codeIn K cd9 "Plain.stand" = true)
    (k9 : PySem.W.keepIn K (.ref f_9) = true)
    (a10 : PySem.W.nsIn K mainGlobals "gathered" = some (some (.ref f_10)))
    (l10 : K.lookup f_10 = some ⟨oc10, od10, .func (PySem.W.fnOf "gathered" "gathered" (defArgs s_gathered) (defBody s_gathered) (defScope s_gathered) .none kV10 dc10 pm10 an10 cd10 ct10), sl10⟩)
    (c10 : PySem.W.codeIn K cd10 "gathered" = true)
    (k10 : PySem.W.keepIn K (.ref f_10) = true)
    (a11 : PySem.W.nsIn K mainGlobals "joined" = some (some (.ref f_11)))
    (l11 : K.lookup f_11 = some ⟨oc11, od11, .func (PySem.W.fnOf "joined" "joined" (defArgs s_joined) (defBody s_joined) (defScope s_joined) .none kV11 dc11 pm11 an11 cd11 ct11), sl11⟩)
    (c11 : PySem.W.codeIn K cd11 "joined" = true)
    (k11 : PySem.W.keepIn K (.ref f_11) = true)
    (a12 : PySem.W.nsIn K mainGlobals "way_on" = some (some (.ref f_12)))
    (l12 : K.lookup f_12 = some ⟨oc12, od12, .func (PySem.W.fnOf "way_on" "way_on" (defArgs s_way_on) (defBody s_way_on) (defScope s_way_on) .none kV12 dc12 pm12 an12 cd12 ct12), sl12⟩)
    (c12 : PySem.W.codeIn K cd12 "way_on" = true)
    (k12 : PySem.W.keepIn K (.ref f_12) = true)
    (a13 : PySem.W.findIn K (.ref C_9) "rest" = some (some (.ref f_13)))
    (i13 : PySem.W.isFn K (.ref f_13) = true)
    (l13 : K.lookup f_13 = some ⟨oc13, od13, .func (PySem.W.fnOf "rest" "Plain.rest" (defArgs s_Plain_rest) (defBody s_Plain_rest) (defScope s_Plain_rest) .none kV13 dc13 pm13 an13 cd13 ct13), sl13⟩)
    (c13 : PySem.W.codeIn K cd13 "Plain.rest" = true)
    (k13 : PySem.W.keepIn K (.ref f_13) = true)
    (a14 : PySem.W.findIn K (.ref C_9) "dusks" = some (some (.ref f_14)))
    (i14 : PySem.W.isFn K (.ref f_14) = true)
    (l14 : K.lookup f_14 = some ⟨oc14, od14, .func (PySem.W.fnOf "dusks" "Plain.dusks" (defArgs s_Plain_dusks) (defBody s_Plain_dusks) (defScope s_Plain_dusks) .none kV14 dc14 pm14 an14 cd14 ct14), sl14⟩)
    (c14 : PySem.W.codeIn K cd14 "Plain.dusks" = true)
    (k14 : PySem.W.keepIn K (.ref f_14) = true)
    (a15 : PySem.W.nsIn K mainGlobals "_law_deck" = some (some (.ref f_15)))
    (l15 : K.lookup f_15 = some ⟨oc15, od15, .func (PySem.W.fnOf "_law_deck" "_law_deck" (defArgs s_l_deck) (defBody s_l_deck) (defScope s_l_deck) .none kV15 dc15 pm15 an15 cd15 ct15), sl15⟩)
    (c15 : PySem.W.codeIn K cd15 "_law_deck" = true)
    (k15 : PySem.W.keepIn K (.ref f_15) = true)
    (a16 : PySem.W.nsIn K mainGlobals "_law_pick" = some (some (.ref f_16)))
    (l16 : K.lookup f_16 = some ⟨oc16, od16, .func (PySem.W.fnOf "_law_pick" "_law_pick" (defArgs s_l_pick) (defBody s_l_pick) (defScope s_l_pick) .none kV16 dc16 pm16 an16 cd16 ct16), sl16⟩)
    (c16 : PySem.W.codeIn K cd16 "_law_pick" = true)
    (k16 : PySem.W.keepIn K (.ref f_16) = true)
    (a17 : PySem.W.nsIn K mainGlobals "_law_sort" = some (some (.ref f_17)))
    (l17 : K.lookup f_17 = some ⟨oc17, od17, .func (PySem.W.fnOf "_law_sort" "_law_sort" (defArgs s_l_sort) (defBody s_l_sort) (defScope s_l_sort) .none kV17 dc17 pm17 an17 cd17 ct17), sl17⟩)
    (c17 : PySem.W.codeIn K cd17 "_law_sort" = true)
    (k17 : PySem.W.keepIn K (.ref f_17) = true)
    (a18 : PySem.W.nsIn K mainGlobals "_law_same" = some (some (.ref f_18)))
    (l18 : K.lookup f_18 = some ⟨oc18, od18, .func (PySem.W.fnOf "_law_same" "_law_same" (defArgs s_l_same) (defBody s_l_same) (defScope s_l_same) .none kV18 dc18 pm18 an18 cd18 ct18), sl18⟩)
    (c18 : PySem.W.codeIn K cd18 "_law_same" = true)
    (k18 : PySem.W.keepIn K (.ref f_18) = true)
    (a19 : PySem.W.nsIn K mainGlobals "_law_one" = some (some (.ref f_19)))
    (l19 : K.lookup f_19 = some ⟨oc19, od19, .func (PySem.W.fnOf "_law_one" "_law_one" (defArgs s_l_one) (defBody s_l_one) (defScope s_l_one) .none kV19 dc19 pm19 an19 cd19 ct19), sl19⟩)
    (c19 : PySem.W.codeIn K cd19 "_law_one" = true)
    (k19 : PySem.W.keepIn K (.ref f_19) = true)
    (a20 : PySem.W.nsIn K mainGlobals "_law_gathered" = some (some (.ref f_20)))
    (l20 : K.lookup f_20 = some ⟨oc20, od20, .func (PySem.W.fnOf "_law_gathered" "_law_gathered" (defArgs s_l_gathered) (defBody s_l_gathered) (defScope s_l_gathered) .none kV20 dc20 pm20 an20 cd20 ct20), sl20⟩)
    (c20 : PySem.W.codeIn K cd20 "_law_gathered" = true)
    (k20 : PySem.W.keepIn K (.ref f_20) = true)
    (a21 : PySem.W.nsIn K mainGlobals "_law_few" = some (some (.ref f_21)))
    (l21 : K.lookup f_21 = some ⟨oc21, od21, .func (PySem.W.fnOf "_law_few" "_law_few" (defArgs s_l_few) (defBody s_l_few) (defScope s_l_few) .none kV21 dc21 pm21 an21 cd21 ct21), sl21⟩)
    (c21 : PySem.W.codeIn K cd21 "_law_few" = true)
    (k21 : PySem.W.keepIn K (.ref f_21) = true)
    (a22 : PySem.W.nsIn K mainGlobals "_law_joined" = some (some (.ref f_22)))
    (l22 : K.lookup f_22 = some ⟨oc22, od22, .func (PySem.W.fnOf "_law_joined" "_law_joined" (defArgs s_l_joined) (defBody s_l_joined) (defScope s_l_joined) .none kV22 dc22 pm22 an22 cd22 ct22), sl22⟩)
    (c22 : PySem.W.codeIn K cd22 "_law_joined" = true)
    (k22 : PySem.W.keepIn K (.ref f_22) = true)
    (a23 : PySem.W.nsIn K mainGlobals "_law_way" = some (some (.ref f_23)))
    (l23 : K.lookup f_23 = some ⟨oc23, od23, .func (PySem.W.fnOf "_law_way" "_law_way" (defArgs s_l_way) (defBody s_l_way) (defScope s_l_way) .none kV23 dc23 pm23 an23 cd23 ct23), sl23⟩)
    (c23 : PySem.W.codeIn K cd23 "_law_way" = true)
    (k23 : PySem.W.keepIn K (.ref f_23) = true)
    (a24 : PySem.W.nsIn K mainGlobals "_law_whole" = some (some (.ref f_24)))
    (l24 : K.lookup f_24 = some ⟨oc24, od24, .func (PySem.W.fnOf "_law_whole" "_law_whole" (defArgs s_l_whole) (defBody s_l_whole) (defScope s_l_whole) .none kV24 dc24 pm24 an24 cd24 ct24), sl24⟩)
    (c24 : PySem.W.codeIn K cd24 "_law_whole" = true)
    (k24 : PySem.W.keepIn K (.ref f_24) = true)
    (a25 : PySem.W.nsIn K mainGlobals "_law_after" = some (some (.ref f_25)))
    (l25 : K.lookup f_25 = some ⟨oc25, od25, .func (PySem.W.fnOf "_law_after" "_law_after" (defArgs s_l_after) (defBody s_l_after) (defScope s_l_after) .none kV25 dc25 pm25 an25 cd25 ct25), sl25⟩)
    (c25 : PySem.W.codeIn K cd25 "_law_after" = true)
    (k25 : PySem.W.keepIn K (.ref f_25) = true)
    (a26 : PySem.W.nsIn K mainGlobals "_law_due" = some (some (.ref f_26)))
    (l26 : K.lookup f_26 = some ⟨oc26, od26, .func (PySem.W.fnOf "_law_due" "_law_due" (defArgs s_l_due) (defBody s_l_due) (defScope s_l_due) .none kV26 dc26 pm26 an26 cd26 ct26), sl26⟩)
    (c26 : PySem.W.codeIn K cd26 "_law_due" = true)
    (k26 : PySem.W.keepIn K (.ref f_26) = true)
    (a27 : PySem.W.findIn K (.ref C_9) "come" = some (some (.ref f_27)))
    (i27 : PySem.W.isFn K (.ref f_27) = true)
    (l27 : K.lookup f_27 = some ⟨oc27, od27, .func (PySem.W.fnOf "come" "Plain.come" (defArgs s_Plain_come) (defBody s_Plain_come) (defScope s_Plain_come) .none kV27 dc27 pm27 an27 cd27 ct27), sl27⟩)
    (c27 : PySem.W.codeIn K cd27 "Plain.come" = true)
    (k27 : PySem.W.keepIn K (.ref f_27) = true)
    (a28 : PySem.W.findIn K (.ref C_9) "part" = some (some (.ref f_28)))
    (i28 : PySem.W.isFn K (.ref f_28) = true)
    (l28 : K.lookup f_28 = some ⟨oc28, od28, .func (PySem.W.fnOf "part" "Plain.part" (defArgs s_Plain_part) (defBody s_Plain_part) (defScope s_Plain_part) .none kV28 dc28 pm28 an28 cd28 ct28), sl28⟩)
    (c28 : PySem.W.codeIn K cd28 "Plain.part" = true)
    (k28 : PySem.W.keepIn K (.ref f_28) = true)
    (a29 : PySem.W.findIn K (.ref C_9) "go" = some (some (.ref f_29)))
    (i29 : PySem.W.isFn K (.ref f_29) = true)
    (l29 : K.lookup f_29 = some ⟨oc29, od29, .func (PySem.W.fnOf "go" "Plain.go" (defArgs s_Plain_go) (defBody s_Plain_go) (defScope s_Plain_go) .none kV29 dc29 pm29 an29 cd29 ct29), sl29⟩)
    (c29 : PySem.W.codeIn K cd29 "Plain.go" = true)
    (k29 : PySem.W.keepIn K (.ref f_29) = true)
    (a30 : PySem.W.nsIn K mainGlobals "_law_do" = some (some (.ref f_30)))
    (l30 : K.lookup f_30 = some ⟨oc30, od30, .func (PySem.W.fnOf "_law_do" "_law_do" (defArgs s_l_do) (defBody s_l_do) (defScope s_l_do) .none kV30 dc30 pm30 an30 (.ref cc30) ct30), sl30⟩)
    (c30 : PySem.W.codeIn K (.ref cc30) "_law_do" = true)
    (k30 : PySem.W.keepIn K (.ref f_30) = true)
    (xo30 : K.lookup cc30 = some ⟨co30, cod30, .fields vs30, csl30⟩)
    (xv30 : vs30[11]? = some (.ref P30))
    (xd30 : PySem.W.codeHdIn K cc30 P30 = true)
    (xn30 : K.lookup P30 = none)
    (xm30 : h.get? P30 = some { cls := .none, data := .fields #[] })
    (a31 : PySem.W.nsIn K mainGlobals "_law_good_deed" = some (some (.ref f_31)))
    (l31 : K.lookup f_31 = some ⟨oc31, od31, .func (PySem.W.fnOf "_law_good_deed" "_law_good_deed" (defArgs s_l_good_deed) (defBody s_l_good_deed) (defScope s_l_good_deed) .none kV31 dc31 pm31 an31 cd31 ct31), sl31⟩)
    (c31 : PySem.W.codeIn K cd31 "_law_good_deed" = true)
    (k31 : PySem.W.keepIn K (.ref f_31) = true)
    (a32 : PySem.W.nsIn K mainGlobals "dusk" = some (some (.ref f_32)))
    (l32 : K.lookup f_32 = some ⟨oc32, od32, .func (PySem.W.fnOf "dusk" "dusk" (defArgs s_dusk) (defBody s_dusk) (defScope s_dusk) .none kV32 dc32 pm32 an32 cd32 ct32), sl32⟩)
    (c32 : PySem.W.codeIn K cd32 "dusk" = true)
    (k32 : PySem.W.keepIn K (.ref f_32) = true)
    (a33 : PySem.W.nsIn K mainGlobals "need_dusks" = some (some (.ref f_33)))
    (l33 : K.lookup f_33 = some ⟨oc33, od33, .func (PySem.W.fnOf "need_dusks" "need_dusks" (defArgs s_need_dusks) (defBody s_need_dusks) (defScope s_need_dusks) .none kV33 dc33 pm33 an33 cd33 ct33), sl33⟩)
    (c33 : PySem.W.codeIn K cd33 "need_dusks" = true)
    (k33 : PySem.W.keepIn K (.ref f_33) = true)
    (a34 : PySem.W.nsIn K mainGlobals "behind" = some (some (.ref f_34)))
    (l34 : K.lookup f_34 = some ⟨oc34, od34, .func (PySem.W.fnOf "behind" "behind" (defArgs s_behind) (defBody s_behind) (defScope s_behind) .none kV34 dc34 pm34 an34 cd34 ct34), sl34⟩)
    (c34 : PySem.W.codeIn K cd34 "behind" = true)
    (k34 : PySem.W.keepIn K (.ref f_34) = true)
    (a35 : PySem.W.nsIn K mainGlobals "rest" = some (some (.ref f_35)))
    (l35 : K.lookup f_35 = some ⟨oc35, od35, .func (PySem.W.fnOf "rest" "rest" (defArgs s_rest) (defBody s_rest) (defScope s_rest) .none kV35 dc35 pm35 an35 cd35 ct35), sl35⟩)
    (c35 : PySem.W.codeIn K cd35 "rest" = true)
    (k35 : PySem.W.keepIn K (.ref f_35) = true)
    (a36 : PySem.W.nsIn K mainGlobals "met_sizes" = some (some (.ref f_36)))
    (l36 : K.lookup f_36 = some ⟨oc36, od36, .func (PySem.W.fnOf "met_sizes" "met_sizes" (defArgs s_met_sizes) (defBody s_met_sizes) (defScope s_met_sizes) .none kV36 dc36 pm36 an36 cd36 ct36), sl36⟩)
    (c36 : PySem.W.codeIn K cd36 "met_sizes" = true)
    (k36 : PySem.W.keepIn K (.ref f_36) = true)
    (a37 : PySem.W.nsIn K mainGlobals "met" = some (some (.ref f_37)))
    (l37 : K.lookup f_37 = some ⟨oc37, od37, .func (PySem.W.fnOf "met" "met" (defArgs s_met) (defBody s_met) (defScope s_met) .none kV37 dc37 pm37 an37 cd37 ct37), sl37⟩)
    (c37 : PySem.W.codeIn K cd37 "met" = true)
    (k37 : PySem.W.keepIn K (.ref f_37) = true)
    (a38 : PySem.W.nsIn K mainGlobals "_law_beside" = some (some (.ref f_38)))
    (l38 : K.lookup f_38 = some ⟨oc38, od38, .func (PySem.W.fnOf "_law_beside" "_law_beside" (defArgs s_l_beside) (defBody s_l_beside) (defScope s_l_beside) .none kV38 dc38 pm38 an38 cd38 ct38), sl38⟩)
    (c38 : PySem.W.codeIn K cd38 "_law_beside" = true)
    (k38 : PySem.W.keepIn K (.ref f_38) = true)
    (a39 : PySem.W.nsIn K mainGlobals "law" = some (some (.ref f_39)))
    (l39 : K.lookup f_39 = some ⟨oc39, od39, .func (PySem.W.fnOf "law" "law" (defArgs s_law) (defBody s_law) (defScope s_law) .none kV39 dc39 pm39 an39 cd39 ct39), sl39⟩)
    (c39 : PySem.W.codeIn K cd39 "law" = true)
    (k39 : PySem.W.keepIn K (.ref f_39) = true)
    (a40 : PySem.W.nsIn K mainGlobals "_law_try" = some (some (.ref f_40)))
    (l40 : K.lookup f_40 = some ⟨oc40, od40, .func (PySem.W.fnOf "_law_try" "_law_try" (defArgs s_l_try) (defBody s_l_try) (defScope s_l_try) .none kV40 dc40 pm40 an40 cd40 ct40), sl40⟩)
    (c40 : PySem.W.codeIn K cd40 "_law_try" = true)
    (k40 : PySem.W.keepIn K (.ref f_40) = true)
    (a41 : PySem.W.nsIn K mainGlobals "_law_kin" = some (some (.ref f_41)))
    (l41 : K.lookup f_41 = some ⟨oc41, od41, .func (PySem.W.fnOf "_law_kin" "_law_kin" (defArgs s_l_kin) (defBody s_l_kin) (defScope s_l_kin) .none kV41 dc41 pm41 an41 cd41 ct41), sl41⟩)
    (c41 : PySem.W.codeIn K cd41 "_law_kin" = true)
    (k41 : PySem.W.keepIn K (.ref f_41) = true)
    (c_FAR : PySem.W.nsIn K mainGlobals "FAR" = some (some (.int g_FAR t_FAR)))
    (c_MOST_FOLK : PySem.W.nsIn K mainGlobals "MOST_FOLK" = some (some (.int g_MOST_FOLK t_MOST_FOLK)))
    (c_MOST_SIZES : PySem.W.nsIn K mainGlobals "MOST_SIZES" = some (some (.int g_MOST_SIZES t_MOST_SIZES)))
    (b_ValueError : PySem.W.nsIn K mainGlobals "ValueError" = some none)
    (b_all : PySem.W.nsIn K mainGlobals "all" = some none)
    (b_bool : PySem.W.nsIn K mainGlobals "bool" = some none)
    (b_dict : PySem.W.nsIn K mainGlobals "dict" = some none)
    (b_enumerate : PySem.W.nsIn K mainGlobals "enumerate" = some none)
    (b_int : PySem.W.nsIn K mainGlobals "int" = some none)
    (b_isinstance : PySem.W.nsIn K mainGlobals "isinstance" = some none)
    (b_len : PySem.W.nsIn K mainGlobals "len" = some none)
    (b_list : PySem.W.nsIn K mainGlobals "list" = some none)
    (b_min : PySem.W.nsIn K mainGlobals "min" = some none)
    (b_range : PySem.W.nsIn K mainGlobals "range" = some none)
    (b_sorted : PySem.W.nsIn K mainGlobals "sorted" = some none)
    (b_str : PySem.W.nsIn K mainGlobals "str" = some none)
    (b_sum : PySem.W.nsIn K mainGlobals "sum" = some none)
    (b_tuple : PySem.W.nsIn K mainGlobals "tuple" = some none)
    (b_zip : PySem.W.nsIn K mainGlobals "zip" = some none)
    (xa0 : PySem.W.nsIn K mainGlobals "JoinError" = some (some (.ref C_0)))
    (xa1 : PySem.W.nsIn K mainGlobals "NoStand" = some (some (.ref C_1)))
    (xq1 : PySem.W.excIn K C_1 [.type "ValueError", .type "Exception", .type "BaseException", .type "object"] "ValueError.__new__" = true)
    (xk1 : PySem.W.keepIn K (.ref C_1) = true)
    (xb1 : PySem.W.subIn K (.ref C_1) (.type "BaseException") = some true)
    (xt1 : PySem.W.typeIn K (.ref C_1) = some (.type "type"))
    (xa2 : PySem.W.nsIn K mainGlobals "NoCount" = some (some (.ref C_2)))
    (xq2 : PySem.W.excIn K C_2 [.type "ValueError", .type "Exception", .type "BaseException", .type "object"] "ValueError.__new__" = true)
    (xk2 : PySem.W.keepIn K (.ref C_2) = true)
    (xb2 : PySem.W.subIn K (.ref C_2) (.type "BaseException") = some true)
    (xt2 : PySem.W.typeIn K (.ref C_2) = some (.type "type"))
    (xa3 : PySem.W.nsIn K mainGlobals "NoHerds" = some (some (.ref C_3)))
    (xq3 : PySem.W.excIn K C_3 [.type "ValueError", .type "Exception", .type "BaseException", .type "object"] "ValueError.__new__" = true)
    (xk3 : PySem.W.keepIn K (.ref C_3) = true)
    (xb3 : PySem.W.subIn K (.ref C_3) (.type "BaseException") = some true)
    (xt3 : PySem.W.typeIn K (.ref C_3) = some (.type "type"))
    (xa4 : PySem.W.nsIn K mainGlobals "NoFirst" = some (some (.ref C_4)))
    (xq4 : PySem.W.excIn K C_4 [.type "ValueError", .type "Exception", .type "BaseException", .type "object"] "ValueError.__new__" = true)
    (xk4 : PySem.W.keepIn K (.ref C_4) = true)
    (xb4 : PySem.W.subIn K (.ref C_4) (.type "BaseException") = some true)
    (xt4 : PySem.W.typeIn K (.ref C_4) = some (.type "type"))
    (xa5 : PySem.W.nsIn K mainGlobals "NoWish" = some (some (.ref C_5)))
    (xa6 : PySem.W.nsIn K mainGlobals "NotSmall" = some (some (.ref C_6)))
    (xa7 : PySem.W.nsIn K mainGlobals "Full" = some (some (.ref C_7)))
    (xq7 : PySem.W.excIn K C_7 [.type "ValueError", .type "Exception", .type "BaseException", .type "object"] "ValueError.__new__" = true)
    (xk7 : PySem.W.keepIn K (.ref C_7) = true)
    (xb7 : PySem.W.subIn K (.ref C_7) (.type "BaseException") = some true)
    (xt7 : PySem.W.typeIn K (.ref C_7) = some (.type "type"))
    (xa8 : PySem.W.nsIn K mainGlobals "TooMany" = some (some (.ref C_8)))
    (pg : PySem.W.plainGet K C_9 Str.empty = true)
    (phd : PySem.W.hasDictIn K C_9 = true)
    (ppo : PySem.W.plainOver K C_9 = true)
    (psa : PySem.W.findIn K (.ref C_9) "__setattr__" = some (some (.builtin "object.__setattr__")))
    (pnh : PySem.W.findIn K (.ref C_9) "herds" = some none)
    (png : PySem.W.findIn K (.ref C_9) "gone" = some none)
    (pca : PySem.W.findIn K (.ref C_9) "__class__" = some (some (.builtin "object.__class__")))
    (pcn : PySem.W.specialIn K (.builtin "object.__class__") "__get__" = some (some (.builtin "getset_descriptor.__get__")))
    (pck : PySem.W.takesIn K (.builtin "object.__class__") = some true)
    (pcm : PySem.W.mroIn K C_9 (.type "object") = some true)
    (pnt : PySem.W.notFirst K C_9 (.type "tuple") = true)
    (pkt : PySem.W.kitOne K (.type "tuple") (.ref C_9) = some false)
    (pmk : PySem.W.makesIn K C_9 = true)
    (pkp : PySem.W.keepIn K (.ref C_9) = true)
    (xcb : xcB K (fun n => if n = 0 then C_0 else if n = 1 then C_1 else if n = 2 then C_2 else if n = 3 then C_3 else if n = 4 then C_4 else if n = 5 then C_5 else if n = 6 then C_6 else if n = 7 then C_7 else if n = 8 then C_8 else 0) = true)
    (xin : [C_0, C_1, C_2, C_3, C_4, C_5, C_6, C_7, C_8].Nodup) :
    ∃ (fd : FuncData) (cs : List (Addr × Addr)), (∀ p ∈ cs, h.get? p.2 = some { cls := .none, data := .fields #[] }) ∧ (∀ p ∈ cs, K.lookup p.2 = none) ∧ (∀ p ∈ cs, PySem.W.CodeHd h p.1 p.2) ∧ (∀ (s : Shared) (v : Value), BindsTo s fd ⟨[v], []⟩ [("script", v)]) ∧
      ∀ base : Heap, K.In base → base.Ns mainGlobals mg → (∀ p ∈ cs, LamX.TabB base mg p.1 p.2) → FnOk P w K mg base (L2N.CX P w) 11 fa fd ["script"] (spLawT K cs) := by
  have e := hfa.symm.trans (PySem.W.mg_of X G a39)
  cases e
  have g : Tx K mg (fun n => if n = 0 then C_0 else if n = 1 then C_1 else if n = 2 then C_2 else if n = 3 then C_3 else if n = 4 then C_4 else if n = 5 then C_5 else if n = 6 then C_6 else if n = 7 then C_7 else if n = 8 then C_8 else if n = 9 then C_9 else if n = 100 then P30 else 0) :=
    { c_FAR := ⟨_, PySem.W.mg_of X G c_FAR⟩, c_MOST_FOLK := ⟨_, PySem.W.mg_of X G c_MOST_FOLK⟩, c_MOST_SIZES := ⟨_, PySem.W.mg_of X G c_MOST_SIZES⟩, b_ValueError := PySem.W.mg_none_of X G b_ValueError, b_all := PySem.W.mg_none_of X G b_all, b_bool := PySem.W.mg_none_of X G b_bool, b_dict := PySem.W.mg_none_of X G b_dict, b_enumerate := PySem.W.mg_none_of X G b_enumerate, b_int := PySem.W.mg_none_of X G b_int, b_isinstance := PySem.W.mg_none_of X G b_isinstance, b_len := PySem.W.mg_none_of X G b_len, b_list := PySem.W.mg_none_of X G b_list, b_min := PySem.W.mg_none_of X G b_min, b_range := PySem.W.mg_none_of X G b_range, b_sorted := PySem.W.mg_none_of X G b_sorted, b_str := PySem.W.mg_none_of X G b_str, b_sum := PySem.W.mg_none_of X G b_sum, b_tuple := PySem.W.mg_none_of X G b_tuple, b_zip := PySem.W.mg_none_of X G b_zip, e_NoStand := ⟨PySem.W.mg_of X G xa1, xq1, xk1, xb1, xt1⟩, e_NoCount := ⟨PySem.W.mg_of X G xa2, xq2, xk2, xb2, xt2⟩, e_NoHerds := ⟨PySem.W.mg_of X G xa3, xq3, xk3, xb3, xt3⟩, e_NoFirst := ⟨PySem.W.mg_of X G xa4, xq4, xk4, xb4, xt4⟩, e_Full := ⟨PySem.W.mg_of X G xa7, xq7, xk7, xb7, xt7⟩, pl := ⟨⟨⟨pg, phd, ppo, psa⟩, pnh, png, pca, pcn, pck, pcm⟩, pnt, pkt⟩, k_Plain := PySem.W.mg_of X G xaP }
  have XE : XCn K mg (fun n => if n = 0 then C_0 else if n = 1 then C_1 else if n = 2 then C_2 else if n = 3 then C_3 else if n = 4 then C_4 else if n = 5 then C_5 else if n = 6 then C_6 else if n = 7 then C_7 else if n = 8 then C_8 else if n = 9 then C_9 else if n = 100 then P30 else 0) := xcn_of (E := (fun n => if n = 0 then C_0 else if n = 1 then C_1 else if n = 2 then C_2 else if n = 3 then C_3 else if n = 4 then C_4 else if n = 5 then C_5 else if n = 6 then C_6 else if n = 7 then C_7 else if n = 8 then C_8 else 0)) xcb (PySem.W.mg_of X G xa0) (PySem.W.mg_of X G xa1) (PySem.W.mg_of X G xa2) (PySem.W.mg_of X G xa3) (PySem.W.mg_of X G xa4) (PySem.W.mg_of X G xa5) (PySem.W.mg_of X G xa6) (PySem.W.mg_of X G xa7) (PySem.W.mg_of X G xa8) (PySem.W.mg_none_of X G b_ValueError) (PySem.W.mg_none_of X G b_isinstance) (PySem.W.mg_none_of X G b_zip) (fun i hi => by match i, hi with | 0, _ => rfl | 1, _ => rfl | 2, _ => rfl | 3, _ => rfl | 4, _ => rfl | 5, _ => rfl | 6, _ => rfl | 7, _ => rfl | 8, _ => rfl | n + 9, h => omega)
  have inj : Inj9 (fun n => if n = 0 then C_0 else if n = 1 then C_1 else if n = 2 then C_2 else if n = 3 then C_3 else if n = 4 then C_4 else if n = 5 then C_5 else if n = 6 then C_6 else if n = 7 then C_7 else if n = 8 then C_8 else if n = 9 then C_9 else if n = 100 then P30 else 0) := inj9_of xin (fun i hi => by match i, hi with | 0, _ => rfl | 1, _ => rfl | 2, _ => rfl | 3, _ => rfl | 4, _ => rfl | 5, _ => rfl | 6, _ => rfl | 7, _ => rfl | 8, _ => rfl | n + 9, h => omega)
  have cm : ∀ p ∈ [(cc30, P30)], (h.get? p.2 = some { cls := .none, data := .fields #[] }) ∧ K.lookup p.2 = none ∧ PySem.W.CodeHd h p.1 p.2 := List.forall_mem_cons.mpr ⟨⟨xm30, xn30, PySem.W.codeHd_of_K X xd30⟩, fun _ z => nomatch z⟩
  refine ⟨(PySem.W.fnOf "law" "law" (defArgs s_law) (defBody s_law) (defScope s_law) .none kV39 dc39 pm39 an39 cd39 ct39), [(cc30, P30)], fun p hp => (cm p hp).1, fun p hp => (cm p hp).2.1, fun p hp => (cm p hp).2.2, fun s v => .of_eq rfl, fun base _ _ hT => ?_⟩
  have tryB : TryB P w K mg base (fun n => if n = 0 then C_0 else if n = 1 then C_1 else if n = 2 then C_2 else if n = 3 then C_3 else if n = 4 then C_4 else if n = 5 then C_5 else if n = 6 then C_6 else if n = 7 then C_7 else if n = 8 then C_8 else if n = 9 then C_9 else if n = 100 then P30 else 0) s_l_try := tryB_mk XE (fun_mk (st := s_l_try) l40 c40 k40) (PySem.W.mg_of X G a40) tt_l_try (f_l_kin XE (fun_mk (st := s_l_kin) l41 c41 k41) (PySem.W.mg_of X G a41)) (b_l_try (fun_mk (st := s_l_try) l40 c40 k40))
  have tb_0 : LamX.TabB base mg cc30 P30 := hT (cc30, P30) (by simp)
  have g_is_whole : Fn P w K mg base 1 "is_whole" 1 (m_is_whole (fun n => if n = 0 then C_0 else if n = 1 then C_1 else if n = 2 then C_2 else if n = 3 then C_3 else if n = 4 then C_4 else if n = 5 then C_5 else if n = 6 then C_6 else if n = 7 then C_7 else if n = 8 then C_8 else if n = 9 then C_9 else if n = 100 then P30 else 0)) := f_is_whole g (fun_mk (st := s_is_whole) l0 c0 k0) (PySem.W.mg_of X G a0) 
  have g_is_from : Fn P w K mg base 2 "is_from" 3 (m_is_from (fun n => if n = 0 then C_0 else if n = 1 then C_1 else if n = 2 then C_2 else if n = 3 then C_3 else if n = 4 then C_4 else if n = 5 then C_5 else if n = 6 then C_6 else if n = 7 then C_7 else if n = 8 then C_8 else if n = 9 then C_9 else if n = 100 then P30 else 0)) := f_is_from g (fun_mk (st := s_is_from) l1 c1 k1) (PySem.W.mg_of X G a1) g_is_whole
  have g_are_herds : Fn P w K mg base 3 "are_herds" 1 (m_are_herds (fun n => if n = 0 then C_0 else if n = 1 then C_1 else if n = 2 then C_2 else if n = 3 then C_3 else if n = 4 then C_4 else if n = 5 then C_5 else if n = 6 then C_6 else if n = 7 then C_7 else if n = 8 then C_8 else if n = 9 then C_9 else if n = 100 then P30 else 0)) := f_are_herds g (fun_mk (st := s_are_herds) l2 c2 k2) (PySem.W.mg_of X G a2) g_is_from
  have g_all_folk : Fn P w K mg base 1 "all_folk" 1 (m_all_folk (fun n => if n = 0 then C_0 else if n = 1 then C_1 else if n = 2 then C_2 else if n = 3 then C_3 else if n = 4 then C_4 else if n = 5 then C_5 else if n = 6 then C_6 else if n = 7 then C_7 else if n = 8 then C_8 else if n = 9 then C_9 else if n = 100 then P30 else 0)) := f_all_folk g (fun_mk (st := s_all_folk) l3 c3 k3) (PySem.W.mg_of X G a3) 
  have g_is_stand : Fn P w K mg base 4 "is_stand" 1 (m_is_stand (fun n => if n = 0 then C_0 else if n = 1 then C_1 else if n = 2 then C_2 else if n = 3 then C_3 else if n = 4 then C_4 else if n = 5 then C_5 else if n = 6 then C_6 else if n = 7 then C_7 else if n = 8 then C_8 else if n = 9 then C_9 else if n = 100 then P30 else 0)) := f_is_stand g (fun_mk (st := s_is_stand) l4 c4 k4) (PySem.W.mg_of X G a4) g_are_herds g_all_folk
  have g_need_stand : Fn P w K mg base 5 "need_stand" 1 (m_need_stand (fun n => if n = 0 then C_0 else if n = 1 then C_1 else if n = 2 then C_2 else if n = 3 then C_3 else if n = 4 then C_4 else if n = 5 then C_5 else if n = 6 then C_6 else if n = 7 then C_7 else if n = 8 then C_8 else if n = 9 then C_9 else if n = 100 then P30 else 0)) := f_need_stand g (fun_mk (st := s_need_stand) l5 c5 k5) (PySem.W.mg_of X G a5) g_is_stand
  have g_Plain_init : KFn P w K mg base ((fun n => if n = 0 then C_0 else if n = 1 then C_1 else if n = 2 then C_2 else if n = 3 then C_3 else if n = 4 then C_4 else if n = 5 then C_5 else if n = 6 then C_6 else if n = 7 then C_7 else if n = 8 then C_8 else if n = 9 then C_9 else if n = 100 then P30 else 0) 9) 6 "Plain" 2 (m_Plain_init (fun n => if n = 0 then C_0 else if n = 1 then C_1 else if n = 2 then C_2 else if n = 3 then C_3 else if n = 4 then C_4 else if n = 5 then C_5 else if n = 6 then C_6 else if n = 7 then C_7 else if n = 8 then C_8 else if n = 9 then C_9 else if n = 100 then P30 else 0)) := f_Plain_init g (fun_mk (st := s_Plain_init) l6 c6 k6) ⟨pmk, a6, i6, pkp⟩ g_need_stand
  have g_Plain_len : MFn P w K mg base ((fun n => if n = 0 then C_0 else if n = 1 then C_1 else if n = 2 then C_2 else if n = 3 then C_3 else if n = 4 then C_4 else if n = 5 then C_5 else if n = 6 then C_6 else if n = 7 then C_7 else if n = 8 then C_8 else if n = 9 then C_9 else if n = 100 then P30 else 0) 9) 1 "__len__" 1 (m_Plain_len (fun n => if n = 0 then C_0 else if n = 1 then C_1 else if n = 2 then C_2 else if n = 3 then C_3 else if n = 4 then C_4 else if n = 5 then C_5 else if n = 6 then C_6 else if n = 7 then C_7 else if n = 8 then C_8 else if n = 9 then C_9 else if n = 100 then P30 else 0)) := f_Plain_len g (fun_mk (st := s_Plain_len) l7 c7 k7) ⟨a7, i7, k7⟩ 
  have g_Plain_eq : MFn P w K mg base ((fun n => if n = 0 then C_0 else if n = 1 then C_1 else if n = 2 then C_2 else if n = 3 then C_3 else if n = 4 then C_4 else if n = 5 then C_5 else if n = 6 then C_6 else if n = 7 then C_7 else if n = 8 then C_8 else if n = 9 then C_9 else if n = 100 then P30 else 0) 9) 1 "__eq__" 2 (m_Plain_eq (fun n => if n = 0 then C_0 else if n = 1 then C_1 else if n = 2 then C_2 else if n = 3 then C_3 else if n = 4 then C_4 else if n = 5 then C_5 else if n = 6 then C_6 else if n = 7 then C_7 else if n = 8 then C_8 else if n = 9 then C_9 else if n = 100 then P30 else 0)) := f_Plain_eq g (fun_mk (st := s_Plain_eq) l8 c8 k8) ⟨a8, i8, k8⟩ 
  have g_Plain_stand : MFn P w K mg base ((fun n => if n = 0 then C_0 else if n = 1 then C_1 else if n = 2 then C_2 else if n = 3 then C_3 else if n = 4 then C_4 else if n = 5 then C_5 else if n = 6 then C_6 else if n = 7 then C_7 else if n = 8 then C_8 else if n = 9 then C_9 else if n = 100 then P30 else 0) 9) 1 "stand" 1 (m_Plain_stand (fun n => if n = 0 then C_0 else if n = 1 then C_1 else if n = 2 then C_2 else if n = 3 then C_3 else if n = 4 then C_4 else if n = 5 then C_5 else if n = 6 then C_6 else if n = 7 then C_7 else if n = 8 then C_8 else if n = 9 then C_9 else if n = 100 then P30 else 0)) := f_Plain_stand g (fun_mk (st := s_Plain_stand) l9 c9 k9) ⟨a9, i9, k9⟩ 
  have g_gathered : Fn P w K mg base 1 "gathered" 1 (m_gathered (fun n => if n = 0 then C_0 else if n = 1 then C_1 else if n = 2 then C_2 else if n = 3 then C_3 else if n = 4 then C_4 else if n = 5 then C_5 else if n = 6 then C_6 else if n = 7 then C_7 else if n = 8 then C_8 else if n = 9 then C_9 else if n = 100 then P30 else 0)) := f_gathered g (fun_mk (st := s_gathered) l10 c10 k10) (PySem.W.mg_of X G a10) 
  have g_joined : Fn P w K mg base 2 "joined" 1 (m_joined (fun n => if n = 0 then C_0 else if n = 1 then C_1 else if n = 2 then C_2 else if n = 3 then C_3 else if n = 4 then C_4 else if n = 5 then C_5 else if n = 6 then C_6 else if n = 7 then C_7 else if n = 8 then C_8 else if n = 9 then C_9 else if n = 100 then P30 else 0)) := f_joined g (fun_mk (st := s_joined) l11 c11 k11) (PySem.W.mg_of X G a11) g_gathered
  have g_way_on : Fn P w K mg base 3 "way_on" 1 (m_way_on (fun n => if n = 0 then C_0 else if n = 1 then C_1 else if n = 2 then C_2 else if n = 3 then C_3 else if n = 4 then C_4 else if n = 5 then C_5 else if n = 6 then C_6 else if n = 7 then C_7 else if n = 8 then C_8 else if n = 9 then C_9 else if n = 100 then P30 else 0)) := f_way_on g (fun_mk (st := s_way_on) l12 c12 k12) (PySem.W.mg_of X G a12) g_joined
  have g_Plain_rest : MFn P w K mg base ((fun n => if n = 0 then C_0 else if n = 1 then C_1 else if n = 2 then C_2 else if n = 3 then C_3 else if n = 4 then C_4 else if n = 5 then C_5 else if n = 6 then C_6 else if n = 7 then C_7 else if n = 8 then C_8 else if n = 9 then C_9 else if n = 100 then P30 else 0) 9) 4 "rest" 1 (m_Plain_rest (fun n => if n = 0 then C_0 else if n = 1 then C_1 else if n = 2 then C_2 else if n = 3 then C_3 else if n = 4 then C_4 else if n = 5 then C_5 else if n = 6 then C_6 else if n = 7 then C_7 else if n = 8 then C_8 else if n = 9 then C_9 else if n = 100 then P30 else 0)) := f_Plain_rest g (fun_mk (st := s_Plain_rest) l13 c13 k13) ⟨a13, i13, k13⟩ g_way_on
  have g_Plain_dusks : MFn P w K mg base ((fun n => if n = 0 then C_0 else if n = 1 then C_1 else if n = 2 then C_2 else if n = 3 then C_3 else if n = 4 then C_4 else if n = 5 then C_5 else if n = 6 then C_6 else if n = 7 then C_7 else if n = 8 then C_8 else if n = 9 then C_9 else if n = 100 then P30 else 0) 9) 1 "dusks" 1 (m_Plain_dusks (fun n => if n = 0 then C_0 else if n = 1 then C_1 else if n = 2 then C_2 else if n = 3 then C_3 else if n = 4 then C_4 else if n = 5 then C_5 else if n = 6 then C_6 else if n = 7 then C_7 else if n = 8 then C_8 else if n = 9 then C_9 else if n = 100 then P30 else 0)) := f_Plain_dusks g (fun_mk (st := s_Plain_dusks) l14 c14 k14) ⟨a14, i14, k14⟩ 
  have g_l_deck : Fn P w K mg base 1 "_law_deck" 2 (m_l_deck (fun n => if n = 0 then C_0 else if n = 1 then C_1 else if n = 2 then C_2 else if n = 3 then C_3 else if n = 4 then C_4 else if n = 5 then C_5 else if n = 6 then C_6 else if n = 7 then C_7 else if n = 8 then C_8 else if n = 9 then C_9 else if n = 100 then P30 else 0)) := f_l_deck g (fun_mk (st := s_l_deck) l15 c15 k15) (PySem.W.mg_of X G a15) 
  have g_l_pick : Fn P w K mg base 1 "_law_pick" 2 (m_l_pick (fun n => if n = 0 then C_0 else if n = 1 then C_1 else if n = 2 then C_2 else if n = 3 then C_3 else if n = 4 then C_4 else if n = 5 then C_5 else if n = 6 then C_6 else if n = 7 then C_7 else if n = 8 then C_8 else if n = 9 then C_9 else if n = 100 then P30 else 0)) := f_l_pick g (fun_mk (st := s_l_pick) l16 c16 k16) (PySem.W.mg_of X G a16) 
  have g_l_sort : Fn P w K mg base 1 "_law_sort" 1 (m_l_sort (fun n => if n = 0 then C_0 else if n = 1 then C_1 else if n = 2 then C_2 else if n = 3 then C_3 else if n = 4 then C_4 else if n = 5 then C_5 else if n = 6 then C_6 else if n = 7 then C_7 else if n = 8 then C_8 else if n = 9 then C_9 else if n = 100 then P30 else 0)) := f_l_sort g (fun_mk (st := s_l_sort) l17 c17 k17) (PySem.W.mg_of X G a17) 
  have g_l_same : ∀ n, Fn P w K mg base (2 + n) "_law_same" 2 (m_l_same (fun n => if n = 0 then C_0 else if n = 1 then C_1 else if n = 2 then C_2 else if n = 3 then C_3 else if n = 4 then C_4 else if n = 5 then C_5 else if n = 6 then C_6 else if n = 7 then C_7 else if n = 8 then C_8 else if n = 9 then C_9 else if n = 100 then P30 else 0) n) := f_l_same g (fun_mk (st := s_l_same) l18 c18 k18) (PySem.W.mg_of X G a18) g_l_sort
  have g_l_one : Fn P w K mg base 2 "_law_one" 2 (m_l_one (fun n => if n = 0 then C_0 else if n = 1 then C_1 else if n = 2 then C_2 else if n = 3 then C_3 else if n = 4 then C_4 else if n = 5 then C_5 else if n = 6 then C_6 else if n = 7 then C_7 else if n = 8 then C_8 else if n = 9 then C_9 else if n = 100 then P30 else 0)) := f_l_one g (fun_mk (st := s_l_one) l19 c19 k19) (PySem.W.mg_of X G a19) g_l_pick
  have g_l_gathered : Fn P w K mg base 1 "_law_gathered" 1 (m_l_gathered (fun n => if n = 0 then C_0 else if n = 1 then C_1 else if n = 2 then C_2 else if n = 3 then C_3 else if n = 4 then C_4 else if n = 5 then C_5 else if n = 6 then C_6 else if n = 7 then C_7 else if n = 8 then C_8 else if n = 9 then C_9 else if n = 100 then P30 else 0)) := f_l_gathered g (fun_mk (st := s_l_gathered) l20 c20 k20) (PySem.W.mg_of X G a20) 
  have g_l_few : Fn P w K mg base 3 "_law_few" 2 (m_l_few (fun n => if n = 0 then C_0 else if n = 1 then C_1 else if n = 2 then C_2 else if n = 3 then C_3 else if n = 4 then C_4 else if n = 5 then C_5 else if n = 6 then C_6 else if n = 7 then C_7 else if n = 8 then C_8 else if n = 9 then C_9 else if n = 100 then P30 else 0)) := f_l_few g (fun_mk (st := s_l_few) l21 c21 k21) (PySem.W.mg_of X G a21) g_l_pick g_l_one g_l_gathered
  have g_l_joined : Fn P w K mg base 2 "_law_joined" 1 (m_l_joined (fun n => if n = 0 then C_0 else if n = 1 then C_1 else if n = 2 then C_2 else if n = 3 then C_3 else if n = 4 then C_4 else if n = 5 then C_5 else if n = 6 then C_6 else if n = 7 then C_7 else if n = 8 then C_8 else if n = 9 then C_9 else if n = 100 then P30 else 0)) := f_l_joined g (fun_mk (st := s_l_joined) l22 c22 k22) (PySem.W.mg_of X G a22) g_l_gathered
  have g_l_way : Fn P w K mg base 3 "_law_way" 1 (m_l_way (fun n => if n = 0 then C_0 else if n = 1 then C_1 else if n = 2 then C_2 else if n = 3 then C_3 else if n = 4 then C_4 else if n = 5 then C_5 else if n = 6 then C_6 else if n = 7 then C_7 else if n = 8 then C_8 else if n = 9 then C_9 else if n = 100 then P30 else 0)) := f_l_way g (fun_mk (st := s_l_way) l23 c23 k23) (PySem.W.mg_of X G a23) g_l_joined
  have g_l_whole : Fn P w K mg base 1 "_law_whole" 1 (m_l_whole (fun n => if n = 0 then C_0 else if n = 1 then C_1 else if n = 2 then C_2 else if n = 3 then C_3 else if n = 4 then C_4 else if n = 5 then C_5 else if n = 6 then C_6 else if n = 7 then C_7 else if n = 8 then C_8 else if n = 9 then C_9 else if n = 100 then P30 else 0)) := f_l_whole g (fun_mk (st := s_l_whole) l24 c24 k24) (PySem.W.mg_of X G a24) 
  have g_l_after : Fn P w K mg base 4 "_law_after" 2 (m_l_after (fun n => if n = 0 then C_0 else if n = 1 then C_1 else if n = 2 then C_2 else if n = 3 then C_3 else if n = 4 then C_4 else if n = 5 then C_5 else if n = 6 then C_6 else if n = 7 then C_7 else if n = 8 then C_8 else if n = 9 then C_9 else if n = 100 then P30 else 0)) := f_l_after g (fun_mk (st := s_l_after) l25 c25 k25) (PySem.W.mg_of X G a25) g_l_way
  have g_l_due : Fn P w K mg base 5 "_law_due" 2 (m_l_due (fun n => if n = 0 then C_0 else if n = 1 then C_1 else if n = 2 then C_2 else if n = 3 then C_3 else if n = 4 then C_4 else if n = 5 then C_5 else if n = 6 then C_6 else if n = 7 then C_7 else if n = 8 then C_8 else if n = 9 then C_9 else if n = 100 then P30 else 0)) := f_l_due g (fun_mk (st := s_l_due) l26 c26 k26) (PySem.W.mg_of X G a26) g_l_whole g_l_after
  have g_Plain_come : MFn P w K mg base ((fun n => if n = 0 then C_0 else if n = 1 then C_1 else if n = 2 then C_2 else if n = 3 then C_3 else if n = 4 then C_4 else if n = 5 then C_5 else if n = 6 then C_6 else if n = 7 then C_7 else if n = 8 then C_8 else if n = 9 then C_9 else if n = 100 then P30 else 0) 9) 2 "come" 3 (m_Plain_come (fun n => if n = 0 then C_0 else if n = 1 then C_1 else if n = 2 then C_2 else if n = 3 then C_3 else if n = 4 then C_4 else if n = 5 then C_5 else if n = 6 then C_6 else if n = 7 then C_7 else if n = 8 then C_8 else if n = 9 then C_9 else if n = 100 then P30 else 0)) := f_Plain_come g (fun_mk (st := s_Plain_come) l27 c27 k27) ⟨a27, i27, k27⟩ g_is_whole g_all_folk g_gathered
  have g_Plain_part : MFn P w K mg base ((fun n => if n = 0 then C_0 else if n = 1 then C_1 else if n = 2 then C_2 else if n = 3 then C_3 else if n = 4 then C_4 else if n = 5 then C_5 else if n = 6 then C_6 else if n = 7 then C_7 else if n = 8 then C_8 else if n = 9 then C_9 else if n = 100 then P30 else 0) 9) 3 "part" 3 (m_Plain_part (fun n => if n = 0 then C_0 else if n = 1 then C_1 else if n = 2 then C_2 else if n = 3 then C_3 else if n = 4 then C_4 else if n = 5 then C_5 else if n = 6 then C_6 else if n = 7 then C_7 else if n = 8 then C_8 else if n = 9 then C_9 else if n = 100 then P30 else 0)) := f_Plain_part g (fun_mk (st := s_Plain_part) l28 c28 k28) ⟨a28, i28, k28⟩ g_is_whole g_is_from g_gathered
  have g_Plain_go : MFn P w K mg base ((fun n => if n = 0 then C_0 else if n = 1 then C_1 else if n = 2 then C_2 else if n = 3 then C_3 else if n = 4 then C_4 else if n = 5 then C_5 else if n = 6 then C_6 else if n = 7 then C_7 else if n = 8 then C_8 else if n = 9 then C_9 else if n = 100 then P30 else 0) 9) 4 "go" 2 (m_Plain_go (fun n => if n = 0 then C_0 else if n = 1 then C_1 else if n = 2 then C_2 else if n = 3 then C_3 else if n = 4 then C_4 else if n = 5 then C_5 else if n = 6 then C_6 else if n = 7 then C_7 else if n = 8 then C_8 else if n = 9 then C_9 else if n = 100 then P30 else 0)) := f_Plain_go g (fun_mk (st := s_Plain_go) l29 c29 k29) ⟨a29, i29, k29⟩ g_is_from g_way_on
  have g_l_do : Fn P w K mg base 7 "_law_do" 2 (m_l_do (fun n => if n = 0 then C_0 else if n = 1 then C_1 else if n = 2 then C_2 else if n = 3 then C_3 else if n = 4 then C_4 else if n = 5 then C_5 else if n = 6 then C_6 else if n = 7 then C_7 else if n = 8 then C_8 else if n = 9 then C_9 else if n = 100 then P30 else 0)) := f_l_do g (funL_mk (st := s_l_do) l30 c30 k30) (PySem.W.mg_of X G a30) g_Plain_come g_Plain_part g_Plain_go tryB tb_0
  have g_l_good_deed : Fn P w K mg base 3 "_law_good_deed" 2 (m_l_good_deed (fun n => if n = 0 then C_0 else if n = 1 then C_1 else if n = 2 then C_2 else if n = 3 then C_3 else if n = 4 then C_4 else if n = 5 then C_5 else if n = 6 then C_6 else if n = 7 then C_7 else if n = 8 then C_8 else if n = 9 then C_9 else if n = 100 then P30 else 0)) := f_l_good_deed g (fun_mk (st := s_l_good_deed) l31 c31 k31) (PySem.W.mg_of X G a31) g_l_pick g_l_one
  have g_dusk : Fn P w K mg base 6 "dusk" 1 (m_dusk (fun n => if n = 0 then C_0 else if n = 1 then C_1 else if n = 2 then C_2 else if n = 3 then C_3 else if n = 4 then C_4 else if n = 5 then C_5 else if n = 6 then C_6 else if n = 7 then C_7 else if n = 8 then C_8 else if n = 9 then C_9 else if n = 100 then P30 else 0)) := f_dusk g (fun_mk (st := s_dusk) l32 c32 k32) (PySem.W.mg_of X G a32) g_need_stand g_joined
  have g_need_dusks : Fn P w K mg base 3 "need_dusks" 1 (m_need_dusks (fun n => if n = 0 then C_0 else if n = 1 then C_1 else if n = 2 then C_2 else if n = 3 then C_3 else if n = 4 then C_4 else if n = 5 then C_5 else if n = 6 then C_6 else if n = 7 then C_7 else if n = 8 then C_8 else if n = 9 then C_9 else if n = 100 then P30 else 0)) := f_need_dusks g (fun_mk (st := s_need_dusks) l33 c33 k33) (PySem.W.mg_of X G a33) g_is_from
  have g_behind : Fn P w K mg base 6 "behind" 2 (m_behind (fun n => if n = 0 then C_0 else if n = 1 then C_1 else if n = 2 then C_2 else if n = 3 then C_3 else if n = 4 then C_4 else if n = 5 then C_5 else if n = 6 then C_6 else if n = 7 then C_7 else if n = 8 then C_8 else if n = 9 then C_9 else if n = 100 then P30 else 0)) := f_behind g (fun_mk (st := s_behind) l34 c34 k34) (PySem.W.mg_of X G a34) g_need_stand g_need_dusks g_way_on
  have g_rest : Fn P w K mg base 6 "rest" 1 (m_rest (fun n => if n = 0 then C_0 else if n = 1 then C_1 else if n = 2 then C_2 else if n = 3 then C_3 else if n = 4 then C_4 else if n = 5 then C_5 else if n = 6 then C_6 else if n = 7 then C_7 else if n = 8 then C_8 else if n = 9 then C_9 else if n = 100 then P30 else 0)) := f_rest g (fun_mk (st := s_rest) l35 c35 k35) (PySem.W.mg_of X G a35) g_need_stand g_way_on
  have g_met_sizes : Fn P w K mg base 4 "met_sizes" 1 (m_met_sizes (fun n => if n = 0 then C_0 else if n = 1 then C_1 else if n = 2 then C_2 else if n = 3 then C_3 else if n = 4 then C_4 else if n = 5 then C_5 else if n = 6 then C_6 else if n = 7 then C_7 else if n = 8 then C_8 else if n = 9 then C_9 else if n = 100 then P30 else 0)) := f_met_sizes g (fun_mk (st := s_met_sizes) l36 c36 k36) (PySem.W.mg_of X G a36) g_way_on
  have g_met : Fn P w K mg base 6 "met" 1 (m_met (fun n => if n = 0 then C_0 else if n = 1 then C_1 else if n = 2 then C_2 else if n = 3 then C_3 else if n = 4 then C_4 else if n = 5 then C_5 else if n = 6 then C_6 else if n = 7 then C_7 else if n = 8 then C_8 else if n = 9 then C_9 else if n = 100 then P30 else 0)) := f_met g (fun_mk (st := s_met) l37 c37 k37) (PySem.W.mg_of X G a37) g_need_stand g_met_sizes
  have g_l_beside : Fn P w K mg base 8 "_law_beside" 1 (m_l_beside (fun n => if n = 0 then C_0 else if n = 1 then C_1 else if n = 2 then C_2 else if n = 3 then C_3 else if n = 4 then C_4 else if n = 5 then C_5 else if n = 6 then C_6 else if n = 7 then C_7 else if n = 8 then C_8 else if n = 9 then C_9 else if n = 100 then P30 else 0)) := f_l_beside g (fun_mk (st := s_l_beside) l38 c38 k38) (PySem.W.mg_of X G a38) g_dusk g_behind g_rest g_Plain_init g_Plain_rest g_met
  exact law_okT (ts := [(P30, "_law_do.<locals>.<lambda>")]) (f_law g (fun_mk (st := s_law) l39 c39 k39) g_Plain_init g_Plain_len g_Plain_eq g_Plain_stand g_Plain_rest g_Plain_dusks g_l_deck g_l_pick g_l_same g_l_few g_l_way g_l_due g_l_after g_l_do g_l_good_deed g_l_beside) (law_true _ inj) (by simp) (by simp)
theorem walk {l : PySem.W.OpenLaw} {q : Program} {loose : List Str} {XP : (Str → Option Value) → Heap → Prop} {YP : World → Heap → Prop} {d : DefRec} {K : Params → PySem.W.Frag} (hn : l.most = some 63) (hdf : d.params.defaults = [])
    (hY : ∀ (w : World) (h : Heap), YP w h → (K w.params).In h)
    (F : ∀ (w : World) (mg : Str → Option Value) (fa : Addr) (h : Heap), YP w h → (K w.params).In h → h.Ns mainGlobals mg → mg d.name = some (.ref fa) →
      ∃ (fd : FuncData) (cs : List (Addr × Addr)), (∀ p ∈ cs, h.get? p.2 = some { cls := .none, data := .fields #[] }) ∧ (∀ p ∈ cs, (K w.params).lookup p.2 = none) ∧ (∀ p ∈ cs, PySem.W.CodeHd h p.1 p.2) ∧ (∀ (s : Shared) (u : Value), BindsTo s fd ⟨[u], []⟩ [("script", u)]) ∧
        ∀ base : Heap, (K w.params).In base → base.Ns mainGlobals mg → (∀ p ∈ cs, LamX.TabB base mg p.1 p.2) → FnOk l.prog w (K w.params) mg base (L2N.CX l.prog w) 11 fa fd ["script"] (spLawT (K w.params) cs)) :
    PySem.W.WalkO q loose XP YP l.row.toRowW d [] (fun f vs => PySem.call f vs) :=
  LamX.walk_ofTs (n := 63) (k := 11) (x := "script") (CX := fun w => L2N.CX l.prog w) hn (by decide) hdf ⟨rfl, by decide, by decide⟩ hY (fun w mg fa h Y KX G hmg => by
    obtain ⟨fd, cs, h1, h2, h3, h4, h5⟩ := F w mg fa h Y KX G hmg
    exact ⟨fd, cs, spLawT (K w.params) cs, h1, h2, h3, h4, fun H a ns hl _ hT hS => ⟨a, ns, rfl, hS, hl, hT, fun _ => rfl⟩, h5⟩) fun w H s e s' z => cx_no z
end Lw
open PySem PySem.W PyProof.Rows
set_option maxRecDepth 100000 in
set_option maxHeartbeats 0 in
theorem PySem.Challenge.cw_likejoin_k19_whole_two_plains_by_turns_holds : PySem.Challenge.rw_likejoin_k19_whole_two_plains_by_turns.Holds := by
  w_on; o_law; k_head; (case hw => w_witness2)
  k_fill
  refine Lw.walk (l := PySem.Challenge.rw_likejoin_k19_whole_two_plains_by_turns) rfl rfl (fun w h Y => PySem.W.km_in_of Y) ?F
  case F =>
    intro w mg fa h Y KX G hmg
    refine' Lw.all_mk KX G hmg ?xaP ?a0 ?l0 ?c0 ?k0 ?a1 ?l1 ?c1 ?k1 ?a2 ?l2 ?c2 ?k2 ?a3 ?l3 ?c3 ?k3 ?a4 ?l4 ?c4 ?k4 ?a5 ?l5 ?c5 ?k5 ?a6 ?i6 ?l6 ?c6 ?k6 ?a7 ?i7 ?l7 ?c7 ?k7 ?a8 ?i8 ?l8 ?c8 ?k8 ?a9 ?i9 ?l9 ?c9 ?k9 ?a10 ?l10 ?c10 ?k10 ?a11 ?l11 ?c11 ?k11 ?a12 ?l12 ?c12 ?k12 ?a13 ?i13 ?l13 ?c13 ?k13 ?a14 ?i14 ?l14 ?c14 ?k14 ?a15 ?l15 ?c15 ?k15 ?a16 ?l16 ?c16 ?k16 ?a17 ?l17 ?c17 ?k17 ?a18 ?l18 ?c18 ?k18 ?a19 ?l19 ?c19 ?k19 ?a20 ?l20 ?c20 ?k20 ?a21 ?l21 ?c21 ?k21 ?a22 ?l22 ?c22 ?k22 ?a23 ?l23 ?c23 ?k23 ?a24 ?l24 ?c24 ?k24 ?a25 ?l25 ?c25 ?k25 ?a26 ?l26 ?c26 ?k26 ?a27 ?i27 ?l27 ?c27 ?k27 ?a28 ?i28 ?l28 ?c28 ?k28 ?a29 ?i29 ?l29 ?c29 ?k29 ?a30 ?l30 ?c30 ?k30 ?xo30 ?xv30 ?xd30 ?xn30 ?xm30 ?a31 ?l31 ?c31 ?k31 ?a32 ?l32 ?c32 ?k32 ?a33 ?l33 ?c33 ?k33 ?a34 ?l34 ?c34 ?k34 ?a35 ?l35 ?c35 ?k35 ?a36 ?l36 ?c36 ?k36 ?a37 ?l37 ?c37 ?k37 ?a38 ?l38 ?c38 ?k38 ?a39 ?l39 ?c39 ?k39 ?a40 ?l40 ?c40 ?k40 ?a41 ?l41 ?c41 ?k41 ?c_FAR ?c_MOST_FOLK ?c_MOST_SIZES ?b_ValueError ?b_all ?b_bool ?b_dict ?b_enumerate ?b_int ?b_isinstance ?b_len ?b_list ?b_min ?b_range ?b_sorted ?b_str ?b_sum ?b_tuple ?b_zip ?xa0 ?xa1 ?xq1 ?xk1 ?xb1 ?xt1 ?xa2 ?xq2 ?xk2 ?xb2 ?xt2 ?xa3 ?xq3 ?xk3 ?xb3 ?xt3 ?xa4 ?xq4 ?xk4 ?xb4 ?xt4 ?xa5 ?xa6 ?xa7 ?xq7 ?xk7 ?xb7 ?xt7 ?xa8 ?pg ?phd ?ppo ?psa ?pnh ?png ?pca ?pcn ?pck ?pcm ?pnt ?pkt ?pmk ?pkp ?xcb ?xin
    (case xaP => k_is); (case a0 => k_is); (case l0 => k_is); (case c0 => k_is); (case k0 => k_is); (case a1 => k_is); (case l1 => k_is); (case c1 => k_is); (case k1 => k_is); (case a2 => k_is); (case l2 => k_is); (case c2 => k_is); (case k2 => k_is); (case a3 => k_is); (case l3 => k_is); (case c3 => k_is); (case k3 => k_is); (case a4 => k_is); (case l4 => k_is); (case c4 => k_is); (case k4 => k_is); (case a5 => k_is); (case l5 => k_is); (case c5 => k_is); (case k5 => k_is); (case a6 => k_is); (case i6 => k_is); (case l6 => k_is); (case c6 => k_is); (case k6 => k_is); (case a7 => k_is); (case i7 => k_is); (case l7 => k_is); (case c7 => k_is); (case k7 => k_is); (case a8 => k_is); (case i8 => k_is); (case l8 => k_is); (case c8 => k_is); (case k8 => k_is); (case a9 => k_is); (case i9 => k_is); (case l9 => k_is); (case c9 => k_is); (case k9 => k_is); (case a10 => k_is); (case l10 => k_is); (case c10 => k_is); (case k10 => k_is); (case a11 => k_is); (case l11 => k_is); (case c11 => k_is); (case k11 => k_is); (case a12 => k_is); (case l12 => k_is); (case c12 => k_is); (case k12 => k_is); (case a13 => k_is); (case i13 => k_is); (case l13 => k_is); (case c13 => k_is); (case k13 => k_is); (case a14 => k_is); (case i14 => k_is); (case l14 => k_is); (case c14 => k_is); (case k14 => k_is); (case a15 => k_is); (case l15 => k_is); (case c15 => k_is); (case k15 => k_is); (case a16 => k_is); (case l16 => k_is); (case c16 => k_is); (case k16 => k_is); (case a17 => k_is); (case l17 => k_is); (case c17 => k_is); (case k17 => k_is); (case a18 => k_is); (case l18 => k_is); (case c18 => k_is); (case k18 => k_is); (case a19 => k_is); (case l19 => k_is); (case c19 => k_is); (case k19 => k_is); (case a20 => k_is); (case l20 => k_is); (case c20 => k_is); (case k20 => k_is); (case a21 => k_is); (case l21 => k_is); (case c21 => k_is); (case k21 => k_is); (case a22 => k_is); (case l22 => k_is); (case c22 => k_is); (case k22 => k_is); (case a23 => k_is); (case l23 => k_is); (case c23 => k_is); (case k23 => k_is); (case a24 => k_is); (case l24 => k_is); (case c24 => k_is); (case k24 => k_is); (case a25 => k_is); (case l25 => k_is); (case c25 => k_is); (case k25 => k_is); (case a26 => k_is); (case l26 => k_is); (case c26 => k_is); (case k26 => k_is); (case a27 => k_is); (case i27 => k_is); (case l27 => k_is); (case c27 => k_is); (case k27 => k_is); (case a28 => k_is); (case i28 => k_is); (case l28 => k_is); (case c28 => k_is); (case k28 => k_is); (case a29 => k_is); (case i29 => k_is); (case l29 => k_is); (case c29 => k_is); (case k29 => k_is); (case a30 => k_is); (case l30 => k_is); (case c30 => k_is); (case k30 => k_is); (case xo30 => k_is); (case xv30 => exact rfl); (case xd30 => kernel_rfl); (case xn30 => kernel_rfl); (case xm30 => exact PySem.W.km_tabs_of Y _ (by simp)); (case a31 => k_is); (case l31 => k_is); (case c31 => k_is); (case k31 => k_is); (case a32 => k_is); (case l32 => k_is); (case c32 => k_is); (case k32 => k_is); (case a33 => k_is); (case l33 => k_is); (case c33 => k_is); (case k33 => k_is); (case a34 => k_is); (case l34 => k_is); (case c34 => k_is); (case k34 => k_is); (case a35 => k_is); (case l35 => k_is); (case c35 => k_is); (case k35 => k_is); (case a36 => k_is); (case l36 => k_is); (case c36 => k_is); (case k36 => k_is); (case a37 => k_is); (case l37 => k_is); (case c37 => k_is); (case k37 => k_is); (case a38 => k_is); (case l38 => k_is); (case c38 => k_is); (case k38 => k_is); (case a39 => k_is); (case l39 => k_is); (case c39 => k_is); (case k39 => k_is); (case a40 => k_is); (case l40 => k_is); (case c40 => k_is); (case k40 => k_is); (case a41 => k_is); (case l41 => k_is); (case c41 => k_is); (case k41 => k_is); (case c_FAR => k_is); (case c_MOST_FOLK => k_is); (case c_MOST_SIZES => k_is); (case b_ValueError => k_is); (case b_all => k_is); (case b_bool => k_is); (case b_dict => k_is); (case b_enumerate => k_is); (case b_int => k_is); (case b_isinstance => k_is); (case b_len => k_is); (case b_list => k_is); (case b_min => k_is); (case b_range => k_is); (case b_sorted => k_is); (case b_str => k_is); (case b_sum => k_is); (case b_tuple => k_is); (case b_zip => k_is); (case xa0 => k_is); (case xa1 => k_is); (case xq1 => k_exc); (case xk1 => k_is); (case xb1 => k_is); (case xt1 => k_is); (case xa2 => k_is); (case xq2 => k_exc); (case xk2 => k_is); (case xb2 => k_is); (case xt2 => k_is); (case xa3 => k_is); (case xq3 => k_exc); (case xk3 => k_is); (case xb3 => k_is); (case xt3 => k_is); (case xa4 => k_is); (case xq4 => k_exc); (case xk4 => k_is); (case xb4 => k_is); (case xt4 => k_is); (case xa5 => k_is); (case xa6 => k_is); (case xa7 => k_is); (case xq7 => k_exc); (case xk7 => k_is); (case xb7 => k_is); (case xt7 => k_is); (case xa8 => k_is); (case pg => k_is); (case phd => k_is); (case ppo => k_is); (case psa => k_is); (case pnh => k_is); (case png => k_is); (case pca => k_is); (case pcn => k_is); (case pck => k_is); (case pcm => k_is); (case pnt => k_is); (case pkt => kernel_rfl); (case pmk => k_is); (case pkp => k_is); (case xcb => kernel_rfl); (case xin => decide +kernel)
