import PyProof.Rows.All
import Wide.All
import OpenK.AllK
import Wide.FinOn
import HandS.ForMost
import HandS.Exc
import HandS.TryOnly
import HandS.ExcOwn
import HandS.ExcInit
import HandS.ExcField
import HandS.WordsExc
import HandS.Wide
import KE.DataCmp
import KE.DataEq
import PyProof.ReprRoads
import HandS.IsInst
import HandS.RaiseMore
import KE.SortData
import PySem.Challenge.RW_crosshitch_k02_ends_and_partners
set_option Elab.async false
set_option linter.all false
set_option maxRecDepth 100000
set_option maxHeartbeats 1000000
/-! VS1: value semantics over the hand layer: stores, relations, outcomes. -/
namespace VS
open PySem PySem.Spec PyProof.Rows L2

abbrev Frg := PySem.W.Frag

/-- a value: data, a cell of the store, or a list that may only be read -/
inductive W where
  | d (x : PyData)
  | c (n : Nat)
  | r (xs : List PyData)
/-- a mutable object that this program still owns -/
inductive Cell where
  | lst (ws : List W)
  | dct (kvs : List (Key × W))
  | dead
abbrev Store := List Cell
/-- an own exception: its class by number, its fields -/
structure Exn where
  cls : Nat
  fs : Option (List (Str × PyData))
inductive Res (α : Type) where
  | ok (x : α) (st : Store)
  | exn (e : Exn) (st : Store)
  | bad
def Res.bind {α β : Type} (r : Res α) (f : α → Store → Res β) : Res β :=
  match r with
  | .ok x st => f x st
  | .exn e st => .exn e st
  | .bad => .bad
abbrev Env := List (Option W)
abbrev Ev := Env → Store → Res W

/-! ### the relations -/
mutual
/-- v is the datum d, laid in F, never to be changed -/
inductive Dq (K : Frg) (F : Hp) : V → PyData → Prop
  | non : Dq K F .non .none
  | bl (b : Bool) : Dq K F (.bl b) (.bool b)
  | int (i : Int) : Dq K F (.int i) (.int i)
  | str (x : Str) : Dq K F (.str x) (.str x)
  | lst {a : Addr} {xs : List V} {ds : List PyData} : F a = some (.lst xs) → DqAll K F xs ds → Dq K F (.ref a) (.list ds)
  | tup {a : Addr} {xs : List V} {ds : List PyData} : SqT K F a xs → DqAll K F xs ds → Dq K F (.ref a) (.tuple ds)
inductive DqAll (K : Frg) (F : Hp) : List V → List PyData → Prop
  | nil : DqAll K F [] []
  | cons {v : V} {vs : List V} {d : PyData} {ds : List PyData} : Dq K F v d → DqAll K F vs ds → DqAll K F (v :: vs) (d :: ds)
end
def WR (K : Frg) (F : Hp) (al : List Addr) (v : V) : W → Prop
  | .d x => Dq K F v x
  | .c n => ∃ a, al[n]? = some a ∧ v = .ref a
  | .r xs => ∃ a vs, v = .ref a ∧ SqL K F a vs ∧ DqAll K F vs xs
abbrev WRs (K : Frg) (F : Hp) (al : List Addr) : List V → List W → Prop := Paired (WR K F al)
abbrev KWR (K : Frg) (F : Hp) (al : List Addr) : List (Key × V) → List (Key × W) → Prop := Paired fun p q => p.1 = q.1 ∧ WR K F al p.2 q.2
def CellR (K : Frg) (F : Hp) (al : List Addr) (H : Hp) (a : Addr) : Cell → Prop
  | .lst ws => F a = none ∧ ∃ vs, H a = some (.lst vs) ∧ WRs K F al vs ws
  | .dct kvs => F a = none ∧ ∃ us, H a = some (.dK us) ∧ KWR K F al us kvs
  | .dead => ∃ o, H a = some o
structure Rel (K : Frg) (F : Hp) (al : List Addr) (st : Store) (H : Hp) : Prop where
  sub : Same F H
  len : al.length = st.length
  nd : al.Nodup
  cell : ∀ (n : Nat) (a : Addr) (c : Cell), al[n]? = some a → st[n]? = some c → CellR K F al H a c
structure Ext (F : Hp) (al : List Addr) (F' : Hp) (al' : List Addr) : Prop where
  same : Same F F'
  pre : ∃ more, al' = al ++ more
theorem Ext.refl {F : Hp} {al : List Addr} : Ext F al F al := ⟨Same.refl _, [], by simp⟩
theorem Ext.trans {F F1 F2 : Hp} {al al1 al2 : List Addr} (a : Ext F al F1 al1) (b : Ext F1 al1 F2 al2) : Ext F al F2 al2 := by
  obtain ⟨m1, e1⟩ := a.pre
  obtain ⟨m2, e2⟩ := b.pre
  exact ⟨a.same.trans b.same, m1 ++ m2, by rw [e2, e1, List.append_assoc]⟩
theorem Ext.get {F F1 : Hp} {al al1 : List Addr} (e : Ext F al F1 al1) {n : Nat} {a : Addr} (h : al[n]? = some a) : al1[n]? = some a := by
  obtain ⟨m, rfl⟩ := e.pre
  rw [List.getElem?_append_left (List.getElem?_eq_some_iff.mp h).1]
  exact h
theorem Same.tupq {K : Frg} {H H' : Hp} {a : Addr} {xs : List V} (e : Same H H') (h : SqT K H a xs) : SqT K H' a xs := by
  rcases h with (h | ⟨o, h⟩) | h
  · exact .inl (.inl (e _ _ h))
  · exact .inl (.inr ⟨o, e _ _ h⟩)
  · exact .inr h
mutual
theorem Dq.mono {K : Frg} {H H' : Hp} (e : Same H H') : ∀ (d : PyData) (v : V), Dq K H v d → Dq K H' v d
  | .none, _, h => by cases h; exact .non
  | .bool b, _, h => by cases h; exact .bl b
  | .int i, _, h => by cases h; exact .int i
  | .str x, _, h => by cases h; exact .str x
  | .list ds, _, h => by
    cases h with
    | lst hs ha => exact .lst (e _ _ hs) (Dq.monoAll e ds _ ha)
  | .tuple ds, _, h => by
    cases h with
    | tup hs ha => exact .tup (Same.tupq e hs) (Dq.monoAll e ds _ ha)
  | .dict _, _, h => by cases h
theorem Dq.monoAll {K : Frg} {H H' : Hp} (e : Same H H') : ∀ (ds : List PyData) (vs : List V), DqAll K H vs ds → DqAll K H' vs ds
  | [], _, h => by cases h; exact .nil
  | d :: ds, _, h => by
    cases h with
    | cons h1 h2 => exact .cons (Dq.mono e d _ h1) (Dq.monoAll e ds _ h2)
end
mutual
theorem Dq.dp {K : Frg} {H : Hp} : ∀ (d : PyData) (v : V), Dq K H v d → Dp K H v d
  | .none, _, h => by cases h; exact .non
  | .bool b, _, h => by cases h; exact .bl b
  | .int i, _, h => by cases h; exact .int i
  | .str x, _, h => by cases h; exact .str x
  | .list ds, _, h => by
    cases h with
    | lst hs ha => exact .lst (SqL.of hs) (Dq.dpAll ds _ ha)
  | .tuple ds, _, h => by
    cases h with
    | tup hs ha => exact .tup hs (Dq.dpAll ds _ ha)
  | .dict _, _, h => by cases h
theorem Dq.dpAll {K : Frg} {H : Hp} : ∀ (ds : List PyData) (vs : List V), DqAll K H vs ds → DpAll K H vs ds
  | [], _, h => by cases h; exact .nil
  | d :: ds, _, h => by
    cases h with
    | cons h1 h2 => exact .cons (Dq.dp d _ h1) (Dq.dpAll ds _ h2)
end
theorem DqAll.length {K : Frg} {H : Hp} : ∀ {vs : List V} {ds : List PyData}, DqAll K H vs ds → vs.length = ds.length
  | _, _, .nil => rfl
  | _, _, .cons _ t => by simp [DqAll.length t]
theorem DqAll.app {K : Frg} {H : Hp} : ∀ {vs us : List V} {ds es : List PyData}, DqAll K H vs ds → DqAll K H us es → DqAll K H (vs ++ us) (ds ++ es)
  | _, _, _, _, .nil, s => s
  | _, _, _, _, .cons r t, s => .cons r (DqAll.app t s)
theorem DqAll.paired {K : Frg} {H : Hp} : ∀ {vs : List V} {ds : List PyData}, DqAll K H vs ds → Paired (Dq K H) vs ds
  | _, _, .nil => .nil
  | _, _, .cons r t => .cons r (DqAll.paired t)
theorem DqAll.of_paired {K : Frg} {H : Hp} : ∀ {vs : List V} {ds : List PyData}, Paired (Dq K H) vs ds → DqAll K H vs ds
  | _, _, .nil => .nil
  | _, _, .cons r t => .cons r (DqAll.of_paired t)
theorem WR.mono {K : Frg} {F F' : Hp} {al al' : List Addr} (e : Ext F al F' al') {v : V} {w : W} (h : WR K F al v w) : WR K F' al' v w := by
  cases w with
  | d x => exact Dq.mono e.same x v h
  | r xs =>
    obtain ⟨a, vs, h1, h2, h3⟩ := h
    exact ⟨a, vs, h1, Same.seq e.same h2, Dq.monoAll e.same xs _ h3⟩
  | c n =>
    obtain ⟨a, h1, h2⟩ := h
    exact ⟨a, e.get h1, h2⟩
theorem WRs.mono {K : Frg} {F F' : Hp} {al al' : List Addr} (e : Ext F al F' al') {vs : List V} {ws : List W} (h : WRs K F al vs ws) : WRs K F' al' vs ws :=
  Paired.mono (fun _ _ q => WR.mono e q) h
theorem KWR.mono {K : Frg} {F F' : Hp} {al al' : List Addr} (e : Ext F al F' al') {vs : List (Key × V)} {ws : List (Key × W)} (h : KWR K F al vs ws) : KWR K F' al' vs ws :=
  Paired.mono (fun _ _ q => ⟨q.1, WR.mono e q.2⟩) h

section
variable {K : Frg} {F F' : Hp} {al al' : List Addr} {st st' : Store} {H H' : Hp}
theorem Rel.there (R : Rel K F al st H) {n : Nat} {a : Addr} (h : al[n]? = some a) : ∃ c, st[n]? = some c ∧ CellR K F al H a c := by
  have hn : n < st.length := by rw [← R.len]; exact (List.getElem?_eq_some_iff.mp h).1
  exact ⟨st[n], List.getElem?_eq_some_iff.mpr ⟨hn, rfl⟩, R.cell n a _ h (List.getElem?_eq_some_iff.mpr ⟨hn, rfl⟩)⟩
theorem CellR.some {a : Addr} {c : Cell} (h : CellR K F al H a c) : ∃ o, H a = some o := by
  cases c with
  | lst ws => obtain ⟨_, vs, e, _⟩ := h; exact ⟨_, e⟩
  | dct kvs => obtain ⟨_, vs, e, _⟩ := h; exact ⟨_, e⟩
  | dead => exact h
theorem Rel.notMem (R : Rel K F al st H) {p : Addr} (hp : H p = none) : p ∉ al := fun hm => by
  obtain ⟨n, hn, e⟩ := List.getElem_of_mem hm
  obtain ⟨c, _, hc⟩ := R.there (n := n) (a := p) (List.getElem?_eq_some_iff.mpr ⟨hn, e⟩)
  obtain ⟨o, ho⟩ := hc.some
  rw [hp] at ho
  cases ho
theorem Rel.freeF (R : Rel K F al st H) {p : Addr} (hp : H p = none) : F p = none := R.sub.free hp
theorem Rel.ne (R : Rel K F al st H) {p a : Addr} {n : Nat} (hp : H p = none) (ha : al[n]? = some a) : a ≠ p := fun e => by
  subst e
  exact R.notMem hp (List.mem_of_getElem? ha)
theorem Same.upd {p : Addr} {o : HO} (hp : H p = none) : Same H (upd H p o) := fun b u e => by
  rw [upd_ne (ne_of_none e hp)]
  exact e
/-- a cell's relation, elsewhere changed -/
theorem CellR.move {a : Addr} {c : Cell} (h : CellR K F al H a c) (e : Ext F al F' al') (hH : H' a = H a) (hF : F a = none → F' a = none) : CellR K F' al' H' a c := by
  cases c with
  | lst ws =>
    obtain ⟨f, vs, q, r⟩ := h
    exact ⟨hF f, vs, by rw [hH]; exact q, r.mono e⟩
  | dct kvs =>
    obtain ⟨f, vs, q, r⟩ := h
    exact ⟨hF f, vs, by rw [hH]; exact q, KWR.mono e r⟩
  | dead =>
    obtain ⟨o, q⟩ := h
    exact ⟨o, by rw [hH]; exact q⟩
/-- a new object, never to be changed -/
theorem Rel.newD (R : Rel K F al st H) {p : Addr} (hp : H p = none) (o : HO) : Ext F al (L2.upd F p o) al ∧ Rel K (L2.upd F p o) al st (L2.upd H p o) := by
  have x : Ext F al (L2.upd F p o) al := ⟨Same.upd (R.freeF hp), [], by simp⟩
  refine ⟨x, ⟨fun b u e => ?_, R.len, R.nd, fun n a c h1 h2 => ?_⟩⟩
  · by_cases hb : b = p
    · subst hb
      rw [upd_same] at e ⊢
      exact e
    · rw [upd_ne hb] at e ⊢
      exact R.sub _ _ e
  · have hne := R.ne hp h1
    exact (R.cell n a c h1 h2).move x (upd_ne hne) (fun q => by rw [upd_ne hne]; exact q)
/-- a new cell -/
theorem Rel.newC (R : Rel K F al st H) {p : Addr} (hp : H p = none) {o : HO} {c : Cell} (hc : CellR K F al (L2.upd H p o) p c) : Ext F al F (al ++ [p]) ∧ Rel K F (al ++ [p]) (st ++ [c]) (L2.upd H p o) := by
  have x : Ext F al F (al ++ [p]) := ⟨Same.refl _, [p], rfl⟩
  refine ⟨x, ⟨fun b u e => ?_, by simp [R.len], ?_, fun n a d h1 h2 => ?_⟩⟩
  · rw [upd_ne (fun q => by rw [q, R.freeF hp] at e; cases e)]
    exact R.sub _ _ e
  · rw [List.nodup_append]
    refine ⟨R.nd, by simp, fun a ha b hb => ?_⟩
    rw [List.mem_singleton] at hb
    subst hb
    exact fun q => R.notMem hp (q ▸ ha)
  · by_cases hn : n < al.length
    · rw [List.getElem?_append_left hn] at h1
      rw [List.getElem?_append_left (by rw [← R.len]; exact hn)] at h2
      have hne := R.ne hp h1
      exact (R.cell n a d h1 h2).move x (upd_ne hne) (fun q => q)
    · have e1 : n = al.length := by
        have := (List.getElem?_eq_some_iff.mp h1).1
        simp at this
        omega
      subst e1
      rw [List.getElem?_append_right (Nat.le_refl _)] at h1
      rw [R.len, List.getElem?_append_right (Nat.le_refl _)] at h2
      simp at h1 h2
      subst h1 h2
      exact hc.move x rfl (fun q => q)
/-- a cell is changed -/
theorem Rel.setC (R : Rel K F al st H) {n : Nat} {a : Addr} (ha : al[n]? = some a) (hF : F a = none) {o : HO} {c : Cell} (hc : CellR K F al (L2.upd H a o) a c) : Rel K F al (st.set n c) (L2.upd H a o) := by
  refine ⟨fun b u e => ?_, by simp [R.len], R.nd, fun m b d h1 h2 => ?_⟩
  · rw [upd_ne (fun q => by rw [q, hF] at e; cases e)]
    exact R.sub _ _ e
  · have hn : n < st.length := by rw [← R.len]; exact (List.getElem?_eq_some_iff.mp ha).1
    by_cases hm : m = n
    · subst hm
      rw [ha] at h1
      cases h1
      rw [List.getElem?_set_self hn] at h2
      cases h2
      exact hc
    · rw [List.getElem?_set_ne (Ne.symm hm)] at h2
      have hne : b ≠ a := fun q => hm ((List.getElem?_inj (by exact (List.getElem?_eq_some_iff.mp h1).1) R.nd).mp (by rw [h1, ha, q]))
      exact (R.cell m b d h1 h2).move Ext.refl (upd_ne hne) (fun q => q)
/-- a cell that is given up -/
theorem Rel.kill (R : Rel K F al st H) {n : Nat} {a : Addr} {o : HO} (ha : al[n]? = some a) (hF : F a = none) (ho : H a = some o) : Ext F al (L2.upd F a o) al ∧ Rel K (L2.upd F a o) al (st.set n .dead) H := by
  have x : Ext F al (L2.upd F a o) al := ⟨Same.upd hF, [], by simp⟩
  refine ⟨x, fun b u e => ?_, by simp [R.len], R.nd, fun m b d h1 h2 => ?_⟩
  · by_cases hb : b = a
    · subst hb
      rw [upd_same] at e
      rw [ho]
      exact e
    · rw [upd_ne hb] at e
      exact R.sub _ _ e
  · have hn : n < st.length := by rw [← R.len]; exact (List.getElem?_eq_some_iff.mp ha).1
    by_cases hm : m = n
    · subst hm
      rw [ha] at h1
      cases h1
      rw [List.getElem?_set_self hn] at h2
      cases h2
      exact ⟨o, ho⟩
    · rw [List.getElem?_set_ne (Ne.symm hm)] at h2
      have hne : b ≠ a := fun q => hm ((List.getElem?_inj (by exact (List.getElem?_eq_some_iff.mp h1).1) R.nd).mp (by rw [h1, ha, q]))
      exact (R.cell m b d h1 h2).move x rfl (fun q => by rw [upd_ne hne]; exact q)
end

/-! ### outcomes -/
def ExnR (CA : Nat → Addr) (K : Frg) (F : Hp) (cls : Value) (d : Option Addr) (e : Exn) : Prop :=
  cls = .ref (CA e.cls) ∧ match e.fs with
    | none => d = none
    | some fs => ∃ dd us, d = some dd ∧ F dd = some (.xd us) ∧ Paired (fun (p : Str × V) (q : Str × PyData) => p.1 = q.1 ∧ Dq K F p.2 q.2) us fs
/-- what is asked of an outcome -/
def Post {α : Type} (K : Frg) (CA : Nat → Addr) (F : Hp) (al : List Addr) (r : Res α) (ok : Hp → List Addr → Store → Hp → α → Prop) (ex : Value → Option Addr → Hp → Prop) : Prop :=
  match r with
  | .ok x st' => ∀ F' al' H', Ext F al F' al' → Rel K F' al' st' H' → ok F' al' st' H' x
  | .exn e st' => ∀ F' al' H' cls d, Ext F al F' al' → Rel K F' al' st' H' → ExnR CA K F' cls d e → ex cls d H'
  | .bad => False
section
variable {α β : Type} {K : Frg} {CA : Nat → Addr} {F : Hp} {al : List Addr}
theorem Post.at {r : Res α} {ok : Hp → List Addr → Store → Hp → α → Prop} {ex : Value → Option Addr → Hp → Prop} (h : Post K CA F al r ok ex) {F' : Hp} {al' : List Addr} (e : Ext F al F' al') : Post K CA F' al' r ok ex := by
  cases r with
  | ok x st => exact fun F2 al2 H2 x2 R2 => h F2 al2 H2 (e.trans x2) R2
  | exn er st => exact fun F2 al2 H2 cls d x2 R2 q => h F2 al2 H2 cls d (e.trans x2) R2 q
  | bad => exact h
theorem Post.step {r : Res α} {f : α → Store → Res β} {ok : Hp → List Addr → Store → Hp → β → Prop} {ok1 : Hp → List Addr → Store → Hp → α → Prop} {ex : Value → Option Addr → Hp → Prop} (h : Post K CA F al (r.bind f) ok ex)
    (k : ∀ F1 al1 st1 H1 x, Ext F al F1 al1 → Rel K F1 al1 st1 H1 → Post K CA F1 al1 (f x st1) ok ex → ok1 F1 al1 st1 H1 x) : Post K CA F al r ok1 ex := by
  cases r with
  | ok x st =>
    intro F1 al1 H1 e R
    have h' : Post K CA F al (f x st) ok ex := h
    exact k F1 al1 st H1 x e R (h'.at e)
  | exn er st => exact h
  | bad => exact h
theorem Post.imp {r : Res α} {ok ok1 : Hp → List Addr → Store → Hp → α → Prop} {ex ex1 : Value → Option Addr → Hp → Prop} (h : Post K CA F al r ok ex)
    (k : ∀ F1 al1 st1 H1 x, Ext F al F1 al1 → Rel K F1 al1 st1 H1 → ok F1 al1 st1 H1 x → ok1 F1 al1 st1 H1 x) (kx : ∀ cls d H', ex cls d H' → ex1 cls d H') : Post K CA F al r ok1 ex1 := by
  cases r with
  | ok x st => exact fun F1 al1 H1 e R => k F1 al1 st H1 x e R (h F1 al1 H1 e R)
  | exn er st => exact fun F1 al1 H1 cls d e R q => kx _ _ _ (h F1 al1 H1 cls d e R q)
  | bad => exact h
end

/-! ### slots -/
def SlotR (K : Frg) (F : Hp) (al : List Addr) (o : Option V) (e : Option W) : Prop := ∀ w, e = some w → ∃ v, o = some v ∧ WR K F al v w
abbrev EnvR (K : Frg) (F : Hp) (al : List Addr) : L2.St → Env → Prop := Paired (SlotR K F al)
theorem EnvR.mono {K : Frg} {F F' : Hp} {al al' : List Addr} (e : Ext F al F' al') {σ : L2.St} {env : Env} (h : EnvR K F al σ env) : EnvR K F' al' σ env :=
  Paired.mono (fun _ _ q w hw => by obtain ⟨v, h1, h2⟩ := q w hw; exact ⟨v, h1, h2.mono e⟩) h
theorem Paired.getR {α β : Type} {R : α → β → Prop} : ∀ {xs : List α} {ys : List β} {i : Nat} {y : β}, Paired R xs ys → ys[i]? = some y → ∃ x, xs[i]? = some x ∧ R x y
  | _, _, _, _, .nil, e => by simp at e
  | _, _, 0, _, .cons r _, e => by simp at e; subst e; exact ⟨_, rfl, r⟩
  | _, _, i + 1, y, .cons _ t, e => by
    obtain ⟨u, h1, h2⟩ := Paired.getR (i := i) (y := y) t (by simpa using e)
    exact ⟨u, by simpa using h1, h2⟩
theorem Paired.getL {α β : Type} {R : α → β → Prop} : ∀ {xs : List α} {ys : List β} {i : Nat} {x : α}, Paired R xs ys → xs[i]? = some x → ∃ y, ys[i]? = some y ∧ R x y
  | _, _, _, _, .nil, e => by simp at e
  | _, _, 0, _, .cons r _, e => by simp at e; subst e; exact ⟨_, rfl, r⟩
  | _, _, i + 1, y, .cons _ t, e => by
    obtain ⟨u, h1, h2⟩ := Paired.getL (i := i) (x := y) t (by simpa using e)
    exact ⟨u, by simpa using h1, h2⟩
theorem Paired.setB {α β : Type} {R : α → β → Prop} {x : α} {y : β} (r : R x y) : ∀ {xs : List α} {ys : List β} (i : Nat), Paired R xs ys → Paired R (xs.set i x) (ys.set i y)
  | _, _, _, .nil => .nil
  | _, _, 0, .cons _ t => .cons r t
  | _, _, i + 1, .cons q t => .cons q (Paired.setB r i t)
theorem Paired.app {α β : Type} {R : α → β → Prop} : ∀ {xs xs' : List α} {ys ys' : List β}, Paired R xs ys → Paired R xs' ys' → Paired R (xs ++ xs') (ys ++ ys')
  | _, _, _, _, .nil, s => s
  | _, _, _, _, .cons r t, s => .cons r (Paired.app t s)
theorem EnvR.get {K : Frg} {F : Hp} {al : List Addr} {σ : L2.St} {env : Env} (h : EnvR K F al σ env) {i : Nat} {w : W} (e : env[i]? = some (some w)) : ∃ v, σ[i]? = some (some v) ∧ WR K F al v w := by
  obtain ⟨o, h1, h2⟩ := Paired.getR h e
  obtain ⟨v, rfl, h3⟩ := h2 w rfl
  exact ⟨v, h1, h3⟩
theorem EnvR.set {K : Frg} {F : Hp} {al : List Addr} {σ : L2.St} {env : Env} (h : EnvR K F al σ env) {v : V} {w : W} (r : WR K F al v w) (i : Nat) : EnvR K F al (σ.set i (some v)) (env.set i (some w)) :=
  Paired.setB (fun w' e => by cases e; exact ⟨v, rfl, r⟩) i h

/-! ### readings of expressions -/
/-- the reading that a denotation has: Wx is what is wanted of an exception -/
def rdE (K : Frg) (CA : Nat → Addr) (Wx : WX) (c : Ev) : TE := fun σ H Q => ∃ F al env st, Rel K F al st H ∧ EnvR K F al σ env ∧
  Post K CA F al (c env st) (fun F' al' _ H' w => ∀ v, WR K F' al' v w → Q v H') (fun cls d H' => Wx cls d σ H')
/-- the context: classes by number, the wish -/
structure Cxt where
  X : Cx
  CA : Nat → Addr
  Wx : WX
def SE (C : Cxt) (e : Expr) (c : Ev) : Prop := PE C.X e (rdE C.X.K C.CA C.Wx c)
theorem PE.imp {X : Cx} {e : Expr} {t t' : TE} (h : PE X e t) (k : ∀ σ H Q, t' σ H Q → t σ H Q) : PE X e t' :=
  ⟨fun pins s σ H Q I q => h.run pins s σ H Q I (k σ H Q q)⟩
theorem PT.imp {X : Cx} {e : Expr} {t t' : TT} (h : PT X e t) (k : ∀ σ H Q, t' σ H Q → t σ H Q) : PT X e t' :=
  ⟨fun pins s σ H Q I q => h.run pins s σ H Q I (k σ H Q q)⟩
theorem PW.imp {X : Cx} {e : Expr} {t t' : TT} (h : PW X e t) (k : ∀ σ H Q, t' σ H Q → t σ H Q) : PW X e t' :=
  ⟨fun wh pins s σ H Q I q => h.run wh pins s σ H Q I (k σ H Q q)⟩
theorem PA.imp {X : Cx} {es : List Expr} {t t' : TA} (h : PA X es t) (k : ∀ σ H Q, t' σ H Q → t σ H Q) : PA X es t' :=
  ⟨fun pos pins s σ H Q I q => h.run pos pins s σ H Q I (k σ H Q q)⟩
theorem PS.imp {X : Cx} {st : Stmt} {t t' : TS} (h : PS X st t) (k : ∀ D σ H, t' D σ H → t D σ H) : PS X st t' :=
  ⟨fun pins s σ H D I q => h.run pins s σ H D I (k D σ H q)⟩
theorem PSs.imp {X : Cx} {st : List Stmt} {t t' : TS} (h : PSs X st t) (k : ∀ D σ H, t' D σ H → t D σ H) : PSs X st t' :=
  ⟨fun pins s σ H D I q => h.run pins s σ H D I (k D σ H q)⟩

/-- a constant -/
def cst (x : PyData) : Ev := fun _ st => .ok (.d x) st
/-- a name -/
def vr (i : Nat) : Ev := fun env st => match env[i]? with
  | some (some w) => .ok w st
  | _ => .bad
section
variable {C : Cxt}
theorem rd_const {v : V} {x : PyData} (h : ∀ F, Dq C.X.K F v x) : ∀ σ H Q, rdE C.X.K C.CA C.Wx (cst x) σ H Q → tC v σ H Q := by
  rintro σ H Q ⟨F, al, env, st, R, E, h1⟩
  exact h1 F al H Ext.refl R v (h F)
theorem se_int {i : Int} {j pos} : SE C (.Constant (.int i) j pos) (cst (.int i)) := PE.imp pe_int (rd_const fun _ => .int i)
theorem se_bl {b : Bool} {j pos} : SE C (.Constant (.bool b) j pos) (cst (.bool b)) := PE.imp pe_bl (rd_const fun _ => .bl b)
theorem se_non {j pos} : SE C (.Constant .none j pos) (cst .none) := PE.imp pe_non (rd_const fun _ => .non)
theorem se_str {x : Str} {j pos} : SE C (.Constant (.str x) j pos) (cst (.str x)) := PE.imp pe_str (rd_const fun _ => .str x)
theorem rd_vr {i : Nat} : ∀ σ H Q, rdE C.X.K C.CA C.Wx (vr i) σ H Q → tVar i σ H Q := by
  rintro σ H Q ⟨F, al, env, st, R, E, h1⟩
  unfold vr at h1
  split at h1
  · rename_i w hw
    obtain ⟨v, e1, r⟩ := E.get hw
    exact ⟨v, e1, h1 F al H Ext.refl R v r⟩
  · exact h1.elim
theorem se_vr (i : Nat) {x : Str} {pos : Pos} (hN : C.X.N[i]? = some x := by rfl) (hv : Vis C.X.env.scope x := by first | exact Or.inl rfl | exact Or.inr (Or.inl rfl) | exact Or.inr (Or.inr rfl)) (hd : (x == ("__debug__" : Str)) = false := by decide)
    (hcd : (x == ("__classdict__" : Str)) = false := by decide) : SE C (.Name x pos) (vr i) := PE.imp (pe_var hN hv hd hcd) rd_vr
theorem se_glob {x : Str} {v : V} {u : Value} {y : PyData} {pos : Pos} (hm : C.X.mg x = some u) (r : RelV v u) (h : ∀ F, Dq C.X.K F v y) (hg : Gl C.X x := by rfl) (hd : (x == ("__debug__" : Str)) = false := by decide) : SE C (.Name x pos) (cst y) :=
  PE.imp (pe_glob hg hm r hd) (rd_const h)

/-! ### operators by values -/
def bin (f : W → W → Store → Res W) (a b : Ev) : Ev := fun env st => (a env st).bind fun x st1 => (b env st1).bind fun y st2 => f x y st2
def By2 (C : Cxt) (f : W → W → Store → Res W) (r : R2) : Prop := ∀ (F : Hp) (al : List Addr) (st : Store) (H : Hp) (v1 v2 : V) (w1 w2 : W) (Q : VK), Rel C.X.K F al st H → WR C.X.K F al v1 w1 → WR C.X.K F al v2 w2 →
  Post C.X.K C.CA F al (f w1 w2 st) (fun F' al' _ H' w => ∀ v, WR C.X.K F' al' v w → Q v H') (fun _ _ _ => True) → r v1 v2 H Q
theorem rd_bin {f : W → W → Store → Res W} {ca cb : Ev} {r : R2} (hb : By2 C f r) : ∀ σ H Q, rdE C.X.K C.CA C.Wx (bin f ca cb) σ H Q → tOp r (rdE C.X.K C.CA C.Wx ca) (rdE C.X.K C.CA C.Wx cb) σ H Q := by
  rintro σ H Q ⟨F, al, env, st, R, E, h1⟩
  refine ⟨F, al, env, st, R, E, h1.step fun F1 al1 st1 H1 x e1 R1 h2 v rv => ?_⟩
  refine ⟨F1, al1, env, st1, R1, E.mono e1, h2.step fun F2 al2 st2 H2 y e2 R2 h3 u ru => ?_⟩
  exact hb F2 al2 st2 H2 v u x y Q R2 (rv.mono e2) ru (h3.imp (fun _ _ _ _ _ _ _ q => q) fun _ _ _ _ => trivial)
theorem se_bin {f : W → W → Store → Res W} {ca cb : Ev} {r : R2} {op : Operator} {a b : Expr} {pos : Pos} (ho : OpR C.X (binaryOp op) r) (hb : By2 C f r) (ha : SE C a ca) (hc : SE C b cb) : SE C (.BinOp a op b pos) (bin f ca cb) :=
  PE.imp (pe_op ho ha hc) (rd_bin hb)
theorem se_cmp {f : W → W → Store → Res W} {ca cb : Ev} {r : R2} {op : CmpOp} {a b : Expr} {pos : Pos} (ho : OpR C.X (compareOp op) r) (hb : By2 C f r) (ha : SE C a ca) (hc : SE C b cb) (hm : behindInMarks op b = false) : SE C (.Compare a [op] [b] pos) (bin f ca cb) :=
  PE.imp (pe_cmpR ho ha hc hm) (rd_bin hb)
end
end VS

set_option Elab.async false
set_option linter.all false
set_option maxRecDepth 100000
set_option maxHeartbeats 1000000
/-! VS2: operators by values. -/
namespace VS
open PySem PySem.Spec PyProof.Rows L2

/-! ### data without dicts -/
mutual
theorem Dq.plain {K : Frg} {H : Hp} : ∀ (d : PyData) (v : V), Dp K H v d → d.plain = true
  | .none, _, h => by simp [PyData.plain]
  | .bool b, _, h => by simp [PyData.plain]
  | .int i, _, h => by simp [PyData.plain]
  | .str x, _, h => by simp [PyData.plain]
  | .list ds, _, h => by
    cases h with
    | lst hs ha => simp [PyData.plain]; exact Dq.plainAll ds _ ha
  | .tuple ds, _, h => by
    cases h with
    | tup hs ha => simp [PyData.plain]; exact Dq.plainAll ds _ ha
  | .dict _, _, h => by cases h
theorem Dq.plainAll {K : Frg} {H : Hp} : ∀ (ds : List PyData) (vs : List V), DpAll K H vs ds → PyData.plainAll ds = true
  | [], _, h => by simp [PyData.plainAll]
  | d :: ds, _, h => by
    cases h with
    | cons h1 h2 => simp [PyData.plainAll]; exact ⟨Dq.plain d _ h1, Dq.plainAll ds _ h2⟩
end

/-! ### lists of values -/
def allD : List W → Option (List PyData)
  | [] => some []
  | .d x :: r => (allD r).map (x :: ·)
  | _ :: _ => none
theorem allD_map (ds : List PyData) : allD (ds.map W.d) = some ds := by
  induction ds with
  | nil => rfl
  | cons x r ih => simp [allD, ih]
/-- the items of a list -/
def itm (st : Store) : W → Option (List W)
  | .d (.list ds) => some (ds.map W.d)
  | .r ds => some (ds.map W.d)
  | .c n => match st[n]? with
    | some (.lst ws) => some ws
    | _ => none
  | _ => none
def itmT : W → Option (List W)
  | .d (.tuple ds) => some (ds.map W.d)
  | _ => none
/-- a new list: data, if all in it are -/
def mkL (ws : List W) (st : Store) : Res W := match allD ws with
  | some ds => .ok (.d (.list ds)) st
  | none => .ok (.c st.length) (st ++ [.lst ws])
/-- a new list that this program will change -/
def mkC (ws : List W) (st : Store) : Res W := .ok (.c st.length) (st ++ [.lst ws])
def mkT (ws : List W) (st : Store) : Res W := match allD ws with
  | some ds => .ok (.d (.tuple ds)) st
  | none => .bad
/-- a value read whole -/
def rdW (st : Store) : Nat → W → Option PyData
  | _, .d x => some x
  | _, .r xs => some (.list xs)
  | 0, .c _ => none
  | k + 1, .c n => match st[n]? with
    | some (.lst ws) => (ws.mapM (rdW st k)).map .list
    | _ => none

section
variable {K : Frg} {CA : Nat → Addr} {F : Hp} {al : List Addr} {st : Store} {H : Hp}
theorem allD_rel : ∀ {ws : List W} {vs : List V} {ds : List PyData}, WRs K F al vs ws → allD ws = some ds → DqAll K F vs ds
  | [], _, _, r, e => by
    cases r
    cases e
    exact .nil
  | .d x :: ws, _, _, r, e => by
    cases r with
    | cons r1 r2 =>
      cases h : allD ws with
      | none => simp [allD, h] at e
      | some ds =>
        simp [allD, h] at e
        subst e
        exact .cons r1 (allD_rel r2 h)
  | .c n :: ws, _, _, r, e => by simp [allD] at e
  | .r n :: ws, _, _, r, e => by simp [allD] at e
theorem WRs_of_DqAll : ∀ {ds : List PyData} {vs : List V}, DqAll K F vs ds → WRs K F al vs (ds.map W.d)
  | _, _, .nil => .nil
  | _, _, .cons r t => .cons r (WRs_of_DqAll t)
theorem itm_rel (R : Rel K F al st H) {v : V} {w : W} {ws : List W} (r : WR K F al v w) (h : itm st w = some ws) : ∃ a vs, v = .ref a ∧ SqL K H a vs ∧ WRs K F al vs ws := by
  unfold itm at h
  split at h
  · cases h
    cases r with
    | lst h1 h2 => exact ⟨_, _, rfl, SqL.of (R.sub _ _ h1), WRs_of_DqAll h2⟩
  · cases h
    obtain ⟨a, vs, h1, h2, h3⟩ := r
    exact ⟨a, vs, h1, Same.seq R.sub h2, WRs_of_DqAll h3⟩
  · split at h
    · rename_i n _ ws' e
      cases h
      obtain ⟨a, h1, h2⟩ := r
      obtain ⟨_, vs, h3, h4⟩ := R.cell _ _ _ h1 e
      exact ⟨a, vs, h2, SqL.of h3, h4⟩
    · cases h
  · cases h
theorem itmT_rel (R : Rel K F al st H) {v : V} {w : W} {ws : List W} (r : WR K F al v w) (h : itmT w = some ws) : ∃ a vs, v = .ref a ∧ SqT K H a vs ∧ WRs K F al vs ws := by
  unfold itmT at h
  split at h
  · cases h
    cases r with
    | tup h1 h2 => exact ⟨_, _, rfl, Same.tupq R.sub h1, WRs_of_DqAll h2⟩
  · cases h
theorem mkL_post {ws : List W} {vs : List V} {Q : VK} {ex : Value → Option Addr → Hp → Prop} {p : Addr} (R : Rel K F al st H) (r : WRs K F al vs ws)
    (h : Post K CA F al (mkL ws st) (fun F' al' _ H' w => ∀ v, WR K F' al' v w → Q v H') ex) (hp : H p = none) : Q (.ref p) (L2.upd H p (.lst vs)) := by
  unfold mkL at h
  split at h
  · rename_i ds e
    obtain ⟨x, R'⟩ := R.newD hp (.lst vs)
    exact h _ _ _ x R' _ (.lst upd_same (Dq.monoAll x.same _ _ (allD_rel r e)))
  · obtain ⟨x, R'⟩ := R.newC hp (o := .lst vs) (c := .lst ws) ⟨R.freeF hp, vs, upd_same, r⟩
    exact h _ _ _ x R' _ ⟨p, by rw [← R.len]; simp, rfl⟩
theorem mkC_post {ws : List W} {vs : List V} {Q : VK} {ex : Value → Option Addr → Hp → Prop} {p : Addr} (R : Rel K F al st H) (r : WRs K F al vs ws)
    (h : Post K CA F al (mkC ws st) (fun F' al' _ H' w => ∀ v, WR K F' al' v w → Q v H') ex) (hp : H p = none) : Q (.ref p) (L2.upd H p (.lst vs)) := by
  obtain ⟨x, R'⟩ := R.newC hp (o := .lst vs) (c := .lst ws) ⟨R.freeF hp, vs, upd_same, r⟩
  exact h _ _ _ x R' _ ⟨p, by rw [← R.len]; simp, rfl⟩
theorem mkT_post {ws : List W} {vs : List V} {Q : VK} {ex : Value → Option Addr → Hp → Prop} {p : Addr} (R : Rel K F al st H) (r : WRs K F al vs ws)
    (h : Post K CA F al (mkT ws st) (fun F' al' _ H' w => ∀ v, WR K F' al' v w → Q v H') ex) (hp : H p = none) : Q (.ref p) (L2.upd H p (.tup vs)) := by
  unfold mkT at h
  split at h
  · rename_i ds e
    obtain ⟨x, R'⟩ := R.newD hp (.tup vs)
    exact h _ _ _ x R' _ (.tup (SqT.of upd_same) (Dq.monoAll x.same _ _ (allD_rel r e)))
  · exact h.elim
theorem mapM_rel {f : W → Option PyData} (hf : ∀ v w x, WR K F al v w → f w = some x → Dp K H v x) : ∀ {ws : List W} {vs : List V} {ds : List PyData}, WRs K F al vs ws → ws.mapM f = some ds → DpAll K H vs ds
  | [], _, _, r, e => by
    cases r
    simp at e
    subst e
    exact .nil
  | w :: ws, _, _, r, e => by
    cases r with
    | cons r1 r2 =>
      rw [List.mapM_cons] at e
      cases h1 : f w with
      | none => simp [h1] at e
      | some x =>
        cases h2 : ws.mapM f with
        | none => simp [h1, h2] at e
        | some xs =>
          simp [h1, h2] at e
          subst e
          exact .cons (hf _ _ _ r1 h1) (mapM_rel hf r2 h2)
theorem rdW_rel (R : Rel K F al st H) : ∀ (k : Nat) (v : V) (w : W) (x : PyData), WR K F al v w → rdW st k w = some x → Dp K H v x
  | k, v, .d y, x, r, e => by
    have e' : y = x := by cases k <;> simpa [rdW] using e
    subst e'
    exact Dq.dp _ _ (Dq.mono R.sub _ _ r)
  | k, v, .r ys, x, r, e => by
    have e' : PyData.list ys = x := by cases k <;> simpa [rdW] using e
    subst e'
    obtain ⟨a, vs, h1, h2, h3⟩ := r
    subst h1
    exact .lst (Same.seq R.sub h2) (Dq.dpAll _ _ (Dq.monoAll R.sub _ _ h3))
  | 0, v, .c n, x, r, e => by simp [rdW] at e
  | k + 1, v, .c n, x, r, e => by
    unfold rdW at e
    split at e
    · rename_i ws hn
      obtain ⟨a, h1, h2⟩ := r
      subst h2
      obtain ⟨_, vs, h3, h4⟩ := R.cell _ _ _ h1 hn
      cases hm : ws.mapM (rdW st k) with
      | none => simp [hm] at e
      | some ds =>
        simp [hm] at e
        subst e
        exact .lst (SqL.of h3) (mapM_rel (fun v w x => rdW_rel R k v w x) h4 hm)
    · cases e
end
theorem rdW_maps (st : Store) (k : Nat) (ds : List PyData) : (ds.map W.d).mapM (rdW st k) = some ds := by
  induction ds with
  | nil => rfl
  | cons x r ih => cases k <;> simp [List.mapM_cons, rdW, ih]

/-! ### whole numbers -/
def fII (g : Int → Int → PyData) (ok : Int → Int → Bool) : W → W → Store → Res W
  | .d (.int i), .d (.int j), st => if ok i j = true then .ok (.d (g i j)) st else .bad
  | _, _, _ => .bad
section
variable {C : Cxt}
theorem by_II {g : Int → Int → PyData} {ok : Int → Int → Bool} {r : R2} {gv : Int → Int → V} (hg : ∀ i j F, Dq C.X.K F (gv i j) (g i j)) (hr : ∀ i j (H : Hp) (Q : VK), ok i j = true → Q (gv i j) H → r (.int i) (.int j) H Q) : By2 C (fII g ok) r := by
  intro F al st H v1 v2 w1 w2 Q R r1 r2 h
  unfold fII at h
  split at h
  · cases r1
    cases r2
    split at h
    · rename_i hk
      exact hr _ _ _ _ hk (h F al H Ext.refl R _ (hg _ _ _))
    · exact h.elim
  · exact h.elim
def yes2 : Int → Int → Bool := fun _ _ => true
def okMul : Int → Int → Bool := fun i j => decide (-(2 ^ 64) < i ∧ i < 2 ^ 64) || decide (-(2 ^ 64) < j ∧ j < 2 ^ 64) || decide (i.natAbs.log2 + j.natAbs.log2 < 1000000)
def okDiv : Int → Int → Bool := fun _ j => decide (0 < j ∧ j.natAbs.log2 < 9000)
def okMod : Int → Int → Bool := fun _ j => decide (0 < j)
def okPow : Int → Int → Bool := fun i j => decide (0 ≤ j ∧ (Builtin.Int.intBits i : Int) * j ≤ 2 ^ 27)
def okShr : Int → Int → Bool := fun _ j => decide (0 ≤ j)
def fSub := fII (fun i j => .int (i - j)) yes2
def fMul := fII (fun i j => .int (i * j)) okMul
def fDiv := fII (fun i j => .int (i / j)) okDiv
def fMod := fII (fun i j => .int (i % j)) okMod
def fPow := fII (fun i j => .int (i ^ j.toNat)) okPow
def fShr := fII (fun i j => .int (i / 2 ^ j.toNat)) okShr
theorem by_sub : By2 C fSub (rI0 fun i j => .int (i - j)) := by_II (fun _ _ _ => .int _) fun i j H Q _ q => ⟨i, j, rfl, rfl, q⟩
theorem mulR : OpR C.X (binaryOp .Mult) (rI (fun i j => okMul i j = true) fun i j => .int (i * j)) := opI fun i j _ _ _ _ _ hc q => by
  unfold okMul at hc
  rw [Bool.or_eq_true, Bool.or_eq_true, decide_eq_true_eq, decide_eq_true_eq, decide_eq_true_eq] at hc
  rcases hc with (hc | hc) | hc
  · exact mul_int q (CMul.ok (.inl hc))
  · exact mul_int q (CMul.ok (.inr hc))
  · exact mul_int q (CMulW.ok hc)
theorem by_mul : By2 C fMul (rI (fun i j => okMul i j = true) fun i j => .int (i * j)) := by_II (fun _ _ _ => .int _) fun i j H Q hk q => ⟨i, j, rfl, rfl, hk, q⟩
theorem by_div : By2 C fDiv (rI CDivW fun i j => .int (i / j)) := by_II (fun _ _ _ => .int _) fun i j H Q hk q => ⟨i, j, rfl, rfl, of_decide_eq_true (p := 0 < j ∧ j.natAbs.log2 < 9000) hk, q⟩
theorem by_mod : By2 C fMod (rI (fun _ j => 0 < j) fun i j => .int (i % j)) := by_II (fun _ _ _ => .int _) fun i j H Q hk q => ⟨i, j, rfl, rfl, of_decide_eq_true hk, q⟩
theorem powR : OpR C.X (binaryOp .Pow) (rI (fun i j => 0 ≤ j ∧ (Builtin.Int.intBits i : Int) * j ≤ 2 ^ 27) fun i j => .int (i ^ j.toNat)) := opI fun _ _ _ _ _ _ _ hc q => pow_int hc.1 hc.2 q
theorem by_pow : By2 C fPow (rI (fun i j => 0 ≤ j ∧ (Builtin.Int.intBits i : Int) * j ≤ 2 ^ 27) fun i j => .int (i ^ j.toNat)) := by_II (fun _ _ _ => .int _) fun i j H Q hk q => ⟨i, j, rfl, rfl, of_decide_eq_true hk, q⟩
theorem by_shr : By2 C fShr (rI (fun _ j => 0 ≤ j) fun i j => .int (i / 2 ^ j.toNat)) := by_II (fun _ _ _ => .int _) fun i j H Q hk q => ⟨i, j, rfl, rfl, of_decide_eq_true hk, q⟩

/-! ### + -/
def fAdd : W → W → Store → Res W := fun w1 w2 st => match w1, w2 with
  | .d (.int i), .d (.int j) => .ok (.d (.int (i + j))) st
  | .d (.str x), .d (.str y) => if x.length + y.length ≤ sizeLine then .ok (.d (.str (x ++ y))) st else .bad
  | w1, w2 => match itm st w1, itm st w2 with
    | some xs, some ys => if xs.length + ys.length ≤ sizeLine then mkL (xs ++ ys) st else .bad
    | _, _ => .bad
/-- list + list, to be changed -/
def fCatC : W → W → Store → Res W := fun w1 w2 st => match itm st w1, itm st w2 with
    | some xs, some ys => if xs.length + ys.length ≤ sizeLine then mkC (xs ++ ys) st else .bad
    | _, _ => .bad
def rCatS (K : Frg) : R2 := fun x y H Q => ∃ l b xs zs, x = .ref l ∧ y = .ref b ∧ SqL K H l xs ∧ SqL K H b zs ∧ xs.length + zs.length ≤ sizeLine ∧ ∀ p, H p = none → Q (.ref p) (L2.upd H p (.lst (xs ++ zs)))
theorem op_catS {X : Cx} : OpR X (binaryOp .Add) (rCatS X.K) := by
  intro pins s σ H x y v u Q I rx ry h
  obtain ⟨l, b, xs, zs, rfl, rfl, hH, hB, hz, q⟩ := h
  cases rx
  cases ry
  obtain ⟨its, r, ⟨⟨cls, dd, data, sl⟩, n, ho, hc, _, hd⟩, _⟩ := I.list hH
  obtain ⟨its2, r2, ⟨⟨cls2, dd2, data2, sl2⟩, n2, ho2, hc2, _, hd2⟩, _⟩ := I.list hB
  simp only at hc hd hc2 hd2
  subst hc hd hc2 hd2
  have e : its.toArray ++ its2.toArray = (its ++ its2).toArray := by simp
  have hsz : its.toArray.size + its2.toArray.size ≤ sizeLine := by rw [List.size_toArray, List.size_toArray, ← r.length, ← r2.length]; exact hz
  refine concat_meets ⟨_, ho, rfl⟩ ⟨_, ho2, rfl⟩ noFill_list_add seq_list_add PySem.F.slot_list_add PySem.F.entry_list_add (PySem.F.args_list_add_2 _ _) (list_addW l b its.toArray its2.toArray n n2 dd dd2 sl sl2 hsz) ⟨ho, ho2, ?_⟩
  rw [e]
  exact ⟨.ref _, _, L2.Inv.lnew (t' := s.toks) I (r.append r2) (by rw [List.length_append]; exact hz), rfl, q _ (L2.Inv.fresh I)⟩
def rAddS : R2 := fun x y H Q => ∃ i j, x = .str i ∧ y = .str j ∧ i.length + j.length ≤ sizeLine ∧ Q (.str (i ++ j)) H
def rAddA (K : Frg) : R2 := fun x y H Q => ((rI0 fun i j => .int (i + j)) x y H Q ∨ rAddS x y H Q) ∨ rCatS K x y H Q
theorem addR : OpR C.X (binaryOp .Add) (rAddA C.X.K) := OpR.or (OpR.or op_add op_add_str) op_catS
theorem WRs.length {K : Frg} {F : Hp} {al : List Addr} {vs : List V} {ws : List W} (r : WRs K F al vs ws) : vs.length = ws.length := Paired.length r
theorem by_cat {K : Frg} {CA : Nat → Addr} {F : Hp} {al : List Addr} {st : Store} {H : Hp} {v1 v2 : V} {w1 w2 : W} {xs ys : List W} {Q : VK} {mk : List W → Store → Res W} (R : Rel K F al st H) (r1 : WR K F al v1 w1) (r2 : WR K F al v2 w2) (e1 : itm st w1 = some xs) (e2 : itm st w2 = some ys)
    (hz : xs.length + ys.length ≤ sizeLine) (h : ∀ vs p, WRs K F al vs (xs ++ ys) → H p = none → Q (.ref p) (L2.upd H p (.lst vs))) : rCatS K v1 v2 H Q := by
  obtain ⟨a, vs, rfl, s1, q1⟩ := itm_rel R r1 e1
  obtain ⟨b, us, rfl, s2, q2⟩ := itm_rel R r2 e2
  exact ⟨a, b, vs, us, rfl, rfl, s1, s2, by rw [q1.length, q2.length]; exact hz, fun p hp => h _ p (Paired.app q1 q2) hp⟩
theorem by_add : By2 C fAdd (rAddA C.X.K) := by
  intro F al st H v1 v2 w1 w2 Q R r1 r2 h
  unfold fAdd at h
  split at h
  · cases r1
    cases r2
    exact .inl (.inl ⟨_, _, rfl, rfl, h F al H Ext.refl R _ (.int _)⟩)
  · cases r1
    cases r2
    split at h
    · rename_i hk
      exact .inl (.inr ⟨_, _, rfl, rfl, hk, h F al H Ext.refl R _ (.str _)⟩)
    · exact h.elim
  · split at h
    · rename_i xs ys e1 e2
      split at h
      · rename_i hk
        exact .inr (by_cat (CA := C.CA) (mk := mkL) R r1 r2 e1 e2 hk fun vs p r hp => mkL_post R r h hp)
      · exact h.elim
    · exact h.elim
theorem by_catC : By2 C fCatC (rAddA C.X.K) := by
  intro F al st H v1 v2 w1 w2 Q R r1 r2 h
  unfold fCatC at h
  split at h
  · rename_i xs ys e1 e2
    split at h
    · rename_i hk
      exact .inr (by_cat (CA := C.CA) (mk := mkC) R r1 r2 e1 e2 hk fun vs p r hp => mkC_post R r h hp)
    · exact h.elim
  · exact h.elim

/-! ### list * int -/
def fRepW (mk : List W → Store → Res W) : W → W → Store → Res W := fun w1 w2 st => match w1, w2 with
  | .d (.list ds), .d (.int k) => if k < 2 ^ 63 ∧ -(2 ^ 63) ≤ k ∧ ds.length * k.toNat ≤ sizeLine then mk ((List.replicate k.toNat (ds.map W.d)).flatten) st else .bad
  | _, _ => .bad
def fRep := fRepW mkL
def fRepC := fRepW mkC
theorem WRs.rep {K : Frg} {F : Hp} {al : List Addr} {vs : List V} {ws : List W} (r : WRs K F al vs ws) : ∀ k : Nat, WRs K F al (List.replicate k vs).flatten (List.replicate k ws).flatten
  | 0 => .nil
  | k + 1 => by
    rw [List.replicate_succ, List.replicate_succ, List.flatten_cons, List.flatten_cons]
    exact Paired.app r (WRs.rep r k)
theorem by_repW {mk : List W → Store → Res W} (hm : ∀ {F : Hp} {al : List Addr} {st : Store} {H : Hp} {ws : List W} {vs : List V} {Q : VK} {p : Addr}, Rel C.X.K F al st H → WRs C.X.K F al vs ws →
    Post C.X.K C.CA F al (mk ws st) (fun F' al' _ H' w => ∀ v, WR C.X.K F' al' v w → Q v H') (fun _ _ _ => True) → H p = none → Q (.ref p) (L2.upd H p (.lst vs))) : By2 C (fRepW mk) rRep := by
  intro F al st H v1 v2 w1 w2 Q R r1 r2 h
  unfold fRepW at h
  split at h
  · split at h
    · rename_i hk
      cases r2
      cases r1 with
      | lst h1 h2 =>
        refine ⟨_, _, _, rfl, rfl, R.sub _ _ h1, hk.2.1, hk.1, by rw [h2.length]; exact hk.2.2, fun p hp => ?_⟩
        exact hm R (WRs.rep (WRs_of_DqAll h2) _) h hp
    · exact h.elim
  · exact h.elim
theorem by_rep : By2 C fRep rRep := by_repW fun R r h hp => mkL_post R r h hp
theorem by_repC : By2 C fRepC rRep := by_repW fun R r h hp => mkC_post R r h hp

/-! ### comparisons -/
/-- what may be asked of data, kept small -/
def okEq (x y : PyData) : Bool := decide (min x.depth y.depth ≤ 60)
def fEq (neg : Bool) : W → W → Store → Res W := fun w1 w2 st => match rdW st 6 w1, rdW st 6 w2 with
  | some x, some y => if okEq x y = true then .ok (.d (.bool (neg != PyData.eqv x y))) st else .bad
  | _, _ => .bad
def rEqP (K : Frg) (neg : Bool) : R2 := fun x y H Q => ∃ d e, Dp K H x d ∧ Dp K H y e ∧ okEq d e = true ∧ Q (.bl (neg != PyData.eqv d e)) H
theorem op_eqP (hu : C.X.A.units + 64 < cLine) : OpR C.X (compareOp .Eq) (rEqP C.X.K false) := by
  intro pins s σ H x y v u Q I rx ry h
  obtain ⟨d, e, hd, he, ok, q⟩ := h
  obtain ⟨as, r1⟩ := Dp.reads I d x v hd rx
  obtain ⟨bs, r2⟩ := Dp.reads I e y u he ry
  have hk : min d.depth e.depth ≤ 60 := of_decide_eq_true ok
  exact SeqAt.eq_plain r1 r2 (Dq.plain _ _ hd) (Dq.plain _ _ he) (by omega) ⟨.bl _, H, I, by cases PyData.eqv d e <;> rfl, q⟩
theorem op_neP (hu : C.X.A.units + 64 < cLine) : OpR C.X (compareOp .NotEq) (rEqP C.X.K true) := by
  intro pins s σ H x y v u Q I rx ry h
  obtain ⟨d, e, hd, he, ok, q⟩ := h
  obtain ⟨as, r1⟩ := Dp.reads I d x v hd rx
  obtain ⟨bs, r2⟩ := Dp.reads I e y u he ry
  have hk : min d.depth e.depth ≤ 60 := of_decide_eq_true ok
  exact SeqAt.ne_plain r1 r2 (Dq.plain _ _ hd) (Dq.plain _ _ he) (by omega) ⟨.bl _, H, I, by cases PyData.eqv d e <;> rfl, q⟩
theorem by_eq (neg : Bool) : By2 C (fEq neg) (rEqP C.X.K neg) := by
  intro F al st H v1 v2 w1 w2 Q R r1 r2 h
  unfold fEq at h
  split at h
  · rename_i x y e1 e2
    split at h
    · rename_i hk
      exact ⟨x, y, rdW_rel R _ _ _ _ r1 e1, rdW_rel R _ _ _ _ r2 e2, hk, h F al H Ext.refl R _ (.bl _)⟩
    · exact h.elim
  · exact h.elim
/-- <, >, <=, >= of data that are alike -/
def notNone : PyData → Bool
  | .none => false
  | _ => true
def okLt (x y : PyData) : Bool := PySem.W.alike x y && notNone x && decide (min x.depth y.depth ≤ 60)
theorem okLt_of {x y : PyData} (h : okLt x y = true) : PySem.W.alike x y = true ∧ x ≠ .none ∧ min x.depth y.depth ≤ 60 := by
  unfold okLt at h
  rw [Bool.and_eq_true, Bool.and_eq_true, decide_eq_true_eq] at h
  refine ⟨h.1.1, ?_, h.2⟩
  rintro rfl
  exact absurd h.1.2 (by simp [notNone])
def fOrd (g : PyData → PyData → Bool) : W → W → Store → Res W := fun w1 w2 st => match rdW st 6 w1, rdW st 6 w2 with
  | some x, some y => if okLt x y = true then .ok (.d (.bool (g x y))) st else .bad
  | _, _ => .bad
def fLt := fOrd fun x y => PySem.W.dataLt x y
def fGt := fOrd fun x y => PySem.W.dataLt y x
def fLe := fOrd fun x y => !PySem.W.dataLt y x
def fGe := fOrd fun x y => !PySem.W.dataLt x y
def rOrd (K : Frg) (g : PyData → PyData → Bool) : R2 := fun x y H Q => ∃ d e, Dp K H x d ∧ Dp K H y e ∧ okLt d e = true ∧ Q (.bl (g d e)) H
theorem by_ord (g : PyData → PyData → Bool) : By2 C (fOrd g) (rOrd C.X.K g) := by
  intro F al st H v1 v2 w1 w2 Q R r1 r2 h
  unfold fOrd at h
  split at h
  · rename_i x y e1 e2
    split at h
    · rename_i hk
      exact ⟨x, y, rdW_rel R _ _ _ _ r1 e1, rdW_rel R _ _ _ _ r2 e2, hk, h F al H Ext.refl R _ (.bl _)⟩
    · exact h.elim
  · exact h.elim
theorem op_ord {op : CmpOp} {g : PyData → PyData → Bool} (hu : C.X.A.units + 64 < cLine)
    (rule : ∀ {s : Shared} {a b : Value} {da db : PyData} {as bs : List Addr} {Q : Value → Shared → Prop}, Reads s.heap a da as → Reads s.heap b db bs → PySem.W.alike da db = true → da ≠ .none → C.X.A.units + min da.depth db.depth < cLine → Q (.bool (g da db)) s →
      wpAny (model C.X.prog C.X.w) C.X.A (compareOp op a b) Q C.X.xe s) : OpR C.X (compareOp op) (rOrd C.X.K g) := by
  intro pins s σ H x y v u Q I rx ry h
  obtain ⟨d, e, hd, he, ok, q⟩ := h
  obtain ⟨as, r1⟩ := Dp.reads I d x v hd rx
  obtain ⟨bs, r2⟩ := Dp.reads I e y u he ry
  obtain ⟨k1, k2, k3⟩ := okLt_of ok
  exact rule r1 r2 k1 k2 (by omega) ⟨.bl _, H, I, rfl, q⟩
theorem op_ltP (hu : C.X.A.units + 64 < cLine) : OpR C.X (compareOp .Lt) (rOrd C.X.K fun x y => PySem.W.dataLt x y) := op_ord hu fun a b c d e f => PySem.W.lt_data a b c d e f
theorem op_gtP (hu : C.X.A.units + 64 < cLine) : OpR C.X (compareOp .Gt) (rOrd C.X.K fun x y => PySem.W.dataLt y x) := op_ord hu fun a b c d e f => PySem.W.gt_data a b c d e f
theorem op_leP (hu : C.X.A.units + 64 < cLine) : OpR C.X (compareOp .LtE) (rOrd C.X.K fun x y => !PySem.W.dataLt y x) := op_ord hu fun a b c d e f => PySem.W.le_data a b c d e f
theorem op_geP (hu : C.X.A.units + 64 < cLine) : OpR C.X (compareOp .GtE) (rOrd C.X.K fun x y => !PySem.W.dataLt x y) := op_ord hu fun a b c d e f => PySem.W.ge_data a b c d e f

/-! ### is None -/
def fIsN (neg : Bool) : W → W → Store → Res W := fun w1 w2 st => match w1, w2 with
  | .d .none, .d .none => .ok (.d (.bool (!neg))) st
  | _, .d .none => .ok (.d (.bool neg)) st
  | _, _ => .bad
theorem WR.notN {K : Frg} {F : Hp} {al : List Addr} {v : V} {w : W} (r : WR K F al v w) (h : w ≠ .d .none) : v ≠ .non := by
  rintro rfl
  cases w with
  | d x => cases r; exact h rfl
  | c n => obtain ⟨a, _, e⟩ := r; cases e
  | r xs => obtain ⟨a, _, e, _⟩ := r; cases e
def rIsN (neg : Bool) : R2 := fun x y H Q => y = .non ∧ Q (.bl (neg != decide (x = .non))) H
theorem by_isN (neg : Bool) : By2 C (fIsN neg) (rIsN neg) := by
  intro F al st H v1 v2 w1 w2 Q R r1 r2 h
  unfold fIsN at h
  split at h
  · cases r1
    cases r2
    refine ⟨rfl, ?_⟩
    have := h F al H Ext.refl R _ (.bl _)
    cases neg <;> exact this
  · cases r2
    refine ⟨rfl, ?_⟩
    rename_i hn
    have hv := r1.notN (fun e => hn e)
    rw [decide_eq_false hv]
    have := h F al H Ext.refl R _ (.bl _)
    cases neg <;> exact this
  · exact h.elim
theorem op_isP : OpR C.X (compareOp .Is) (rIsN false) := by
  intro pins s σ H x y v u Q I rx ry h
  obtain ⟨e, q⟩ := h
  exact op_isN pins s σ H x y v u Q I rx ry ⟨e, by cases hd : decide (x = V.non) <;> rw [hd] at q <;> exact q⟩
theorem op_isnotP : OpR C.X (compareOp .IsNot) (rIsN true) := by
  intro pins s σ H x y v u Q I rx ry h
  obtain ⟨e, q⟩ := h
  exact op_notN pins s σ H x y v u Q I rx ry ⟨e, by cases hd : decide (x = V.non) <;> rw [hd] at q <;> exact q⟩

/-! ### in -/
def keyOf : W → Option Key
  | .d (.int i) => some (.inl i)
  | .d (.str x) => some (.inr x)
  | _ => none
def kget (kvs : List (Key × W)) (k : Key) : Option W := (kvs.find? fun kv => decide (kv.1 = k)).map (·.2)
theorem keyOf_rel {K : Frg} {F : Hp} {al : List Addr} {v : V} {w : W} {k : Key} (r : WR K F al v w) (h : keyOf w = some k) : v = kV k := by
  unfold keyOf at h
  split at h
  · cases h; cases r; rfl
  · cases h; cases r; rfl
  · cases h
theorem kget_rel {K : Frg} {F : Hp} {al : List Addr} (k : Key) : ∀ {us : List (Key × V)} {kvs : List (Key × W)}, KWR K F al us kvs → (kget kvs k = none ∧ valV us k = none) ∨ ∃ w v, kget kvs k = some w ∧ valV us k = some v ∧ WR K F al v w
  | _, _, .nil => .inl ⟨rfl, rfl⟩
  | (k1, v1) :: us, (k2, w2) :: kvs, .cons ⟨e, r⟩ t => by
    have e' : k1 = k2 := e
    subst e'
    by_cases h : k1 = k
    · refine .inr ⟨w2, v1, by simp [kget, List.find?_cons, h], valV_pos h, r⟩
    · have h1 : kget ((k1, w2) :: kvs) k = kget kvs k := by simp [kget, List.find?_cons, h]
      have h2 : valV ((k1, v1) :: us) k = valV us k := valV_neg h
      rw [h1, h2]
      exact kget_rel k t
def inD (x : PyData) (ys : List PyData) : Bool := ys.any fun y => PyData.eqv y x
def okIn (x : PyData) (ys : List PyData) : Bool := decide (min (PyData.depthAll ys) x.depth ≤ 60)
def fIn (neg : Bool) : W → W → Store → Res W := fun w1 w2 st => match w2 with
  | .c n => match st[n]? with
    | some (.dct kvs) => match keyOf w1 with
      | some k => .ok (.d (.bool (neg != (kget kvs k).isSome))) st
      | none => .bad
    | _ => match rdW st 6 w1, rdW st 6 (.c n) with
      | some x, some (.list ys) => if okIn x ys = true then .ok (.d (.bool (neg != inD x ys))) st else .bad
      | _, _ => .bad
  | .d (.str z) => match w1 with
    | .d (.str x) => match x.cps.toList with
      | [c] => .ok (.d (.bool (neg != decide (c ∈ z.cps.toList)))) st
      | _ => .bad
    | _ => .bad
  | .d (.tuple ys) => match rdW st 6 w1 with
      | some x => if okIn x ys = true then .ok (.d (.bool (neg != inD x ys))) st else .bad
      | _ => .bad
  | w2 => match rdW st 6 w1, rdW st 6 w2 with
      | some x, some (.list ys) => if okIn x ys = true then .ok (.d (.bool (neg != inD x ys))) st else .bad
      | _, _ => .bad
/-- what is asked of x in y -/
def rInA (K : Frg) (neg : Bool) : R2 := fun x y H Q =>
  (∃ d ys, Dp K H x d ∧ (Dp K H y (.list ys) ∨ Dp K H y (.tuple ys)) ∧ okIn d ys = true ∧ Q (.bl (neg != inD d ys)) H) ∨
  (∃ (c : Nat) (z : Str), x = .str ⟨#[c]⟩ ∧ y = .str z ∧ Q (.bl (neg != decide (c ∈ z.cps.toList))) H)
theorem op_inA (hu : C.X.A.units + 64 < cLine) : OpR C.X (compareOp .In) (rInA C.X.K false) := by
  intro pins s σ H x y v u Q I rx ry h
  rcases h with ⟨d, ys, hd, hy, ok, q⟩ | ⟨c, z, e1, e2, q⟩
  · obtain ⟨as, r1⟩ := Dp.reads I d x v hd rx
    have hk : min (PyData.depthAll ys) d.depth ≤ 60 := of_decide_eq_true ok
    have pd := Dq.plain _ _ hd
    have fin : EP C.X pins σ Q (.bool (ys.any fun y => PyData.eqv y d)) s := ⟨.bl _, H, I, by show _ = _; rfl, by cases e : inD d ys <;> simp [e] at q <;> (unfold inD at e; rw [e]; exact q)⟩
    rcases hy with hy | hy
    · obtain ⟨bs, r2⟩ := Dp.reads I _ y u hy ry
      have pp := Dq.plain _ _ hy
      exact SeqAt.in_list_data r2 r1 (by simpa [PyData.plain] using pp) pd (by omega) fin
    · obtain ⟨bs, r2⟩ := Dp.reads I _ y u hy ry
      have pp := Dq.plain _ _ hy
      exact SeqAt.in_tuple_data r2 r1 (by simpa [PyData.plain] using pp) pd (by omega) fin
  · exact op_in_sign pins s σ H x y v u Q I rx ry ⟨c, z, e1, e2, by rw [Bool.false_bne] at q; exact q⟩
theorem op_notInA (hu : C.X.A.units + 64 < cLine) : OpR C.X (compareOp .NotIn) (rInA C.X.K true) := by
  intro pins s σ H x y v u Q I rx ry h
  rcases h with ⟨d, ys, hd, hy, ok, q⟩ | ⟨c, z, e1, e2, q⟩
  · obtain ⟨as, r1⟩ := Dp.reads I d x v hd rx
    have hk : min (PyData.depthAll ys) d.depth ≤ 60 := of_decide_eq_true ok
    have pd := Dq.plain _ _ hd
    have fin : EP C.X pins σ Q (.bool (!ys.any fun y => PyData.eqv y d)) s := ⟨.bl _, H, I, by show _ = _; rfl, by cases e : inD d ys <;> simp [e] at q <;> (unfold inD at e; rw [e]; exact q)⟩
    rcases hy with hy | hy
    · obtain ⟨bs, r2⟩ := Dp.reads I _ y u hy ry
      have pp := Dq.plain _ _ hy
      exact SeqAt.notIn_list_data r2 r1 (by simpa [PyData.plain] using pp) pd (by omega) fin
    · obtain ⟨bs, r2⟩ := Dp.reads I _ y u hy ry
      have pp := Dq.plain _ _ hy
      exact SeqAt.notIn_tuple_data r2 r1 (by simpa [PyData.plain] using pp) pd (by omega) fin
  · exact op_notIn_sign pins s σ H x y v u Q I rx ry ⟨c, z, e1, e2, by rw [Bool.true_bne] at q; exact q⟩
theorem PE.or {X : Cx} {e : Expr} {t t' : TE} (h : PE X e t) (h' : PE X e t') : PE X e (fun σ H Q => t σ H Q ∨ t' σ H Q) :=
  ⟨fun pins s σ H Q I q => q.elim (h.run pins s σ H Q I) (h'.run pins s σ H Q I)⟩
theorem PT.or {X : Cx} {e : Expr} {t t' : TT} (h : PT X e t) (h' : PT X e t') : PT X e (fun σ H Q => t σ H Q ∨ t' σ H Q) :=
  ⟨fun pins s σ H Q I q => q.elim (h.run pins s σ H Q I) (h'.run pins s σ H Q I)⟩
/-- the dict's own rule asks that of key and dict -/
def rInK (neg : Bool) : R2 := fun y x H Q => ∃ a o, x = .ref a ∧ DGet H a y o ∧ Q (.bl (neg != o.isSome)) H
theorem op_inK (hu : C.X.A.units + 64 < cLine) : OpR C.X (compareOp .In) (rInK false) := by
  intro pins s σ H x y v u Q I rx ry h
  obtain ⟨a, o, rfl, g, q⟩ := h
  cases ry
  exact d_in (by omega) I g rx fun s' I' => ⟨.bl _, H, I', rfl, by cases e : o.isSome <;> simp [e] at q <;> exact q⟩
theorem op_notInK (hu : C.X.A.units + 64 < cLine) : OpR C.X (compareOp .NotIn) (rInK true) := by
  intro pins s σ H x y v u Q I rx ry h
  obtain ⟨a, o, rfl, g, q⟩ := h
  cases ry
  exact d_notIn (by omega) I g rx fun s' I' => ⟨.bl _, H, I', rfl, by cases e : o.isSome <;> simp [e] at q <;> exact q⟩
def rInAll (K : Frg) (neg : Bool) : R2 := fun x y H Q => rInK neg x y H Q ∨ rInA K neg x y H Q
theorem inR (hu : C.X.A.units + 64 < cLine) : OpR C.X (compareOp .In) (rInAll C.X.K false) := OpR.or (op_inK hu) (op_inA hu)
theorem notInR (hu : C.X.A.units + 64 < cLine) : OpR C.X (compareOp .NotIn) (rInAll C.X.K true) := OpR.or (op_notInK hu) (op_notInA hu)
theorem dct_get {K : Frg} {F : Hp} {al : List Addr} {st : Store} {H : Hp} (R : Rel K F al st H) {n : Nat} {v : V} {kvs : List (Key × W)} (r : WR K F al v (.c n)) (hn : st[n]? = some (.dct kvs)) : ∃ a us, v = .ref a ∧ al[n]? = some a ∧ F a = none ∧ H a = some (.dK us) ∧ KWR K F al us kvs := by
  obtain ⟨a, h1, h2⟩ := r
  obtain ⟨h3, us, h4, h5⟩ := R.cell _ _ _ h1 hn
  exact ⟨a, us, h2, h1, h3, h4, h5⟩
theorem by_in (neg : Bool) : By2 C (fIn neg) (rInAll C.X.K neg) := by
  intro F al st H v1 v2 w1 w2 Q R r1 r2 h
  unfold fIn at h
  split at h
  · split at h
    · rename_i n _ kvs hn
      split at h
      · rename_i k hk
        obtain ⟨a, us, rfl, _, _, h4, h5⟩ := dct_get R r2 hn
        refine .inl ⟨a, valV us k, rfl, by rw [keyOf_rel r1 hk]; exact DGet.k h4, ?_⟩
        have e : (kget kvs k).isSome = (valV us k).isSome := by
          rcases kget_rel k h5 with ⟨e1, e2⟩ | ⟨w, v, e1, e2, _⟩ <;> rw [e1, e2] <;> rfl
        rw [← e]
        exact h F al H Ext.refl R _ (.bl _)
      · exact h.elim
    · split at h
      · rename_i x ys e1 e2
        split at h
        · rename_i hk
          exact .inr (.inl ⟨x, ys, rdW_rel R _ _ _ _ r1 e1, .inl (rdW_rel R _ _ _ _ r2 e2), hk, h F al H Ext.refl R _ (.bl _)⟩)
        · exact h.elim
      · exact h.elim
  · split at h
    · rename_i x
      split at h
      · rename_i c hc
        cases r1
        cases r2
        refine .inr (.inr ⟨c, _, ?_, rfl, h F al H Ext.refl R _ (.bl _)⟩)
        rw [PySem.W.str_of_cps (x := x) (y := ⟨#[c]⟩) (by rw [hc])]
      · exact h.elim
    · exact h.elim
  · split at h
    · rename_i x e1
      split at h
      · rename_i hk
        exact .inr (.inl ⟨x, _, rdW_rel R _ _ _ _ r1 e1, .inr (Dq.dp _ _ (Dq.mono R.sub _ _ r2)), hk, h F al H Ext.refl R _ (.bl _)⟩)
      · exact h.elim
    · exact h.elim
  · split at h
    · rename_i x ys e1 e2
      split at h
      · rename_i hk
        exact .inr (.inl ⟨x, ys, rdW_rel R _ _ _ _ r1 e1, .inl (rdW_rel R _ _ _ _ r2 e2), hk, h F al H Ext.refl R _ (.bl _)⟩)
      · exact h.elim
    · exact h.elim
end
end VS

set_option Elab.async false
set_option linter.all false
set_option maxRecDepth 100000
set_option maxHeartbeats 1000000
/-! VS3: tests, displays, subscripts, slices, calls of built-ins, methods. -/
namespace VS
open PySem PySem.Spec PyProof.Rows L2

/-! ### outcomes, with the equation -/
theorem Post.stepE {α β : Type} {K : Frg} {CA : Nat → Addr} {F : Hp} {al : List Addr} {r : Res α} {f : α → Store → Res β} {ok : Hp → List Addr → Store → Hp → β → Prop} {ok1 : Hp → List Addr → Store → Hp → α → Prop} {ex : Value → Option Addr → Hp → Prop} (h : Post K CA F al (r.bind f) ok ex)
    (k : ∀ F1 al1 st1 H1 x, r = .ok x st1 → Ext F al F1 al1 → Rel K F1 al1 st1 H1 → Post K CA F1 al1 (f x st1) ok ex → ok1 F1 al1 st1 H1 x) : Post K CA F al r ok1 ex := by
  cases r with
  | ok x st =>
    intro F1 al1 H1 e R
    have h' : Post K CA F al (f x st) ok ex := h
    exact k F1 al1 st H1 x rfl e R (h'.at e)
  | exn er st => exact h
  | bad => exact h

/-! ### tests -/
abbrev Tst := Env → Store → Res Bool
def rdT (K : Frg) (CA : Nat → Addr) (Wx : WX) (c : Tst) : TT := fun σ H Q => ∃ F al env st, Rel K F al st H ∧ EnvR K F al σ env ∧
  Post K CA F al (c env st) (fun _ _ _ H' b => Q b H') (fun cls d H' => Wx cls d σ H')
def ST (C : Cxt) (e : Expr) (c : Tst) : Prop := PT C.X e (rdT C.X.K C.CA C.Wx c)
def SW (C : Cxt) (e : Expr) (c : Tst) : Prop := PW C.X e (rdT C.X.K C.CA C.Wx c)
def truW (st : Store) : W → Option Bool
  | .d .none => some false
  | .d (.bool b) => some b
  | .d (.int i) => some (i != 0)
  | .d (.str x) => if x.length ≤ sizeLine then some ((x.length : Int) != 0) else none
  | .d (.list xs) => some (!xs.isEmpty)
  | .d (.tuple xs) => some (!xs.isEmpty)
  | .r xs => some (!xs.isEmpty)
  | .c n => match st[n]? with
    | some (.lst ws) => some (!ws.isEmpty)
    | some (.dct ws) => some (!ws.isEmpty)
    | _ => none
  | _ => none
def tru (a : Ev) : Tst := fun env st => (a env st).bind fun w st1 => match truW st1 w with
  | some b => .ok b st1
  | none => .bad
/-- a test of a truth value -/
def boo (a : Ev) : Tst := fun env st => (a env st).bind fun w st1 => match w with
  | .d (.bool b) => .ok b st1
  | _ => .bad
def tAndD (a b : Tst) : Tst := fun env st => (a env st).bind fun x st1 => if x = true then b env st1 else .ok false st1
def tOrD (a b : Tst) : Tst := fun env st => (a env st).bind fun x st1 => if x = true then .ok true st1 else b env st1
def tNotD (a : Tst) : Tst := fun env st => (a env st).bind fun x st1 => .ok (!x) st1
section
variable {C : Cxt}
theorem isEmpty_paired {α β : Type} {R : α → β → Prop} {xs : List α} {ys : List β} (r : Paired R xs ys) : xs.isEmpty = ys.isEmpty := by cases r <;> rfl
theorem truW_rel {K : Frg} {F : Hp} {al : List Addr} {st : Store} {H : Hp} (R : Rel K F al st H) {v : V} {w : W} {b : Bool} (r : WR K F al v w) (h : truW st w = some b) : TruV K v H b := by
  unfold truW at h
  split at h
  · cases h; cases r; exact rfl
  · cases h; cases r; exact rfl
  · cases h; cases r; exact rfl
  · cases r
    split at h
    · rename_i hk
      cases h
      exact ⟨hk, rfl⟩
    · cases h
  · cases h
    cases r with
    | lst h1 h2 => exact .inl ⟨_, SqL.of (R.sub _ _ h1), by rw [← isEmpty_paired (DqAll.paired h2)]⟩
  · cases h
    cases r with
    | tup h1 h2 => exact .inr (.inl ⟨_, Same.tupq R.sub h1, by rw [← isEmpty_paired (DqAll.paired h2)]⟩)
  · cases h
    obtain ⟨a, vs, rfl, h2, h3⟩ := r
    exact .inl ⟨_, Same.seq R.sub h2, by rw [← isEmpty_paired (DqAll.paired h3)]⟩
  · obtain ⟨a, h1, rfl⟩ := r
    split at h
    · rename_i hn
      cases h
      obtain ⟨_, vs, h3, h4⟩ := R.cell _ _ _ h1 hn
      exact .inl ⟨_, SqL.of h3, by rw [isEmpty_paired h4]⟩
    · rename_i hn
      cases h
      obtain ⟨_, vs, h3, h4⟩ := R.cell _ _ _ h1 hn
      exact .inr (.inr ⟨_, h3, by rw [isEmpty_paired h4]⟩)
    · cases h
  · cases h
theorem st_tru {a : Expr} {ca : Ev} (ha : SE C a ca) (he : ∀ whole, isTrue a C.X.env whole = (do let v ← whole; standAt a.pos; holding [v] (truthy v)) := by intro _; rfl) : ST C a (tru ca) :=
  PT.imp (pt_truth ha he) fun σ H Q => by
    rintro ⟨F, al, env, st, R, E, h1⟩
    refine ⟨F, al, env, st, R, E, h1.step fun F1 al1 st1 H1 x e1 R1 h2 v rv => ?_⟩
    split at h2
    · rename_i b hb
      exact ⟨b, truW_rel R1 rv hb, h2 _ _ _ Ext.refl R1⟩
    · exact h2.elim
theorem st_boo {a : Expr} {ca : Ev} (ha : SE C a ca) (he : ∀ whole, isTrue a C.X.env whole = (do let v ← whole; standAt a.pos; holding [v] (truthy v)) := by intro _; rfl) : ST C a (boo ca) :=
  PT.imp (pt_val ha he) fun σ H Q => by
    rintro ⟨F, al, env, st, R, E, h1⟩
    refine ⟨F, al, env, st, R, E, h1.step fun F1 al1 st1 H1 x e1 R1 h2 v rv => ?_⟩
    split at h2
    · cases rv
      exact ⟨_, rfl, h2 _ _ _ Ext.refl R1⟩
    · exact h2.elim
theorem st_cmp {f : W → W → Store → Res W} {ca cb : Ev} {r : R2} {op : CmpOp} {a b : Expr} {pos : Pos} (ho : OpR C.X (compareOp op) r) (hb : By2 C f r) (ha : SE C a ca) (hc : SE C b cb) (hm : behindInMarks op b = false) : ST C (.Compare a [op] [b] pos) (boo (bin f ca cb)) :=
  PT.imp (pt_cmpR ho ha hc hm) fun σ H Q => by
    rintro ⟨F, al, env, st, R, E, h1⟩
    refine rd_bin hb σ H _ ⟨F, al, env, st, R, E, h1.step fun F1 al1 st1 H1 x e1 R1 h2 v rv => ?_⟩
    split at h2
    · cases rv
      exact ⟨_, rfl, h2 _ _ _ Ext.refl R1⟩
    · exact h2.elim
theorem SW.pt {e : Expr} {c : Tst} (h : SW C e c) : ST C e c := PW.pt h
theorem sw_and1 {a : Expr} {c : Tst} {pos : Pos} (h : ST C a c) : SW C (.BoolOp .And [a] pos) c := pw_and1 h
theorem sw_or1 {a : Expr} {c : Tst} {pos : Pos} (h : ST C a c) : SW C (.BoolOp .Or [a] pos) c := pw_or1 h
theorem sw_and {a b : Expr} {rest : List Expr} {c d : Tst} {pos : Pos} (ha : ST C a c) (hb : SW C (.BoolOp .And (b :: rest) pos) d) : SW C (.BoolOp .And (a :: b :: rest) pos) (tAndD c d) :=
  PW.imp (pw_and ha hb) fun σ H Q => by
    rintro ⟨F, al, env, st, R, E, h1⟩
    refine ⟨F, al, env, st, R, E, h1.step fun F1 al1 st1 H1 x e1 R1 h2 => ?_⟩
    cases x with
    | true => exact iteT ⟨F1, al1, env, st1, R1, E.mono e1, h2⟩
    | false => exact iteF (h2 _ _ _ Ext.refl R1)
theorem sw_or {a b : Expr} {rest : List Expr} {c d : Tst} {pos : Pos} (ha : ST C a c) (hb : SW C (.BoolOp .Or (b :: rest) pos) d) : SW C (.BoolOp .Or (a :: b :: rest) pos) (tOrD c d) :=
  PW.imp (pw_or ha hb) fun σ H Q => by
    rintro ⟨F, al, env, st, R, E, h1⟩
    refine ⟨F, al, env, st, R, E, h1.step fun F1 al1 st1 H1 x e1 R1 h2 => ?_⟩
    cases x with
    | true => exact iteT (h2 _ _ _ Ext.refl R1)
    | false => exact iteF ⟨F1, al1, env, st1, R1, E.mono e1, h2⟩
theorem st_not {a : Expr} {c : Tst} {pos : Pos} (ha : ST C a c) : ST C (.UnaryOp .Not a pos) (tNotD c) :=
  PT.imp (pt_not ha) fun σ H Q => by
    rintro ⟨F, al, env, st, R, E, h1⟩
    exact ⟨F, al, env, st, R, E, h1.step fun F1 al1 st1 H1 x e1 R1 h2 => h2 _ _ _ Ext.refl R1⟩

/-! ### chains of two comparisons -/
def chn (f g : W → W → Store → Res W) (a b c : Ev) : Ev := fun env st => (a env st).bind fun x st1 => (b env st1).bind fun y st2 => (f x y st2).bind fun r st3 => match r with
  | .d (.bool true) => (c env st3).bind fun z st4 => g y z st4
  | .d (.bool false) => .ok (.d (.bool false)) st3
  | _ => .bad
/-! ### and, or, not as values -/
def vAnd (a b : Ev) : Ev := fun env st => (a env st).bind fun x st1 => match x with
  | .d (.bool true) => b env st1
  | .d (.bool false) => .ok (.d (.bool false)) st1
  | _ => .bad
def vOr (a b : Ev) : Ev := fun env st => (a env st).bind fun x st1 => match x with
  | .d (.bool false) => b env st1
  | .d (.bool true) => .ok (.d (.bool true)) st1
  | _ => .bad
def vNot (a : Ev) : Ev := fun env st => (a env st).bind fun x st1 => match x with
  | .d (.bool b) => .ok (.d (.bool (!b))) st1
  | _ => .bad
def vIf (t : Tst) (a b : Ev) : Ev := fun env st => (t env st).bind fun x st1 => if x = true then a env st1 else b env st1
theorem se_one {op} {a : Expr} {c : Ev} {pos : Pos} (h : SE C a c) : SE C (.BoolOp op [a] pos) c := pe_one h
theorem se_and {a b : Expr} {rest : List Expr} {c d : Ev} {pos : Pos} (ha : SE C a c) (hb : SE C (.BoolOp .And (b :: rest) pos) d) : SE C (.BoolOp .And (a :: b :: rest) pos) (vAnd c d) :=
  PE.imp (pe_and ha hb) fun σ H Q => by
    rintro ⟨F, al, env, st, R, E, h1⟩
    refine ⟨F, al, env, st, R, E, h1.step fun F1 al1 st1 H1 x e1 R1 h2 v rv => ?_⟩
    split at h2
    · cases rv
      exact ⟨_, rfl, iteT ⟨F1, al1, env, st1, R1, E.mono e1, h2⟩⟩
    · cases rv
      exact ⟨_, rfl, iteF (h2 _ _ _ Ext.refl R1 _ (.bl _))⟩
    · exact h2.elim
theorem se_or {a b : Expr} {rest : List Expr} {c d : Ev} {pos : Pos} (ha : SE C a c) (hb : SE C (.BoolOp .Or (b :: rest) pos) d) : SE C (.BoolOp .Or (a :: b :: rest) pos) (vOr c d) :=
  PE.imp (pe_or ha hb) fun σ H Q => by
    rintro ⟨F, al, env, st, R, E, h1⟩
    refine ⟨F, al, env, st, R, E, h1.step fun F1 al1 st1 H1 x e1 R1 h2 v rv => ?_⟩
    split at h2
    · cases rv
      exact ⟨_, rfl, iteF ⟨F1, al1, env, st1, R1, E.mono e1, h2⟩⟩
    · cases rv
      exact ⟨_, rfl, iteT (h2 _ _ _ Ext.refl R1 _ (.bl _))⟩
    · exact h2.elim
theorem se_not {a : Expr} {c : Ev} {pos : Pos} (ha : SE C a c) : SE C (.UnaryOp .Not a pos) (vNot c) :=
  PE.imp (pe_not ha) fun σ H Q => by
    rintro ⟨F, al, env, st, R, E, h1⟩
    refine ⟨F, al, env, st, R, E, h1.step fun F1 al1 st1 H1 x e1 R1 h2 v rv => ?_⟩
    split at h2
    · cases rv
      exact ⟨_, rfl, h2 _ _ _ Ext.refl R1 _ (.bl _)⟩
    · exact h2.elim
theorem se_if {t a b : Expr} {ct : Tst} {ca cb : Ev} {pos : Pos} (ht : ST C t ct) (ha : SE C a ca) (hb : SE C b cb) : SE C (.IfExp t a b pos) (vIf ct ca cb) :=
  PE.imp (pe_ifExp ht ha hb) fun σ H Q => by
    rintro ⟨F, al, env, st, R, E, h1⟩
    refine ⟨F, al, env, st, R, E, h1.step fun F1 al1 st1 H1 x e1 R1 h2 => ?_⟩
    cases x with
    | true => exact iteT ⟨F1, al1, env, st1, R1, E.mono e1, h2⟩
    | false => exact iteF ⟨F1, al1, env, st1, R1, E.mono e1, h2⟩
theorem rd_chn {f g : W → W → Store → Res W} {ca cb cc : Ev} {r r' : R2} (hf : By2 C f r) (hg : By2 C g r') : ∀ σ H Q, rdE C.X.K C.CA C.Wx (chn f g ca cb cc) σ H Q → tChain r r' (rdE C.X.K C.CA C.Wx ca) (rdE C.X.K C.CA C.Wx cb) (rdE C.X.K C.CA C.Wx cc) σ H Q := by
  rintro σ H Q ⟨F, al, env, st, R, E, h1⟩
  refine ⟨F, al, env, st, R, E, h1.step fun F1 al1 st1 H1 x e1 R1 h2 v rv => ?_⟩
  refine ⟨F1, al1, env, st1, R1, E.mono e1, h2.step fun F2 al2 st2 H2 y e2 R2 h3 u ru => ?_⟩
  refine hf F2 al2 st2 H2 v u x y _ R2 (rv.mono e2) ru ((h3.step fun F3 al3 st3 H3 z e3 R3 h4 t rt => ?_).imp (fun _ _ _ _ _ _ _ q => q) fun _ _ _ _ => trivial)
  split at h4
  · cases rt
    refine ⟨true, rfl, iteT ⟨F3, al3, env, st3, R3, E.mono (e1.trans (e2.trans e3)), h4.step fun F4 al4 st4 H4 z e4 R4 h5 q rq => ?_⟩⟩
    exact hg F4 al4 st4 H4 u q y z Q R4 (ru.mono (e3.trans e4)) rq (h5.imp (fun _ _ _ _ _ _ _ q => q) fun _ _ _ _ => trivial)
  · cases rt
    exact ⟨false, rfl, iteF (h4 _ _ _ Ext.refl R3 _ (.bl _))⟩
  · exact h4.elim
theorem se_chn {f g : W → W → Store → Res W} {ca cb cc : Ev} {r r' : R2} {op op' : CmpOp} {a b c : Expr} {pos : Pos} (ho : OpR C.X (compareOp op) r) (ho' : OpR C.X (compareOp op') r') (hf : By2 C f r) (hg : By2 C g r') (ha : SE C a ca) (hb : SE C b cb) (hc : SE C c cc)
    (h : PE C.X (.Compare a [op, op'] [b, c] pos) (tChain r r' (rdE C.X.K C.CA C.Wx ca) (rdE C.X.K C.CA C.Wx cb) (rdE C.X.K C.CA C.Wx cc))) : SE C (.Compare a [op, op'] [b, c] pos) (chn f g ca cb cc) :=
  PE.imp h (rd_chn hf hg)

/-! ### unary minus -/
def vNeg (a : Ev) : Ev := fun env st => (a env st).bind fun x st1 => match x with
  | .d (.int i) => .ok (.d (.int (-i))) st1
  | _ => .bad
theorem se_neg {a : Expr} {c : Ev} {pos : Pos} (ha : SE C a c) : SE C (.UnaryOp .USub a pos) (vNeg c) :=
  PE.imp (pe_un un_neg ha) fun σ H Q => by
    rintro ⟨F, al, env, st, R, E, h1⟩
    refine ⟨F, al, env, st, R, E, h1.step fun F1 al1 st1 H1 x e1 R1 h2 v rv => ?_⟩
    split at h2
    · cases rv
      exact ⟨_, rfl, h2 _ _ _ Ext.refl R1 _ (.int _)⟩
    · exact h2.elim
end

/-! ### arguments -/
abbrev Av := Env → Store → Res (List W)
def rdA (K : Frg) (CA : Nat → Addr) (Wx : WX) (c : Av) : TA := fun σ H Q => ∃ F al env st, Rel K F al st H ∧ EnvR K F al σ env ∧
  Post K CA F al (c env st) (fun F' al' _ H' ws => ∀ vs, WRs K F' al' vs ws → Q vs H') (fun cls d H' => Wx cls d σ H')
structure SA (C : Cxt) (es : List Expr) (c : Av) : Prop where
  pa : PA C.X es (rdA C.X.K C.CA C.Wx c)
  len : ∀ env st ws st', c env st = .ok ws st' → ws.length = es.length
def aNil : Av := fun _ st => .ok [] st
def aCons (a : Ev) (r : Av) : Av := fun env st => (a env st).bind fun x st1 => (r env st1).bind fun xs st2 => .ok (x :: xs) st2
section
variable {C : Cxt}
theorem sa_nil : SA C [] aNil := ⟨PA.imp pa_nil fun σ H Q => by
  rintro ⟨F, al, env, st, R, E, h1⟩
  exact h1 _ _ _ Ext.refl R _ .nil, fun env st ws st' e => by cases e; rfl⟩
theorem sa_cons {e : Expr} {es : List Expr} {ce : Ev} {cs : Av} (ha : SE C e ce) (hr : SA C es cs) (hs : starEach (e :: es) C.X.env = (false, eval e C.X.env) :: starEach es C.X.env := by rfl) : SA C (e :: es) (aCons ce cs) := by
  refine ⟨PA.imp (pa_cons ha hr.pa hs) fun σ H Q => ?_, fun env st ws st' e => ?_⟩
  · rintro ⟨F, al, env, st, R, E, h1⟩
    refine ⟨F, al, env, st, R, E, h1.step fun F1 al1 st1 H1 x e1 R1 h2 v rv => ?_⟩
    refine ⟨F1, al1, env, st1, R1, E.mono e1, h2.step fun F2 al2 st2 H2 y e2 R2 h3 u ru => ?_⟩
    exact h3 _ _ _ Ext.refl R2 _ (.cons (rv.mono e2) ru)
  · unfold aCons at e
    cases h : ce env st with
    | ok x st1 =>
      cases h2 : cs env st1 with
      | ok xs st2 =>
        simp [h, h2, Res.bind] at e
        rw [← e.1, List.length_cons, List.length_cons, hr.len _ _ _ _ h2]
      | exn _ _ => simp [h, h2, Res.bind] at e
      | bad => simp [h, h2, Res.bind] at e
    | exn _ _ => simp [h, Res.bind] at e
    | bad => simp [h, Res.bind] at e

/-! ### displays -/
def lstD (a : Av) : Ev := fun env st => (a env st).bind fun ws st1 => mkL ws st1
def lstC (a : Av) : Ev := fun env st => (a env st).bind fun ws st1 => mkC ws st1
def tupD (a : Av) : Ev := fun env st => (a env st).bind fun ws st1 => mkT ws st1
theorem rd_disp {mk : List W → Store → Res W} {es : List Expr} {c : Av} {ho : List V → HO} (hm : ∀ {F : Hp} {al : List Addr} {st : Store} {H : Hp} {ws : List W} {vs : List V} {Q : VK} {ex : Value → Option Addr → Hp → Prop} {p : Addr}, Rel C.X.K F al st H → WRs C.X.K F al vs ws →
    Post C.X.K C.CA F al (mk ws st) (fun F' al' _ H' w => ∀ v, WR C.X.K F' al' v w → Q v H') ex → H p = none → Q (.ref p) (L2.upd H p (ho vs))) (ha : SA C es c) (hl : es.length ≤ sizeLine) :
    ∀ σ H Q, rdE C.X.K C.CA C.Wx (fun env st => (c env st).bind fun ws st1 => mk ws st1) σ H Q → rdA C.X.K C.CA C.Wx c σ H fun xs H1 => xs.length ≤ sizeLine ∧ ∀ p, H1 p = none → Q (.ref p) (L2.upd H1 p (ho xs)) := by
  rintro σ H Q ⟨F, al, env, st, R, E, h1⟩
  refine ⟨F, al, env, st, R, E, h1.stepE fun F1 al1 st1 H1 x eq e1 R1 h2 vs rv => ?_⟩
  exact ⟨by rw [rv.length, ha.len _ _ _ _ eq]; exact hl, fun p hp => hm R1 rv h2 hp⟩
theorem se_lst {es : List Expr} {c : Av} {pos : Pos} (ha : SA C es c) (hl : es.length ≤ sizeLine := by show _ ≤ 16777216; decide) : SE C (.List es pos) (lstD c) := PE.imp (pe_lst ha.pa) (rd_disp (fun R r h hp => mkL_post R r h hp) ha hl)
theorem se_lstC {es : List Expr} {c : Av} {pos : Pos} (ha : SA C es c) (hl : es.length ≤ sizeLine := by show _ ≤ 16777216; decide) : SE C (.List es pos) (lstC c) := PE.imp (pe_lst ha.pa) (rd_disp (fun R r h hp => mkC_post R r h hp) ha hl)
theorem se_tup {es : List Expr} {c : Av} {x1} {pos : Pos} (ha : SA C es c) (hl : es.length ≤ sizeLine := by show _ ≤ 16777216; decide) : SE C (.Tuple es x1 pos) (tupD c) := PE.imp (pe_tup ha.pa) (rd_disp (fun R r h hp => mkT_post R r h hp) ha hl)
/-- {} -/
def dctC : Ev := fun _ st => .ok (.c st.length) (st ++ [.dct []])
theorem se_dct {pos : Pos} : SE C (.Dict [] [] pos) dctC := PE.imp pe_dnewK fun σ H Q => by
  rintro ⟨F, al, env, st, R, E, h1⟩
  intro p hp
  obtain ⟨x, R'⟩ := R.newC hp (o := .dK []) (c := .dct []) ⟨R.freeF hp, [], upd_same, .nil⟩
  exact h1 _ _ _ x R' _ ⟨p, by rw [← R.len]; simp, rfl⟩

/-! ### subscripts -/
def strAt (x : Str) (i : Int) : Option PyData := (atI x.cps.toList i).map fun c => .str ⟨#[c]⟩
def fIx : W → W → Store → Res W := fun w1 w2 st => match w1 with
  | .d (.str x) => match w2 with
    | .d (.int i) => if x.length ≤ sizeLine then (match strAt x i with | some y => .ok (.d y) st | none => .bad) else .bad
    | _ => .bad
  | .d (.tuple ds) => match w2 with
    | .d (.int i) => match atI ds i with | some y => .ok (.d y) st | none => .bad
    | _ => .bad
  | .c n => match st[n]? with
    | some (.dct kvs) => match keyOf w2 with
      | some k => match kget kvs k with | some w => .ok w st | none => .bad
      | none => .bad
    | some (.lst ws) => match w2 with
      | .d (.int i) => match atI ws i with | some w => .ok w st | none => .bad
      | _ => .bad
    | _ => .bad
  | .d (.list ds) => match w2 with
    | .d (.int i) => match atI ds i with | some y => .ok (.d y) st | none => .bad
    | _ => .bad
  | .r ds => match w2 with
    | .d (.int i) => match atI ds i with | some y => .ok (.d y) st | none => .bad
    | _ => .bad
  | _ => .bad
theorem Paired.atI {α β : Type} {R : α → β → Prop} {xs : List α} {ys : List β} {i : Int} {y : β} (r : Paired R xs ys) (h : L2.atI ys i = some y) : ∃ x, L2.atI xs i = some x ∧ R x y := by
  unfold L2.atI at h ⊢
  rw [r.length]
  cases e : ixN ys.length i with
  | none => rw [e] at h; cases h
  | some j =>
    rw [e] at h
    obtain ⟨x, h1, h2⟩ := Paired.getR r (show ys[j]? = some y from h)
    exact ⟨x, h1, h2⟩
def rIxK : R2 := fun x y H Q => ∃ a v, x = .ref a ∧ DGet H a y (some v) ∧ Q v H
theorem rd_ix {ca cb : Ev} : ∀ σ H Q, rdE C.X.K C.CA C.Wx (bin fIx ca cb) σ H Q → tOp (rIx C.X.K) (rdE C.X.K C.CA C.Wx ca) (rdE C.X.K C.CA C.Wx cb) σ H Q ∨ tDGet (rdE C.X.K C.CA C.Wx ca) (rdE C.X.K C.CA C.Wx cb) σ H Q := by
  rintro σ H Q ⟨F, al, env, st, R, E, h1⟩
  by_cases hd : ∃ x st1 y st2 n kvs, ca env st = .ok x st1 ∧ cb env st1 = .ok y st2 ∧ x = .c n ∧ st2[n]? = some (.dct kvs)
  · obtain ⟨x, st1, y, st2, n, kvs, e1, e2, rfl, e4⟩ := hd
    refine .inr ⟨F, al, env, st, R, E, h1.stepE fun F1 al1 st1' H1 x' eq x1 R1 h2 v rv => ?_⟩
    rw [e1] at eq
    cases eq
    refine ⟨F1, al1, env, st1, R1, E.mono x1, h2.stepE fun F2 al2 st2' H2 y' eq x2 R2 h3 u ru => ?_⟩
    rw [e2] at eq
    cases eq
    obtain ⟨a, us, rfl, q1, q2, q3, q4⟩ := dct_get R2 (rv.mono x2) e4
    unfold fIx at h3
    simp only [e4] at h3
    split at h3
    · rename_i k hk
      split at h3
      · rename_i w hw
        rcases kget_rel k q4 with ⟨z, _⟩ | ⟨w', v', z1, z2, z3⟩
        · rw [z] at hw; cases hw
        · rw [z1] at hw
          cases hw
          exact ⟨a, v', rfl, by rw [keyOf_rel ru hk, ← z2]; exact DGet.k q3, h3 _ _ _ Ext.refl R2 _ z3⟩
      · exact h3.elim
    · exact h3.elim
  · refine .inl ⟨F, al, env, st, R, E, h1.stepE fun F1 al1 st1 H1 x eqx e1 R1 h2 v rv => ?_⟩
    refine ⟨F1, al1, env, st1, R1, E.mono e1, h2.stepE fun F2 al2 st2 H2 y eqy e2 R2 h3 u ru => ?_⟩
    have rv' := rv.mono e2
    unfold fIx at h3
    split at h3
    · split at h3
      · cases rv
        cases ru
        split at h3
        · rename_i hk
          split at h3
          · rename_i y' hy
            unfold strAt at hy
            rw [Option.map_eq_some_iff] at hy
            obtain ⟨c, hc, rfl⟩ := hy
            exact .inr (.inr ⟨_, _, c, rfl, rfl, hk, hc, h3 _ _ _ Ext.refl R2 _ (.str _)⟩)
          · exact h3.elim
        · exact h3.elim
      · exact h3.elim
    · split at h3
      · cases ru
        split at h3
        · rename_i y' hy
          cases rv' with
          | tup q1 q2 =>
            obtain ⟨x', z1, z2⟩ := Paired.atI (DqAll.paired q2) hy
            exact .inr (.inl ⟨_, _, _, x', rfl, rfl, Same.tupq R2.sub q1, z1, h3 _ _ _ Ext.refl R2 _ z2⟩)
        · exact h3.elim
      · exact h3.elim
    · split at h3
      · rename_i n kvs hn
        exact (hd ⟨_, _, _, _, _, _, eqx, eqy, rfl, hn⟩).elim
      · rename_i n ws hn
        split at h3
        · cases ru
          split at h3
          · rename_i w hw
            obtain ⟨a, z1, rfl⟩ := rv'
            obtain ⟨_, vs, z3, z4⟩ := R2.cell _ _ _ z1 hn
            obtain ⟨x', y1, y2⟩ := Paired.atI z4 hw
            exact .inl ⟨_, _, _, x', rfl, rfl, SqL.of z3, y1, h3 _ _ _ Ext.refl R2 _ y2⟩
          · exact h3.elim
        · exact h3.elim
      · exact h3.elim
    · split at h3
      · cases ru
        split at h3
        · rename_i y' hy
          cases rv' with
          | lst q1 q2 =>
            obtain ⟨x', z1, z2⟩ := Paired.atI (DqAll.paired q2) hy
            exact .inl ⟨_, _, _, x', rfl, rfl, SqL.of (R2.sub _ _ q1), z1, h3 _ _ _ Ext.refl R2 _ z2⟩
        · exact h3.elim
      · exact h3.elim
    · split at h3
      · cases ru
        split at h3
        · rename_i y' hy
          obtain ⟨a, vs, rfl, q1, q2⟩ := rv'
          obtain ⟨x', z1, z2⟩ := Paired.atI (DqAll.paired q2) hy
          exact .inl ⟨_, _, _, x', rfl, rfl, Same.seq R2.sub q1, z1, h3 _ _ _ Ext.refl R2 _ z2⟩
        · exact h3.elim
      · exact h3.elim
    · exact h3.elim
theorem se_ix {a b : Expr} {ca cb : Ev} {pos : Pos} (hu : C.X.A.units + 64 < cLine) (ha : SE C a ca) (hb : SE C b cb) (hs : PlainIx b := by exact fun _ _ => rfl) (hs2 : NoSl b := by exact fun _ _ => rfl) : SE C (.Subscript a b pos) (bin fIx ca cb) :=
  PE.imp (PE.or (pe_ix ix_seq ha hb hs) (pe_dget (by omega) ha hb hs2)) rd_ix
end
end VS

set_option Elab.async false
set_option linter.all false
set_option maxRecDepth 100000
set_option maxHeartbeats 1000000
/-! VS4: statements, targets, defs, calls. -/
namespace VS
open PySem PySem.Spec PyProof.Rows L2

inductive Fl where
  | nx (env : Env) (st : Store)
  | rt (w : W) (st : Store)
  | bk (env : Env) (st : Store)
  | ct (env : Env) (st : Store)
  | ex (e : Exn) (env : Env) (st : Store)
  | bad
abbrev Sd := Env → Store → Fl
def FPost (K : Frg) (CA : Nat → Addr) (F : Hp) (al : List Addr) (r : Fl) (D : Ends) (Wx : WX) : Prop :=
  match r with
  | .nx env st => ∀ F' al' σ' H', Ext F al F' al' → Rel K F' al' st H' → EnvR K F' al' σ' env → D.nx σ' H'
  | .rt w st => ∀ F' al' H' v, Ext F al F' al' → Rel K F' al' st H' → WR K F' al' v w → D.rt v H'
  | .bk env st => ∀ F' al' σ' H', Ext F al F' al' → Rel K F' al' st H' → EnvR K F' al' σ' env → D.bk σ' H'
  | .ct env st => ∀ F' al' σ' H', Ext F al F' al' → Rel K F' al' st H' → EnvR K F' al' σ' env → D.ct σ' H'
  | .ex e env st => ∀ F' al' σ' H' cls d, Ext F al F' al' → Rel K F' al' st H' → EnvR K F' al' σ' env → ExnR CA K F' cls d e → Wx cls d σ' H'
  | .bad => False
def rdS (K : Frg) (CA : Nat → Addr) (Wx : WX) (c : Sd) : TS := fun D σ H => ∃ F al env st, Rel K F al st H ∧ EnvR K F al σ env ∧ FPost K CA F al (c env st) D Wx
def SS (C : Cxt) (s : Stmt) (c : Sd) : Prop := PS C.X s (rdS C.X.K C.CA C.Wx c)
def SSs (C : Cxt) (s : List Stmt) (c : Sd) : Prop := PSs C.X s (rdS C.X.K C.CA C.Wx c)
theorem FPost.at {K : Frg} {CA : Nat → Addr} {F F' : Hp} {al al' : List Addr} {r : Fl} {D : Ends} {Wx : WX} (h : FPost K CA F al r D Wx) (e : Ext F al F' al') : FPost K CA F' al' r D Wx := by
  cases r with
  | nx env st => exact fun F2 al2 σ H x => h F2 al2 σ H (e.trans x)
  | rt w st => exact fun F2 al2 H v x => h F2 al2 H v (e.trans x)
  | bk env st => exact fun F2 al2 σ H x => h F2 al2 σ H (e.trans x)
  | ct env st => exact fun F2 al2 σ H x => h F2 al2 σ H (e.trans x)
  | ex er env st => exact fun F2 al2 σ H c d x => h F2 al2 σ H c d (e.trans x)
  | bad => exact h
/-- an expression, then a statement's end -/
def Res.fl {α : Type} (r : Res α) (env : Env) (k : α → Store → Fl) : Fl := match r with
  | .ok x st => k x st
  | .exn e st => .ex e env st
  | .bad => .bad
theorem FPost.step {α : Type} {K : Frg} {CA : Nat → Addr} {F : Hp} {al : List Addr} {r : Res α} {σ : L2.St} {env : Env} {k : α → Store → Fl} {D : Ends} {Wx : WX} {ok1 : Hp → List Addr → Store → Hp → α → Prop} (E : EnvR K F al σ env) (h : FPost K CA F al (r.fl env k) D Wx)
    (hk : ∀ F1 al1 st1 H1 x, r = .ok x st1 → Ext F al F1 al1 → Rel K F1 al1 st1 H1 → EnvR K F1 al1 σ env → FPost K CA F1 al1 (k x st1) D Wx → ok1 F1 al1 st1 H1 x) : Post K CA F al r ok1 (fun cls d H' => Wx cls d σ H') := by
  cases r with
  | ok x st =>
    intro F1 al1 H1 e R
    have h' : FPost K CA F al (k x st) D Wx := h
    exact hk F1 al1 st H1 x rfl e R (E.mono e) (h'.at e)
  | exn er st => exact fun F1 al1 H1 cls d e R q => h F1 al1 σ H1 cls d e R (E.mono e) q
  | bad => exact h

def sq (a b : Sd) : Sd := fun env st => match a env st with
  | .nx env1 st1 => b env1 st1
  | r => r
def skip : Sd := fun env st => .nx env st
def brk : Sd := fun env st => .bk env st
def cnt : Sd := fun env st => .ct env st
def drp (a : Ev) : Sd := fun env st => (a env st).fl env fun _ st1 => .nx env st1
def asg (i : Nat) (a : Ev) : Sd := fun env st => (a env st).fl env fun w st1 => .nx (env.set i (some w)) st1
def ret (a : Ev) : Sd := fun env st => (a env st).fl env fun w st1 => .rt w st1
def retN : Sd := fun _ st => .rt (.d .none) st
def ifS (t : Tst) (a b : Sd) : Sd := fun env st => (t env st).fl env fun x st1 => if x = true then a env st1 else b env st1
section
variable {C : Cxt} {s : Stmt} {r : List Stmt} {a b : Sd} {e : Expr} {c : Ev} {pos : Pos}
theorem ss_nil : SSs C [] skip := PSs.imp pss_nil fun D σ H => by
  rintro ⟨F, al, env, st, R, E, h⟩
  exact h _ _ _ _ Ext.refl R E
theorem ss_cons (h1 : SS C s a) (h2 : SSs C r b) : SSs C (s :: r) (sq a b) := PSs.imp (pss_cons h1 h2) fun D σ H => by
  rintro ⟨F, al, env, st, R, E, h⟩
  refine ⟨F, al, env, st, R, E, ?_⟩
  unfold sq at h
  split at h
  · rename_i env1 st1 e1
    rw [e1]
    exact fun F' al' σ' H' x R' E' => ⟨F', al', env1, st1, R', E', h.at x⟩
  · rename_i hn
    revert h hn
    cases a env st with
    | nx e1 s1 => exact fun hn _ => (hn _ _ rfl).elim
    | rt w s1 => exact fun _ h => h
    | bk e1 s1 => exact fun _ h => h
    | ct e1 s1 => exact fun _ h => h
    | ex er e1 s1 => exact fun _ h => h
    | bad => exact fun _ h => h
theorem ss_one (h1 : SS C s a) : SSs C [s] a := pss_one h1
theorem ss_pass : SS C (.Pass pos) skip := PS.imp ps_pass fun D σ H => by
  rintro ⟨F, al, env, st, R, E, h⟩
  exact h _ _ _ _ Ext.refl R E
theorem ss_brk : SS C (.Break pos) brk := PS.imp ps_break fun D σ H => by
  rintro ⟨F, al, env, st, R, E, h⟩
  exact h _ _ _ _ Ext.refl R E
theorem ss_cnt : SS C (.Continue pos) cnt := PS.imp ps_continue fun D σ H => by
  rintro ⟨F, al, env, st, R, E, h⟩
  exact h _ _ _ _ Ext.refl R E
theorem ss_drp (he : SE C e c) (hs : swapsWith e none pos.line C.X.env = pure false := by rfl) : SS C (.Expr e pos) (drp c) := PS.imp (ps_expr he hs) fun D σ H => by
  rintro ⟨F, al, env, st, R, E, h⟩
  exact ⟨F, al, env, st, R, E, FPost.step E h fun F1 al1 st1 H1 x eq e1 R1 E1 h1 v rv => h1 _ _ _ _ Ext.refl R1 E1⟩
theorem ss_asg {i : Nat} {x : Str} {pos' : Pos} (nd : C.X.N.Nodup) (he : SE C e c) (hi : C.X.N[i]? = some x := by rfl) (hx : Loc C.X.env.scope x := by first | exact Or.inl rfl | exact Or.inr rfl) (hs : swapsWith e (some (.Name x pos')) pos.line C.X.env = pure false := by rfl)
    (hf : C.X.fn x = true ∨ C.X.env.scope.names.lookup x = some .local := by first | exact .inl rfl | exact .inr rfl) : SS C (.Assign [.Name x pos'] e pos) (asg i c) := PS.imp (ps_set nd hi hx he hs hf) fun D σ H => by
  rintro ⟨F, al, env, st, R, E, h⟩
  exact ⟨F, al, env, st, R, E, FPost.step E h fun F1 al1 st1 H1 x eq e1 R1 E1 h1 v rv => h1 _ _ _ _ Ext.refl R1 (E1.set rv i)⟩
theorem ss_ret (he : SE C e c) : SS C (.Return (some e) pos) (ret c) := PS.imp (ps_ret he) fun D σ H => by
  rintro ⟨F, al, env, st, R, E, h⟩
  exact ⟨F, al, env, st, R, E, FPost.step E h fun F1 al1 st1 H1 x eq e1 R1 E1 h1 v rv => h1 _ _ _ _ Ext.refl R1 rv⟩
theorem ss_retN : SS C (.Return none pos) retN := PS.imp ps_retN fun D σ H => by
  rintro ⟨F, al, env, st, R, E, h⟩
  exact h _ _ _ _ Ext.refl R .non
theorem ss_if {t : Expr} {ct : Tst} {sa sb : List Stmt} (ht : ST C t ct) (ha : SSs C sa a) (hb : SSs C sb b) : SS C (.If t sa sb pos) (ifS ct a b) := PS.imp (ps_if ht ha hb) fun D σ H => by
  rintro ⟨F, al, env, st, R, E, h⟩
  refine ⟨F, al, env, st, R, E, FPost.step E h fun F1 al1 st1 H1 x eq e1 R1 E1 h1 => ?_⟩
  cases x with
  | true => exact iteT ⟨F1, al1, env, st1, R1, E1, h1⟩
  | false => exact iteF ⟨F1, al1, env, st1, R1, E1, h1⟩
end

/-! ### targets -/
abbrev Tg := W → Env → Store → Option (Env × Store)
def GPost (K : Frg) (F : Hp) (al : List Addr) (r : Option (Env × Store)) (Q : L2.St → Hp → Prop) : Prop := match r with
  | some (env, st) => ∀ F' al' σ' H', Ext F al F' al' → Rel K F' al' st H' → EnvR K F' al' σ' env → Q σ' H'
  | none => False
def rdG (K : Frg) (g : Tg) : TG := fun v σ H Q => ∃ F al env st w, Rel K F al st H ∧ EnvR K F al σ env ∧ WR K F al v w ∧ GPost K F al (g w env st) Q
def SG (C : Cxt) (e : Expr) (g : Tg) : Prop := PG C.X e (rdG C.X.K g)
abbrev Tgs := List W → Env → Store → Option (Env × Store)
def rdGs (K : Frg) (g : Tgs) : TGs := fun vs σ H Q => ∃ F al env st ws, Rel K F al st H ∧ EnvR K F al σ env ∧ WRs K F al vs ws ∧ GPost K F al (g ws env st) Q
def SGs (C : Cxt) (es : List Expr) (g : Tgs) : Prop := PGs C.X es (rdGs C.X.K g)
theorem PG.imp {X : Cx} {e : Expr} {t t' : TG} (h : PG X e t) (k : ∀ v σ H Q, t' v σ H Q → t v σ H Q) : PG X e t' :=
  ⟨fun pins s σ H v u Q I r q => h.run pins s σ H v u Q I r (k v σ H Q q)⟩
theorem PGs.imp {X : Cx} {e : List Expr} {t t' : TGs} (h : PGs X e t) (k : ∀ v σ H Q, t' v σ H Q → t v σ H Q) : PGs X e t' :=
  ⟨fun pins s σ H v u Q I r q => h.run pins s σ H v u Q I r (k v σ H Q q)⟩
theorem GPost.at {K : Frg} {F F' : Hp} {al al' : List Addr} {r : Option (Env × Store)} {Q : L2.St → Hp → Prop} (h : GPost K F al r Q) (e : Ext F al F' al') : GPost K F' al' r Q := by
  cases r with
  | none => exact h
  | some p =>
    obtain ⟨env, st⟩ := p
    exact fun F2 al2 σ H x => h F2 al2 σ H (e.trans x)
def gN (i : Nat) : Tg := fun w env st => some (env.set i (some w), st)
def gsNil : Tgs := fun ws env st => match ws with
  | [] => some (env, st)
  | _ => none
def gsCons (g : Tg) (r : Tgs) : Tgs := fun ws env st => match ws with
  | w :: ws => match g w env st with
    | some (env1, st1) => r ws env1 st1
    | none => none
  | [] => none
def gT (n : Nat) (g : Tgs) : Tg := fun w env st => match itmT w with
  | some ws => if ws.length = n then g ws env st else none
  | none => none
def gL (n : Nat) (g : Tgs) : Tg := fun w env st => match itm st w with
  | some ws => if ws.length = n then g ws env st else none
  | none => none
section
variable {C : Cxt}
theorem sg_name (nd : C.X.N.Nodup) (i : Nat) {x : Str} {pos : Pos} (hi : C.X.N[i]? = some x := by rfl) (hx : Loc C.X.env.scope x := by first | exact Or.inl rfl | exact Or.inr rfl) (hf : C.X.fn x = true ∨ C.X.env.scope.names.lookup x = some .local := by first | exact .inl rfl | exact .inr rfl) : SG C (.Name x pos) (gN i) :=
  PG.imp (pg_name nd hi hx hf) fun v σ H Q => by
    rintro ⟨F, al, env, st, w, R, E, r, h⟩
    exact h _ _ _ _ Ext.refl R (E.set r i)
theorem sgs_nil : SGs C [] gsNil := PGs.imp pgs_nil fun vs σ H Q => by
  rintro ⟨F, al, env, st, ws, R, E, r, h⟩
  cases r with
  | nil => exact ⟨rfl, h _ _ _ _ Ext.refl R E⟩
  | cons r t => exact h.elim
theorem sgs_cons {e : Expr} {es : List Expr} {g : Tg} {gs : Tgs} (h1 : SG C e g) (h2 : SGs C es gs) (hs : (assignEach (e :: es) C.X.env).map (·.2) = assign e C.X.env :: (assignEach es C.X.env).map (·.2) := by rfl) : SGs C (e :: es) (gsCons g gs) :=
  PGs.imp (pgs_cons h1 h2 hs) fun vs σ H Q => by
    rintro ⟨F, al, env, st, ws, R, E, r, h⟩
    cases r with
    | nil => exact h.elim
    | cons r t =>
      rename_i v w vs ws
      refine ⟨v, vs, rfl, F, al, env, st, w, R, E, r, ?_⟩
      unfold gsCons at h
      simp only at h
      split at h
      · rename_i env1 st1 e1
        rw [e1]
        exact fun F' al' σ' H' x R' E' => ⟨F', al', env1, st1, ws, R', E', WRs.mono x t, h.at x⟩
      · exact h.elim
theorem sg_tup {es : List Expr} {k : Nat} {g : Tgs} {n : Nat} {pos : Pos} (hc : C.X.calm = true) (h : SGs C es g) (hn : (assignEach es C.X.env).length = n := by rfl) (hst : (assignEach es C.X.env).findIdx? (·.1) = none := by rfl) : SG C (.Tuple es k pos) (gT n g) :=
  PG.imp (pg_tup hc h hn hst) fun v σ H Q => by
    rintro ⟨F, al, env, st, w, R, E, r, h⟩
    unfold gT at h
    split at h
    · rename_i ws e1
      split at h
      · rename_i hl
        obtain ⟨a, vs, rfl, s1, q1⟩ := itmT_rel R r e1
        exact ⟨a, vs, rfl, s1, by rw [q1.length]; exact hl, F, al, env, st, ws, R, E, q1, h⟩
      · exact h.elim
    · exact h.elim
theorem sg_lst {es : List Expr} {k : Nat} {g : Tgs} {n : Nat} {pos : Pos} (hc : C.X.calm = true) (h : SGs C es g) (hn : (assignEach es C.X.env).length = n := by rfl) (hst : (assignEach es C.X.env).findIdx? (·.1) = none := by rfl) : SG C (.Tuple es k pos) (gL n g) :=
  PG.imp (pg_lst hc h hn hst) fun v σ H Q => by
    rintro ⟨F, al, env, st, w, R, E, r, h⟩
    unfold gL at h
    split at h
    · rename_i ws e1
      split at h
      · rename_i hl
        obtain ⟨a, vs, rfl, s1, q1⟩ := itm_rel R r e1
        exact ⟨a, vs, rfl, s1, by rw [q1.length]; exact hl, F, al, env, st, ws, R, E, q1, h⟩
      · exact h.elim
    · exact h.elim

/-! ### o[i] = v -/
def kput (kvs : List (Key × W)) (k : Key) (w : W) : List (Key × W) :=
  if (kvs.any fun kv => decide (kv.1 = k)) = true then kvs.map (fun kv => if kv.1 = k then (kv.1, w) else kv) else kvs ++ [(k, w)]
theorem kput_any {K : Frg} {F : Hp} {al : List Addr} (k : Key) : ∀ {us : List (Key × V)} {kvs : List (Key × W)}, KWR K F al us kvs → (us.any fun kv => decide (kv.1 = k)) = kvs.any fun kv => decide (kv.1 = k)
  | _, _, .nil => rfl
  | (k1, v1) :: us, (k2, w2) :: kvs, .cons q t => by rw [List.any_cons, List.any_cons, kput_any k t, q.1]
theorem kput_map {K : Frg} {F : Hp} {al : List Addr} {v : V} {w : W} (k : Key) (r : WR K F al v w) : ∀ {us : List (Key × V)} {kvs : List (Key × W)}, KWR K F al us kvs →
    KWR K F al (us.map fun kv => if kv.1 = k then (kv.1, v) else kv) (kvs.map fun kv => if kv.1 = k then (kv.1, w) else kv)
  | _, _, .nil => .nil
  | (k1, v1) :: us, (k2, w2) :: kvs, .cons q t => by
    refine .cons ?_ (kput_map k r t)
    have e : k1 = k2 := q.1
    subst e
    by_cases hk : k1 = k
    · simp only [hk, if_true]
      exact ⟨trivial, r⟩
    · simp only [hk, if_false]
      exact ⟨trivial, q.2⟩
theorem kput_rel {K : Frg} {F : Hp} {al : List Addr} {us : List (Key × V)} {kvs : List (Key × W)} {v : V} {w : W} (k : Key) (h : KWR K F al us kvs) (r : WR K F al v w) : KWR K F al (putK us k v) (kput kvs k w) := by
  unfold putK kput
  rw [kput_any k h]
  split
  · exact kput_map k r h
  · exact Paired.app h (.cons ⟨rfl, r⟩ .nil)
def setW (o i w : W) (st : Store) : Option Store := match o with
  | .c n => match st[n]? with
    | some (.dct kvs) => match keyOf i with
      | some k => if kvs.length < sizeLine then some (st.set n (.dct (kput kvs k w))) else none
      | none => none
    | some (.lst ws) => match i with
      | .d (.int k) => (ixN ws.length k).map fun j => st.set n (.lst (ws.set j w))
      | _ => none
    | _ => none
  | _ => none
def rSetA : TSet := fun o i v H Q => rSetL o i v H Q ∨ ∃ a H', o = .ref a ∧ DPut H a i v H' ∧ Q H'
theorem set_any {X : Cx} (hu : X.A.units + 64 < cLine) : PSet X rSetA := by
  intro pins s σ H o i v ov iv u Q I r1 r2 r3 h
  rcases h with h | ⟨a, H', rfl, g, q⟩
  · exact set_list pins s σ H o i v ov iv u Q I r1 r2 r3 h
  · cases r1
    exact d_setItem (by omega) I g r2 r3 fun s' I' => ⟨H', I', q⟩
theorem setW_rel {K : Frg} {F : Hp} {al : List Addr} {st st' : Store} {H : Hp} {o i v : V} {wo wi w : W} {Q : Hp → Prop} (R : Rel K F al st H) (ro : WR K F al o wo) (ri : WR K F al i wi) (rv : WR K F al v w) (e : setW wo wi w st = some st') (h : ∀ H', Rel K F al st' H' → Q H') : rSetA o i v H Q := by
  unfold setW at e
  split at e
  · split at e
    · rename_i n _ kvs hn
      split at e
      · rename_i k hk
        split at e
        · rename_i hl
          cases e
          obtain ⟨a, us, rfl, q1, q2, q3, q4⟩ := dct_get R ro hn
          have hl' : us.length < sizeLine := by rw [Paired.length q4]; exact hl
          refine .inr ⟨a, _, rfl, by rw [keyOf_rel ri hk]; exact DPut.k q3 hl', h _ (R.setC q1 q2 ⟨q2, _, upd_same, kput_rel k q4 rv⟩)⟩
        · cases e
      · cases e
    · rename_i n _ ws hn
      split at e
      · rename_i k
        rw [Option.map_eq_some_iff] at e
        obtain ⟨j, hj, rfl⟩ := e
        obtain ⟨a, q1, rfl⟩ := ro
        obtain ⟨q2, vs, q3, q4⟩ := R.cell _ _ _ q1 hn
        cases ri
        exact .inl ⟨a, vs, k, j, rfl, rfl, q3, by rw [q4.length]; exact hj, h _ (R.setC q1 q2 ⟨q2, _, upd_same, Paired.setB rv j q4⟩)⟩
      · cases e
    · cases e
  · cases e
def gS (o i : Ev) : Tg := fun w env st => match o env st with
  | .ok wo st1 => match i env st1 with
    | .ok wi st2 => (setW wo wi w st2).map fun st3 => (env, st3)
    | _ => none
  | _ => none
theorem sg_sub {o i : Expr} {co ci : Ev} {pos : Pos} (hu : C.X.A.units + 64 < cLine) (ho : SE C o co) (hi : SE C i ci)
    (ha : ∀ v, assign (.Subscript o i pos) C.X.env v = (do
      let ov ← holding [v] (eval o C.X.env)
      let iv ← holding [v, ov] (eval i C.X.env)
      standAt pos
      holding [v, ov, iv] (setItem ov iv v)
      release [v, ov, iv] []) := by intro _; rfl) : SG C (.Subscript o i pos) (gS co ci) :=
  PG.imp (pg_sub ho hi (set_any hu) ha) fun v σ H Q => by
    rintro ⟨F, al, env, st, w, R, E, r, h⟩
    refine ⟨F, al, env, st, R, E, ?_⟩
    unfold gS at h
    split at h
    · rename_i wo st1 e1
      rw [e1]
      split at h
      · rename_i wi st2 e2
        intro F1 al1 H1 x1 R1 vo ro
        refine ⟨F1, al1, env, st1, R1, E.mono x1, ?_⟩
        rw [e2]
        intro F2 al2 H2 x2 R2 vi ri
        have hs : ∃ st3, setW wo wi w st2 = some st3 := by
          cases q : setW wo wi w st2 with
          | none => rw [q] at h; exact h.elim
          | some st3 => exact ⟨st3, rfl⟩
        obtain ⟨st3, hs⟩ := hs
        rw [hs] at h
        exact setW_rel R2 (ro.mono x2) ri (r.mono (x1.trans x2)) hs fun H' R3 => h _ _ _ _ (x1.trans x2) R3 (E.mono (x1.trans x2))
      · exact h.elim
    · exact h.elim
/-- target = value -/
def asgG (g : Tg) (a : Ev) : Sd := fun env st => (a env st).fl env fun w st1 => match g w env st1 with
  | some (env2, st2) => .nx env2 st2
  | none => .bad
theorem ss_asgG {tg e : Expr} {c : Ev} {g : Tg} {pos : Pos} (he : SE C e c) (hg : SG C tg g) (hs : swapsWithSole [tg] e pos.line C.X.env = pure false := by rfl) (hw : swappedStores [tg] e C.X.env = pure none := by rfl)
    (h1 : (assignEach [tg] C.X.env).map (·.2) = [assign tg C.X.env] := by rfl) : SS C (.Assign [tg] e pos) (asgG g c) := PS.imp (ps_asg he hg hs hw h1) fun D σ H => by
  rintro ⟨F, al, env, st, R, E, h⟩
  refine ⟨F, al, env, st, R, E, FPost.step E h fun F1 al1 st1 H1 x eq e1 R1 E1 h1 v rv => ⟨F1, al1, env, st1, x, R1, E1, rv, ?_⟩⟩
  split at h1
  · rename_i env2 st2 e2
    rw [e2]
    exact h1
  · exact h1.elim
/-- a, b = x, y -/
def par (i j : Nat) (a : Av) : Sd := fun env st => (a env st).fl env fun ws st1 => match ws with
  | [x, y] => .nx ((env.set i (some x)).set j (some y)) st1
  | _ => .bad
theorem ss_par {i j : Nat} {x y : Str} {a b : Expr} {c : Av} {px py pt pos : Pos} {kt k2 pt2} (hc : C.X.calm = true) (hN : C.X.N.Nodup) (ha : SA C [a, b] c) (hi : C.X.N[i]? = some x := by rfl) (hj : C.X.N[j]? = some y := by rfl) (hij : i ≠ j := by decide)
    (hx : C.X.env.scope.names.lookup x = some .local := by rfl) (hy : C.X.env.scope.names.lookup y = some .local := by rfl)
    (hw : swappedStores [.Tuple [.Name x px, .Name y py] kt pt] (.Tuple [a, b] k2 pt2) C.X.env = pure (some [x, y]) := by rfl)
    (hs : swapsWithSole [.Tuple [.Name x px, .Name y py] kt pt] (.Tuple [a, b] k2 pt2) pos.line C.X.env = pure false := by rfl) :
    SS C (.Assign [.Tuple [.Name x px, .Name y py] kt pt] (.Tuple [a, b] k2 pt2) pos) (par i j c) := PS.imp (ps_par hc hN hi hj hij hx hy ha.pa hw hs) fun D σ H => by
  rintro ⟨F, al, env, st, R, E, h⟩
  refine ⟨F, al, env, st, R, E, FPost.step E h fun F1 al1 st1 H1 ws eq e1 R1 E1 h1 vs rv => ?_⟩
  split at h1
  · cases rv with
    | cons r1 t =>
      cases t with
      | cons r2 t =>
        cases t
        exact ⟨_, _, rfl, h1 _ _ _ _ Ext.refl R1 ((E1.set r1 i).set r2 j)⟩
  · exact h1.elim

/-! ### op= -/
def By2i (C : Cxt) (f : W → W → Store → Res W) (t : TIp) : Prop := ∀ (F : Hp) (al : List Addr) (st : Store) (H : Hp) (v1 v2 : V) (w1 w2 : W) (Q : VK), Rel C.X.K F al st H → WR C.X.K F al v1 w1 → WR C.X.K F al v2 w2 →
  Post C.X.K C.CA F al (f w1 w2 st) (fun F' al' _ H' w => ∀ v, WR C.X.K F' al' v w → Q v H') (fun _ _ _ => True) → t v1 v2 H Q
def aug (i : Nat) (f : W → W → Store → Res W) (a : Ev) : Sd := fun env st => match env[i]? with
  | some (some x) => (a env st).fl env fun y st1 => (f x y st1).fl env fun z st2 => .nx (env.set i (some z)) st2
  | _ => .bad
theorem ss_aug {i : Nat} {x : Str} {e : Expr} {c : Ev} {op : Operator} {f : W → W → Store → Res W} {t : TIp} {pos pos' : Pos} (nd : C.X.N.Nodup) (he : SE C e c) (ho : PIp C.X op t) (hb : By2i C f t) (hi : C.X.N[i]? = some x := by rfl) (hx : Loc C.X.env.scope x := by first | exact Or.inl rfl | exact Or.inr rfl)
    (hf : C.X.fn x = true ∨ C.X.env.scope.names.lookup x = some .local := by first | exact .inl rfl | exact .inr rfl) : SS C (.AugAssign (.Name x pos') op e pos) (aug i f c) := PS.imp (ps_aug nd hi hx he ho hf) fun D σ H => by
  rintro ⟨F, al, env, st, R, E, h⟩
  unfold aug at h
  split at h
  · rename_i w hw
    obtain ⟨v, e1, r⟩ := E.get hw
    refine ⟨v, e1, F, al, env, st, R, E, FPost.step E h fun F1 al1 st1 H1 y eq x1 R1 E1 h1 u ru => ?_⟩
    refine hb F1 al1 st1 H1 v u w y _ R1 (r.mono x1) ru ((FPost.step E1 h1 (ok1 := fun F' al' _ H' z => ∀ v, WR C.X.K F' al' v z → D.nx (σ.set i (some v)) H') fun F2 al2 st2 H2 z eq x2 R2 E2 h2 q rq => ?_).imp (fun _ _ _ _ _ _ _ q => q) fun _ _ _ _ => trivial)
    exact h2 _ _ _ _ Ext.refl R2 (E2.set rq i)
  · exact h.elim
theorem byi_add : By2i C (fII (fun i j => .int (i + j)) yes2) (ipI fun i j => i + j) := by
  intro F al st H v1 v2 w1 w2 Q R r1 r2 h
  unfold fII at h
  split at h
  · cases r1
    cases r2
    exact ⟨_, _, rfl, rfl, h F al H Ext.refl R _ (.int _)⟩
  · exact h.elim
theorem byi_sub : By2i C (fII (fun i j => .int (i - j)) yes2) (ipI fun i j => i - j) := by
  intro F al st H v1 v2 w1 w2 Q R r1 r2 h
  unfold fII at h
  split at h
  · cases r1
    cases r2
    exact ⟨_, _, rfl, rfl, h F al H Ext.refl R _ (.int _)⟩
  · exact h.elim
end
end VS

set_option Elab.async false
set_option linter.all false
set_option maxRecDepth 100000
set_option maxHeartbeats 1000000
/-! VS5: defs and their calls; for, while. -/
namespace VS
open PySem PySem.Spec PyProof.Rows L2

structure Cok (C : Cxt) : Prop where
  calm : C.X.calm = true
  nd : C.X.N.Nodup
  hu : C.X.A.units + 64 < cLine
  gd : C.X.A.guards = some []
  tk : Takes C.X C.Wx
  po : PassesOwn (model C.X.prog C.X.w) C.X.A C.X.env C.X.xe

/-! ### what a def hands back -/
def frz (lo : Nat) (st : Store) : Nat → W → Option PyData
  | _, .d x => some x
  | _, .r _ => none
  | 0, .c _ => none
  | k + 1, .c n => if n < lo then none else match st[n]? with
    | some (.lst ws) => (ws.mapM (frz lo st k)).map .list
    | _ => none
def dOnly : Cell → Bool
  | .lst ws => (allD ws).isSome
  | .dct kvs => (allD (kvs.map (·.2))).isSome
  | .dead => true
/-- the caller's cells are as they were, or hold data alone -/
def Keeps (lo : Nat) (st st' : Store) : Prop := ∀ n c, n < lo → st'[n]? = some c → st[n]? = some c ∨ dOnly c = true
open Classical in
/-- the result as data; the callee's cells are given up -/
noncomputable def expo (st : Store) (r : Res W) : Res W := match r with
  | .ok w st' => if Keeps st.length st st' then (match frz st.length st' 6 w with
    | some x => .ok (.d x) (st'.take st.length)
    | none => .bad) else .bad
  | .exn e st' => if Keeps st.length st st' then .exn e (st'.take st.length) else .bad
  | .bad => .bad
open Classical in
/-- the result as a fresh list of data, or a dict of data, to be changed -/
noncomputable def expoC (st : Store) (r : Res W) : Res W := match r with
  | .ok (.c n) st' => if Keeps st.length st st' ∧ st.length ≤ n then (match st'[n]? with
    | some (.lst ws) => (match allD ws with
      | some ds => .ok (.c st.length) (st'.take st.length ++ [.lst (ds.map W.d)])
      | none => .bad)
    | some (.dct kvs) => if dOnly (.dct kvs) = true then .ok (.c st.length) (st'.take st.length ++ [.dct kvs]) else .bad
    | _ => .bad) else .bad
  | .ok _ _ => .bad
  | .exn e st' => if Keeps st.length st st' then .exn e (st'.take st.length) else .bad
  | .bad => .bad

/-- the objects of the cells from lo on stand fast -/
noncomputable def mrg (F H : Hp) (gone : List Addr) : Hp := fun b => if b ∈ gone then H b else F b
section
variable {K : Frg} {CA : Nat → Addr} {F F' H' : Hp} {al al' : List Addr} {st st' : Store}
theorem allD_iff : ∀ {ws : List W} {ds : List PyData}, allD ws = some ds → ws = ds.map W.d
  | [], ds, h => by cases h; rfl
  | .d x :: r, ds, h => by
    cases q : allD r with
    | none => simp [allD, q] at h
    | some es =>
      simp [allD, q] at h
      subst h
      rw [allD_iff q]
      rfl
  | .c _ :: _, _, h => by simp [allD] at h
  | .r _ :: _, _, h => by simp [allD] at h
theorem WRs_anyal {al2 : List Addr} : ∀ {ws : List W} {vs : List V}, (allD ws).isSome = true → WRs K F al vs ws → WRs K F al2 vs ws
  | [], _, _, .nil => .nil
  | .d x :: r, _, h, .cons p t => by
    refine .cons p (WRs_anyal ?_ t)
    cases q : allD r with
    | none => simp [allD, q] at h
    | some es => rfl
  | .c _ :: _, _, h, _ => by simp [allD] at h
  | .r _ :: _, _, h, _ => by simp [allD] at h
theorem KWR_anyal {al2 : List Addr} : ∀ {ws : List (Key × W)} {vs : List (Key × V)}, (allD (ws.map (·.2))).isSome = true → KWR K F al vs ws → KWR K F al2 vs ws
  | [], _, _, .nil => .nil
  | (k, .d x) :: r, _, h, .cons p t => by
    refine .cons p (KWR_anyal ?_ t)
    cases q : allD (r.map (·.2)) with
    | none => simp [allD, q] at h
    | some es => rfl
  | (k, .c _) :: _, _, h, _ => by simp [allD] at h
  | (k, .r _) :: _, _, h, _ => by simp [allD] at h
theorem CellR_anyal {al2 : List Addr} {a : Addr} {c : Cell} (h : dOnly c = true) (r : CellR K F al H' a c) : CellR K F al2 H' a c := by
  cases c with
  | lst ws =>
    obtain ⟨q, vs, q1, q2⟩ := r
    exact ⟨q, vs, q1, WRs_anyal h q2⟩
  | dct ws =>
    obtain ⟨q, vs, q1, q2⟩ := r
    exact ⟨q, vs, q1, KWR_anyal h q2⟩
  | dead => exact r
theorem mrg_same (R : Rel K F' al' st' H') {gone : List Addr} : Same F' (mrg F' H' gone) ∧ Same (mrg F' H' gone) H' := by
  refine ⟨fun b o e => ?_, fun b o e => ?_⟩
  · unfold mrg
    split
    · exact R.sub _ _ e
    · exact e
  · unfold mrg at e
    split at e
    · exact e
    · exact R.sub _ _ e
theorem frz_rel (R : Rel K F' al' st' H') {lo : Nat} {G : Hp} (hs : Same F' G) (hg : ∀ n a, lo ≤ n → al'[n]? = some a → (∃ ws, st'[n]? = some (.lst ws)) → G a = H' a) : ∀ (k : Nat) (v : V) (w : W) (y : PyData), WR K F' al' v w → frz lo st' k w = some y → Dq K G v y
  | k, v, .d z, y, r, e => by
    have e' : z = y := by cases k <;> simpa [frz] using e
    subst e'
    exact Dq.mono hs _ _ r
  | k, v, .r z, y, r, e => by cases k <;> simp [frz] at e
  | 0, v, .c n, y, r, e => by simp [frz] at e
  | k + 1, v, .c n, y, r, e => by
    unfold frz at e
    split at e
    · cases e
    · rename_i hn
      split at e
      · rename_i ws hw
        obtain ⟨a, h1, h2⟩ := r
        subst h2
        obtain ⟨_, vs, h3, h4⟩ := R.cell _ _ _ h1 hw
        cases hm : ws.mapM (frz lo st' k) with
        | none => simp [hm] at e
        | some ds =>
          simp [hm] at e
          subst e
          refine .lst (by rw [hg n a (Nat.le_of_not_lt hn) h1 ⟨ws, hw⟩]; exact h3) ?_
          have go : ∀ {ws : List W} {vs : List V} {ds : List PyData}, WRs K F' al' vs ws → ws.mapM (frz lo st' k) = some ds → DqAll K G vs ds := by
            intro ws
            induction ws with
            | nil => intro vs ds q e; cases q; simp at e; subst e; exact .nil
            | cons w ws ih =>
              intro vs ds q e
              cases q with
              | cons r1 r2 =>
                rw [List.mapM_cons] at e
                cases h1 : frz lo st' k w with
                | none => simp [h1] at e
                | some x =>
                  cases h2 : ws.mapM (frz lo st' k) with
                  | none => simp [h1, h2] at e
                  | some xs =>
                    simp [h1, h2] at e
                    subst e
                    exact .cons (frz_rel R hs hg k _ _ _ r1 h1) (ih r2 h2)
          exact go h4 hm
      · cases e

def wIn (n : Nat) : W → Prop
  | .c m => m < n
  | _ => True
def cIn (n : Nat) : Cell → Prop
  | .lst ws => ∀ w ∈ ws, wIn n w
  | .dct kvs => ∀ p ∈ kvs, wIn n p.2
  | .dead => True
theorem WR.isIn {v : V} {w : W} (r : WR K F al v w) : wIn al.length w := by
  cases w with
  | d x => trivial
  | r x => trivial
  | c n =>
    obtain ⟨a, h, _⟩ := r
    exact (List.getElem?_eq_some_iff.mp h).1
theorem WR.cut {v : V} {w : W} (x : Ext F al F' al') (h : wIn al.length w) {G : Hp} (r : WR K G al' v w) : WR K G al v w := by
  cases w with
  | d y => exact r
  | r y => exact r
  | c n =>
    obtain ⟨a, h1, h2⟩ := r
    obtain ⟨m, rfl⟩ := x.pre
    exact ⟨a, by rw [List.getElem?_append_left h] at h1; exact h1, h2⟩
theorem Paired.imp' {α β : Type} {R S : α → β → Prop} : ∀ {xs : List α} {ys : List β}, Paired R xs ys → (∀ x y, y ∈ ys → R x y → S x y) → Paired S xs ys
  | _, _, .nil, _ => .nil
  | _, _, .cons r t, h => .cons (h _ _ List.mem_cons_self r) (Paired.imp' t fun x y hm => h x y (List.mem_cons_of_mem _ hm))
theorem Paired.mem {α β : Type} {R : α → β → Prop} : ∀ {xs : List α} {ys : List β}, Paired R xs ys → ∀ y ∈ ys, ∃ x, R x y
  | _, _, .cons r t, y, h => by
    rcases List.mem_cons.mp h with e | h
    · exact ⟨_, e ▸ r⟩
    · exact Paired.mem t y h
theorem CellR.isIn {a : Addr} {c : Cell} (h : CellR K F al H' a c) : cIn al.length c := by
  cases c with
  | lst ws =>
    obtain ⟨_, vs, _, q⟩ := h
    intro w hw
    obtain ⟨v, r⟩ := Paired.mem q w hw
    exact WR.isIn r
  | dct ws =>
    obtain ⟨_, vs, _, q⟩ := h
    intro w hw
    obtain ⟨v, r⟩ := Paired.mem q w hw
    exact WR.isIn r.2
  | dead => trivial
theorem CellR.cut {a : Addr} {c : Cell} (x : Ext F al F' al') (h : cIn al.length c) {G : Hp} (r : CellR K G al' H' a c) : CellR K G al H' a c := by
  cases c with
  | lst ws =>
    obtain ⟨q, vs, q1, q2⟩ := r
    exact ⟨q, vs, q1, Paired.imp' q2 fun v w hm r => WR.cut x (h w hm) r⟩
  | dct ws =>
    obtain ⟨q, vs, q1, q2⟩ := r
    exact ⟨q, vs, q1, Paired.imp' q2 fun v w hm r => ⟨r.1, WR.cut x (h w hm) r.2⟩⟩
  | dead => exact r
/-- the caller's cells behind a call -/
theorem kept_cells {H : Hp} (R0 : Rel K F al st H) (x : Ext F al F' al') (R : Rel K F' al' st' H') (kp : Keeps st.length st st')
    {G : Hp} (hs : Same F' G) (hg : ∀ (n : Nat) (a : Addr), al[n]? = some a → F' a = none → G a = none) : ∀ (n : Nat) (a : Addr) (c : Cell), al[n]? = some a → (st'.take st.length)[n]? = some c → CellR K G al H' a c := by
  intro n a c h1 h2
  have hn : n < st.length := by
    have := (List.getElem?_eq_some_iff.mp h1).1
    rw [R0.len] at this
    exact this
  rw [List.getElem?_take_of_lt hn] at h2
  have r := R.cell n a c (x.get h1) h2
  have r' : CellR K F' al H' a c := by
    rcases kp n c hn h2 with e | e
    · exact CellR.cut x (R0.cell n a c h1 e).isIn r
    · exact CellR_anyal e r
  exact r'.move ⟨hs, [], by simp⟩ rfl (hg n a h1)
theorem pre_drop (x : Ext F al F' al') {n : Nat} {a : Addr} (h : al'[n]? = some a) (hn : al.length ≤ n) : a ∈ al'.drop al.length := by
  rw [List.mem_iff_getElem?]
  exact ⟨n - al.length, by rw [List.getElem?_drop]; rw [Nat.add_sub_cancel' hn]; exact h⟩
theorem pre_notdrop (x : Ext F al F' al') (nd : al'.Nodup) {n : Nat} {a : Addr} (h : al[n]? = some a) : a ∉ al'.drop al.length := by
  obtain ⟨m, rfl⟩ := x.pre
  rw [List.drop_left]
  rw [List.nodup_append] at nd
  exact fun hm => nd.2.2 a (List.mem_of_getElem? h) a hm rfl
/-- the callee's cells are given up -/
theorem back_all {H : Hp} (R0 : Rel K F al st H) (x : Ext F al F' al') (R : Rel K F' al' st' H') (kp : Keeps st.length st st') :
    Ext F al (mrg F' H' (al'.drop al.length)) al ∧ Rel K (mrg F' H' (al'.drop al.length)) al (st'.take st.length) H' := by
  obtain ⟨s1, s2⟩ := mrg_same R (gone := al'.drop al.length)
  refine ⟨⟨x.same.trans s1, [], by simp⟩, s2, ?_, R0.nd, kept_cells R0 x R kp s1 fun n a h e => ?_⟩
  · obtain ⟨m, e⟩ := x.pre
    have h1 := R.len
    rw [e, List.length_append] at h1
    rw [List.length_take, ← R0.len]
    omega
  · unfold mrg
    rw [if_neg (pre_notdrop x R.nd h)]
    exact e
theorem ExnR.mono {G G' : Hp} (e : Same G G') {cls : Value} {d : Option Addr} {er : Exn} (h : ExnR CA K G cls d er) : ExnR CA K G' cls d er := by
  refine ⟨h.1, ?_⟩
  have h2 := h.2
  split
  · rename_i q
    rw [q] at h2
    exact h2
  · rename_i fs q
    rw [q] at h2
    obtain ⟨dd, us, h3, h4, h5⟩ := h2
    exact ⟨dd, us, h3, e _ _ h4, Paired.imp' h5 fun p q _ r => ⟨r.1, Dq.mono e _ _ r.2⟩⟩
theorem expo_post {H : Hp} {r : Res W} {Q : VK} {ex : Value → Option Addr → Hp → Prop} (R0 : Rel K F al st H) (h : Post K CA F al (expo st r) (fun F' al' _ H' w => ∀ v, WR K F' al' v w → Q v H') ex) : Post K CA F al r (fun F' al' _ H' w => ∀ v, WR K F' al' v w → Q v H') ex := by
  cases r with
  | ok w st' =>
    unfold expo at h
    simp only at h
    split at h
    · rename_i kp
      split at h
      · rename_i y hy
        intro F' al' H' x R v rv
        obtain ⟨x2, R2⟩ := back_all R0 x R kp
        refine h _ _ _ x2 R2 v (frz_rel R (mrg_same R).1 (fun n a hn ha _ => ?_) _ _ _ _ rv hy)
        unfold mrg
        rw [if_pos (pre_drop x ha (by rw [R0.len]; exact hn))]
      · exact h.elim
    · exact h.elim
  | exn e st' =>
    unfold expo at h
    simp only at h
    split at h
    · rename_i kp
      intro F' al' H' cls d x R q
      obtain ⟨x2, R2⟩ := back_all R0 x R kp
      exact h _ _ _ cls d x2 R2 (ExnR.mono (mrg_same R).1 q)
    · exact h.elim
  | bad => exact h
theorem expoC_post {H : Hp} {r : Res W} {Q : VK} {ex : Value → Option Addr → Hp → Prop} (R0 : Rel K F al st H) (h : Post K CA F al (expoC st r) (fun F' al' _ H' w => ∀ v, WR K F' al' v w → Q v H') ex) : Post K CA F al r (fun F' al' _ H' w => ∀ v, WR K F' al' v w → Q v H') ex := by
  cases r with
  | ok w st' =>
    cases w with
    | d y => exact h.elim
    | r y => exact h.elim
    | c n =>
      unfold expoC at h
      simp only at h
      split at h
      · rename_i kp
        intro F' al' H' x R v rv
        obtain ⟨a, ha, rfl⟩ := rv
        obtain ⟨c, hc, rc⟩ := R.there ha
        have hn : al.length ≤ n := by rw [R0.len]; exact kp.2
        obtain ⟨s1, s2⟩ := mrg_same R (gone := (al'.drop al.length).filter (· ≠ a))
        have hfa : ∀ {o : HO}, F' a = none → mrg F' H' ((al'.drop al.length).filter (· ≠ a)) a = none := fun {o} e => by
          unfold mrg
          rw [if_neg (by simp)]
          exact e
        have hnm : a ∉ al := fun hm => by
          obtain ⟨m, e⟩ := x.pre
          have nd := R.nd
          rw [e, List.nodup_append] at nd
          rw [e, List.getElem?_append_right hn] at ha
          exact nd.2.2 a hm a (List.mem_of_getElem? ha) rfl
        have base : ∀ {c2 : Cell}, CellR K (mrg F' H' ((al'.drop al.length).filter (· ≠ a))) (al ++ [a]) H' a c2 → Ext F al (mrg F' H' ((al'.drop al.length).filter (· ≠ a))) (al ++ [a]) ∧ Rel K (mrg F' H' ((al'.drop al.length).filter (· ≠ a))) (al ++ [a]) (st'.take st.length ++ [c2]) H' := by
          intro c2 hc2
          have hlen : al.length = (st'.take st.length).length := by
            obtain ⟨m, e⟩ := x.pre
            have h1 := R.len
            rw [e, List.length_append] at h1
            rw [List.length_take, ← R0.len]
            omega
          refine ⟨⟨x.same.trans s1, [a], rfl⟩, s2, by simp [hlen], ?_, fun m b d h1 h2 => ?_⟩
          · rw [List.nodup_append]
            exact ⟨R0.nd, by simp, fun b hb b' hb' e => by rw [List.mem_singleton] at hb'; subst hb'; subst e; exact hnm hb⟩
          · by_cases hm : m < al.length
            · rw [List.getElem?_append_left hm] at h1
              rw [List.getElem?_append_left (by rw [← hlen]; exact hm)] at h2
              have q := kept_cells R0 x R kp.1 s1 (fun n b h e => by
                unfold mrg
                rw [if_neg (fun hq => pre_notdrop x R.nd h (List.mem_filter.mp hq).1)]
                exact e) m b d h1 h2
              exact q.move ⟨Same.refl _, [a], rfl⟩ rfl (fun e => e)
            · have e1 : m = al.length := by
                have := (List.getElem?_eq_some_iff.mp h1).1
                simp at this
                omega
              subst e1
              rw [List.getElem?_append_right (Nat.le_refl _)] at h1
              rw [List.getElem?_append_right (by rw [hlen]; exact Nat.le_refl _)] at h2
              simp at h1
              rw [← hlen] at h2
              simp at h2
              subst h1 h2
              exact hc2
        split at h
        · rename_i ws hw
          rw [hw] at hc
          cases hc
          obtain ⟨q1, vs, q2, q3⟩ := rc
          split at h
          · rename_i ds hds
            have e := allD_iff hds
            subst e
            obtain ⟨x2, R2⟩ := base (c2 := .lst (ds.map W.d)) ⟨hfa (o := .lst []) q1, vs, q2, WRs_anyal (by rw [allD_map]; rfl) (WRs.mono (show Ext F' al' _ al' from ⟨s1, [], by simp⟩) q3)⟩
            exact h _ _ _ x2 R2 _ ⟨a, by rw [← R0.len]; simp, rfl⟩
          · exact h.elim
        · rename_i kvs hw
          rw [hw] at hc
          cases hc
          obtain ⟨q1, vs, q2, q3⟩ := rc
          split at h
          · rename_i hd
            obtain ⟨x2, R2⟩ := base (c2 := .dct kvs) ⟨hfa (o := .lst []) q1, vs, q2, KWR_anyal hd (KWR.mono (show Ext F' al' _ al' from ⟨s1, [], by simp⟩) q3)⟩
            exact h _ _ _ x2 R2 _ ⟨a, by rw [← R0.len]; simp, rfl⟩
          · exact h.elim
        · exact h.elim
      · exact h.elim
  | exn e st' =>
    unfold expoC at h
    simp only at h
    split at h
    · rename_i kp
      intro F' al' H' cls d x R q
      obtain ⟨x2, R2⟩ := back_all R0 x R kp
      exact h _ _ _ cls d x2 R2 (ExnR.mono (mrg_same R).1 q)
    · exact h.elim
  | bad => exact h
end
end VS

set_option Elab.async false
set_option linter.all false
set_option maxRecDepth 100000
set_option maxHeartbeats 400000
/-! VSG: what a def promises where no object is being shown around it (so that repr may be called within). -/
namespace VS
open PySem PySem.Spec PyProof.Rows L2

structure FnG (P : Program) (w : World) (K : Frg) (mg : Str → Option Value) (base : Heap) (k : Nat) (f : Addr) (fd : FuncData) (ps : List Str) (sp : Sp) : Prop where
  len : ∀ vs H Q E, sp vs H Q E → vs.length = ps.length
  run : ∀ (A : Around) (out : List PySem.Env) (s : Shared) (H : Hp) (ar : Args) (us : List Value) (vs : List V) (Q : VK) (E : XK), A.guards = some [] → Room k A → Env0 P w K mg base A out s H →
    BindsTo s fd ar (ps.zip us) → Vals vs us → sp vs H Q E → codeAny (model P w) A (.call (.ref f) ar) (CR (L2.CX P w) out P w H s Q E) s
theorem FnG.mono {P : Program} {w : World} {K : Frg} {mg : Str → Option Value} {base : Heap} {j k : Nat} {f : Addr} {fd : FuncData} {ps : List Str} {sp : Sp} (g : FnG P w K mg base j f fd ps sp) (h : j ≤ k) : FnG P w K mg base k f fd ps sp :=
  ⟨g.len, fun A out s H ar us vs Q E gd hr => g.run A out s H ar us vs Q E gd (hr.mono h)⟩
section
variable {X : Cx} {k : Nat} {f : Addr} {fd : FuncData} {ps : List Str} {sp : Sp} {E : L2.St → XK}
theorem run_fnG {pins : List (Addr × Obj)} {σ : L2.St} {H : Hp} {s : Shared} {Q : VK} {us : List Value} {vs : List V} (g : FnG X.prog X.w X.K X.mg X.base k f fd ps sp) (gd : X.A.guards = some []) (hr : Room k X.A) (hb : Binds X.K fd ps [])
    (hx : PassesAt (L2.CX X.prog X.w) X σ (E σ)) (I : Inv X pins σ H s) (r : Vals vs us) (h : sp vs H Q (E σ)) : wpAny (model X.prog X.w) X.A (call (.ref f) us) (EP X pins σ Q) X.xe s := by
  have b := hb s us I.kIn
  simp only [List.append_nil] at b
  have hl : us.length = ps.length := r.length.symm.trans (g.len _ _ _ _ h)
  refine wpAny_call (codeAny_mono (g.run X.A X.stack s H ⟨us, []⟩ us vs Q (E σ) gd hr I.env0 (b hl) r h) fun res s' hq => ?_)
  match res, hq with
  | .error e, hq => exact hx pins H s e s' I hq
  | .ok (.ret u), hq => exact I.after hq
theorem pe_callG {x : Str} {p pos : Pos} {e : Expr} {es : List Expr} {t : TA} (g : FnG X.prog X.w X.K X.mg X.base k f fd ps sp) (gd : X.A.guards = some []) (hr : Room k X.A) (hg : Gl X x) (hm : X.mg x = some (.ref f)) (hk : PySem.W.keepIn X.K (.ref f) = true) (hb : Binds X.K fd ps [])
    (hx : ∀ σ, PassesAt (L2.CX X.prog X.w) X σ (E σ)) (ha : PA X (e :: es) t) (hdb : (x == ("__debug__" : Str)) = false) (he : starEach (e :: es) X.env = (false, eval e X.env) :: starEach es X.env) (hpl : (backTo pos (starEach es X.env)).any (·.1) = false) :
    PE X (.Call (.Name x p) (e :: es) [] pos) (tCallS sp E t) := by
  constructor
  intro pins s σ H Q I h
  refine wpAny_Call_Name_kw (ld_glob (x := x) I hg hm ?_ hdb)
  have run := ha.run pos pins s σ H _ I h
  refine PySem.W.callWith_K (h₀ := X.base) I.ok.mod.kin hk (thn run ?_) he hpl
  rintro us s1 ⟨vs, H1, I1, r, q⟩
  exact And.intro I1.kIn (run_fnG g gd hr hb (hx σ) I1 r q)
end
/-- a def of the text by its body -/
theorem fn_ofG {P : Program} {w : World} {K : Frg} {mg : Str → Option Value} {base : Heap} {x qual : Str} {st : Stmt} {f : Addr} {fd : FuncData} {N ps : List Str} {k : Nat} {sp : Sp} (F : Fun K x qual st f fd) (S : FnScope N ps (defScope st)) (len : ∀ vs H Q E, sp vs H Q E → vs.length = ps.length)
    (hbody : ∀ (cdv : Value) (A : Around) (out : List PySem.Env) (s : Shared) (H : Hp) (vs : List V) (Q : VK) (E : XK), A.guards = some [] → Room k (A.deeper (envOfC qual (defScope st) s.heap.objs.size f cdv)) → sp vs H Q E →
      ∃ t, PSs (cxOf (L2.CX P w) P w K mg base N qual (defScope st) f cdv A out s H E) (defBody st) t ∧ t { nx := fun _ H' => Q .non H', rt := Q } (L2.start N vs) H) : FnG P w K mg base (k + 1) f fd ps sp := by
  obtain ⟨oc, od, kV, doc, pm, an, cdv, ct, osl, rfl, lk, hcd⟩ := F.ex
  constructor
  · exact len
  intro A out s H ar us vs Q E gd hr e0 hb r hsp
  have inn : ∀ b o, base.get? b = some o → s.heap.get? b = some o := fun b o e => (e0.bs b o e).1
  have hin : K.In s.heap := e0.mod.kin.keeps inn
  have nolim : s.heap.NoLimit := e0.mod.nolimit.keeps inn
  have kinds : ∀ y ∈ ps.zip us, (defScope st).names.lookup y.1 = some .local ∨ ((defScope st).names.lookup y.1 = some .cell ∧ ((cellsFrom (s.heap.objs.size + 1) (defScope st).names []).lookup y.1).isSome = true) := by
    rintro ⟨n, v⟩ hy
    cases S.par n (List.of_mem_zip hy).1 with
    | inl q => exact Or.inl q
    | inr q => exact Or.inr ⟨q, PySem.W.cellsFrom_some _ _ _ (Or.inl q)⟩
  refine codeAny_call_function hr.depth (hin _ _ lk) rfl S.co S.gen rfl (PySem.W.codeRec_of hin hcd) (hb _ _ _ _ (wpAny_newFunctionEnv_cells S.kind kinds fun env he s1 x => ?_))
  subst he
  refine ⟨nolim.keeps x.toInCall.keep, codeAny_func ?_⟩
  obtain ⟨t, ht, hq⟩ := hbody cdv A out s H vs Q E gd (hr.deeper _) hsp
  have I := inv_start (CX := L2.CX P w) (E := E) S hr.hd e0 (len _ _ _ _ hsp) r x
  refine wpAny_mono (ht.run [] s1 (L2.start N vs) H _ I hq) (fun fl s' hs => ?_) fun e s' hs => hs
  cases fl with
  | ret u =>
    rcases hs with ⟨v, σ', H', J, rv, q⟩
    exact ⟨v, H', J.os, J.bare, J.base, J.hok, rv, q⟩
  | next =>
    rcases hs with ⟨σ', H', J, q⟩
    exact ⟨.non, H', J.os, J.bare, J.base, J.hok, rfl, q⟩
  | brk =>
    rcases hs with ⟨_, _, _, q⟩
    exact q.elim
  | cont =>
    rcases hs with ⟨_, _, _, q⟩
    exact q.elim

/-- nothing is tracked but the script -/
theorem law_callG {P : Program} {w : World} {K : Frg} {mg mb : Str → Option Value} {k : Nat} {fa a : Addr} {fd : FuncData} {x : Str} {sp : Sp} {s1 : Shared} {vs : List Value} {ns : List Int} (KX : K.In s1.heap) (hns : s1.heap.Ns mainGlobals mg) (hb : s1.heap.Ns builtinsNs mb)
    (hbb : ∀ x : Str, x ≠ "__name__" → mb x = bootBuiltins x) (hlim : s1.heap.NoLimit) (hg : s1.gens = #[]) (ha : s1.heap.get? a = some { cls := .type "list", data := .seq vs.toArray }) (hi : IntsAre vs ns) (hl : ns.length ≤ sizeLine) (hr : Room k callerA)
    (F : ∀ base : Heap, K.In base → base.Ns mainGlobals mg → FnG P w K mg base k fa fd [x] sp) (hbind : ∀ (s : Shared) (u : Value), BindsTo s fd ⟨[u], []⟩ [(x, u)]) (hsp : ∀ H : Hp, Only H → SqL K H a (ns.map V.int) → sp [.ref a] H (fun v _ => v = .bl true) fun _ _ _ => False) :
    codeAny (model P w) callerA (.call (.ref fa) ⟨[.ref a], []⟩) (fun r s' => r = .ok (.ret (.bool true)) ∧ OldK s1.heap s'.heap ∧ s'.os = s1.os ∧ AllBare s'.gens) s1 := by
  have rv := vals_ints hi
  have lenV := hi.length
  have core : ∀ H : Hp, Only H → SqL K H a (ns.map V.int) → HOk P w H s1.heap → (∀ b, H b ≠ none → b = a) → (H a ≠ none → K.lookup a = none) →
      codeAny (model P w) callerA (.call (.ref fa) ⟨[.ref a], []⟩) (fun r s' => r = .ok (.ret (.bool true)) ∧ OldK s1.heap s'.heap ∧ s'.os = s1.os ∧ AllBare s'.gens) s1 := by
    intro H hO hS hok hA hK
    have only : ∀ {b : Addr} {u : HO}, H b = some u → b = a := fun {b u} q => hA b (by rw [q]; exact fun z => nomatch z)
    have notA : ∀ {b : Addr} {o : Obj} {es : Array DictEntry} {ep : Nat}, s1.heap.get? b = some o → o.data = .dict es ep → H b = none := fun {b o es ep} e d => by
      cases q : H b with
      | none => rfl
      | some u =>
        rw [only q, ha] at e
        cases e
        have d' : Data.seq vs.toArray _ = Data.dict es ep := d
        cases d'
    have nsH : ∀ {b : Addr} {m : Str → Option Value}, s1.heap.Ns b m → (hidT s1.heap H).Ns b m := fun {b m} ⟨o, es, ep, e, d, r⟩ => ⟨o, es, ep, hidT_get e (notA e d), d, r⟩
    have hin : K.In (hidT s1.heap H) := fun b o e => hidT_get (KX b o e) (by
      cases q : H b with
      | none => rfl
      | some u =>
        have ea := only q
        subst ea
        rw [hK (by rw [q]; exact fun z => nomatch z)] at e
        cases e)
    have hM : Mod K mg (hidT s1.heap H) := ⟨hin, nsH hns, ⟨mb, nsH hb, hbb⟩, let ⟨mc, h1, h2⟩ := hlim; ⟨mc, nsH h1, h2⟩⟩
    have e0 : Env0 P w K mg (hidT s1.heap H) callerA [] s1 H := ⟨rfl, hM, fun b o e => of_hidT e, Nat.le_of_eq (hidT_size _ _), trivial, fun b hb => (nomatch (show b ∈ ([] : List Addr) from hb)), hok, .of_eq hg⟩
    refine codeAny_mono ((F _ hin (nsH hns)).run callerA [] s1 H ⟨[.ref a], []⟩ [.ref a] [.ref a] _ _ rfl hr e0 (hbind s1 (.ref a)) (.cons rfl .nil) (hsp H hO hS)) fun r s' h => ?_
    match r, h with
    | .error e, h =>
      obtain ⟨_, _, _, _, _, _, _, _, _, _, _, _, z⟩ := h
      exact z.elim
    | .ok (.ret u), ⟨v, H', os, bare, un, hok', r', q⟩ =>
      have q' : v = .bl true := q
      subst q'
      obtain rfl : u = Value.bool true := r'
      refine ⟨rfl, OldK.of_keep fun b o e => ?_, os, bare⟩
      cases q : H b with
      | none => exact un.keep b o e q (fun z => nomatch (show b ∈ ([] : List Addr) from z)) (fun z => nomatch z)
      | some u =>
        rcases hO b with z | ⟨ob, xs, z⟩
        · rw [q] at z
          cases z
        · obtain ⟨e1, _⟩ := hok b _ z
          obtain ⟨e2, _⟩ := hok' b _ (un.frzs b ob _ z)
          rw [e] at e1
          cases e1
          exact e2
  cases hk : K.lookup a with
  | some o =>
    have e := KX a o hk
    rw [ha] at e
    cases e
    exact core (fun _ => none) (fun _ => .inl rfl) (.inr ⟨_, vs.toArray, _, hk, rfl, rfl, rfl, by rw [List.size_toArray, lenV]; exact hl, rv⟩) (fun b u z => nomatch (show (none : Option HO) = some u from z)) (fun b z => absurd rfl z) fun z => absurd rfl z
  | none =>
    have he : ∀ b, (if b = a then some (HO.frz { cls := .type "list", data := .seq vs.toArray } (.lst (ns.map V.int))) else none) ≠ none → b = a := fun b z => by
      by_cases hb : b = a
      · exact hb
      · exact absurd (if_neg hb) z
    refine core (fun b => if b = a then some (.frz { cls := .type "list", data := .seq vs.toArray } (.lst (ns.map V.int))) else none) (fun b => ?_) (.inl (.inr ⟨_, if_pos rfl⟩)) (fun b u z => ?_) he fun _ => hk
    · by_cases hb : b = a
      · exact .inr ⟨_, _, if_pos hb⟩
      · exact .inl (if_neg hb)
    · obtain rfl := he b (by rw [show (if b = a then some (HO.frz { cls := .type "list", data := .seq vs.toArray } (.lst (ns.map V.int))) else none) = some u from z]; exact fun q => nomatch q)
      have z' := (if_pos rfl).symm.trans z
      cases z'
      exact ⟨ha, by rw [List.length_map]; exact hl, vs, _, rv, ha⟩
/-- the goal that the head leaves -/
theorem walk_ofG {l : PySem.W.OpenLaw} {n k : Nat} {q : Program} {loose : List Str} {XP : (Str → Option Value) → Heap → Prop} {YP : World → Heap → Prop} {d : DefRec} {K : Params → PySem.W.Frag} {sp : World → Sp} {x : Str} (hn : l.most = some n) (hn2 : n ≤ sizeLine) (hdf : d.params.defaults = []) (hr : Room k callerA)
    (hY : ∀ (w : World) (h : Heap), YP w h → (K w.params).In h)
    (F : ∀ (w : World) (mg : Str → Option Value) (fa : Addr) (h : Heap), (K w.params).In h → h.Ns mainGlobals mg → mg d.name = some (.ref fa) → ∃ fd : FuncData, (∀ (s : Shared) (u : Value), BindsTo s fd ⟨[u], []⟩ [(x, u)]) ∧
        ∀ base : Heap, (K w.params).In base → base.Ns mainGlobals mg → FnG l.prog w (K w.params) mg base k fa fd [x] (sp w))
    (hsp : ∀ (w : World) (H : Hp) (a : Addr) (ns : List Int), ns.length ≤ n → Only H → SqL (K w.params) H a (ns.map V.int) → sp w [.ref a] H (fun v _ => v = .bl true) fun _ _ _ => False) :
    PySem.W.WalkO q loose XP YP l.row.toRowW d [] (fun f vs => PySem.call f vs) :=
  Att.attach_call hn hdf fun w s0 s1 mg mb fa o pm cd doc a vs ns G Y ho hd hcd hmg hobj hints hlen hg => by
    have KX := hY w _ Y
    obtain ⟨fd, hb, hF⟩ := F w mg fa _ KX G.T.g hmg
    exact law_callG KX G.T.g G.T.b G.T.builtins G.T.nolimit hg hobj hints (Nat.le_trans hlen hn2) hr hF hb fun H hO hS => hsp w H a ns hlen hO hS
end VS

set_option Elab.async false
set_option linter.all false
set_option maxRecDepth 100000
set_option maxHeartbeats 1000000
/-! VS6: defs, calls, iteration, for, while. -/
namespace VS
open PySem PySem.Spec PyProof.Rows L2

abbrev Fn := List W → Store → Res W
/-- what a def promises: its denotation's outcome -/
def spF (K : Frg) (CA : Nat → Addr) (n : Nat) (φ : Fn) : Sp := fun vs H Q E => vs.length = n ∧ ∃ F al st ws, Rel K F al st H ∧ WRs K F al vs ws ∧
  Post K CA F al (φ ws st) (fun F' al' _ H' w => ∀ v, WR K F' al' v w → Q v H') (fun cls d H' => E cls d H')
def fin : Fl → Res W
  | .rt w st => .ok w st
  | .nx _ st => .ok (.d .none) st
  | .ex e _ st => .exn e st
  | _ => .bad
def ent (nN : Nat) (ws : List W) : Env := ws.map some ++ List.replicate (nN - ws.length) none
def fnD (nN : Nat) (body : Sd) : Fn := fun ws st => fin (body (ent nN ws) st)
theorem ent_rel {K : Frg} {F : Hp} {al : List Addr} {N : List Str} {vs : List V} {ws : List W} (h : WRs K F al vs ws) : EnvR K F al (L2.start N vs) (ent N.length ws) := by
  unfold L2.start ent
  rw [h.length]
  refine Paired.app ?_ ?_
  · induction h with
    | nil => exact .nil
    | cons r t ih => exact .cons (fun w e => by cases e; exact ⟨_, rfl, r⟩) ih
  · generalize N.length - ws.length = m
    induction m with
    | zero => exact .nil
    | succ m ih => exact .cons (fun w e => by cases e) ih
/-- the context of a def's body -/
abbrev defC (P : Program) (w : World) (K : Frg) (mg : Str → Option Value) (base : Heap) (CA : Nat → Addr) (N : List Str) (qual : Str) (sc : Scope) (f : Addr) (cdv : Value) (A : Around) (outer : List PySem.Env) (s : Shared) (H : Hp) (E : XK) : Cxt :=
  ⟨cxOf (L2.CX P w) P w K mg base N qual sc f cdv A outer s H E, CA, fun cls d _ H' => E cls d H'⟩
theorem defC_ok {P : Program} {w : World} {K : Frg} {mg : Str → Option Value} {base : Heap} {CA : Nat → Addr} {N ps : List Str} {qual : Str} {sc : Scope} {f : Addr} {cdv : Value} {A : Around} {outer : List PySem.Env} {s : Shared} {H : Hp} {E : XK} {k : Nat} (gd : A.guards = some [])
    (hr : Room k (A.deeper (envOfC qual sc s.heap.objs.size f cdv))) (S : FnScope N ps sc) : Cok (defC P w K mg base CA N qual sc f cdv A outer s H E) :=
  ⟨rfl, S.nd, hr.units, gd, takes_of rfl rfl rfl rfl, passes_of rfl⟩
section
variable {P : Program} {w : World} {K : Frg} {mg : Str → Option Value} {base : Heap}
theorem fn_ok {CA : Nat → Addr} {x qual : Str} {st : Stmt} {f : Addr} {fd : FuncData} {N ps : List Str} {k : Nat} {body : Sd} (F : Fun K x qual st f fd) (S : FnScope N ps (defScope st))
    (hb : ∀ (cdv : Value) (A : Around) (outer : List PySem.Env) (s : Shared) (H : Hp) (E : XK), A.guards = some [] → Room k (A.deeper (envOfC qual (defScope st) s.heap.objs.size f cdv)) → SSs (defC P w K mg base CA N qual (defScope st) f cdv A outer s H E) (defBody st) body) :
    FnG P w K mg base (k + 1) f fd ps (spF K CA ps.length (fnD N.length body)) := by
  refine fn_ofG F S (fun vs H Q E h => h.1) (fun cdv A outer s H vs Q E gd hr h => ⟨_, hb cdv A outer s H E gd hr, ?_⟩)
  obtain ⟨hl, F', al, st', ws, R, r, h⟩ := h
  refine ⟨F', al, ent N.length ws, st', R, ent_rel r, ?_⟩
  unfold fnD fin at h
  split at h
  · rename_i w' st1 e
    rw [e]
    exact fun F1 al1 H1 v x R1 rv => h F1 al1 H1 x R1 v rv
  · rename_i env st1 e
    rw [e]
    exact fun F1 al1 σ1 H1 x R1 _ => h F1 al1 H1 x R1 _ .non
  · rename_i er env st1 e
    rw [e]
    exact fun F1 al1 σ1 H1 cls d x R1 _ q => h F1 al1 H1 cls d x R1 q
  · exact h.elim
/-- what is known of a def of the module -/
def FnF (P : Program) (w : World) (K : Frg) (mg : Str → Option Value) (base : Heap) (CA : Nat → Addr) (x : Str) (k : Nat) (ps : List Str) (φ : Fn) : Prop :=
  ∃ f fd, FnG P w K mg base k f fd ps (spF K CA ps.length φ) ∧ mg x = some (.ref f) ∧ PySem.W.keepIn K (.ref f) = true ∧ Binds K fd ps []
end

/-! ### calls -/
noncomputable def cal (φ : Fn) (a : Av) : Ev := fun env st => (a env st).bind fun ws st1 => expo st1 (φ ws st1)
noncomputable def calC (φ : Fn) (a : Av) : Ev := fun env st => (a env st).bind fun ws st1 => expoC st1 (φ ws st1)
def calR (φ : Fn) (a : Av) : Ev := fun env st => (a env st).bind fun ws st1 => φ ws st1
section
variable {C : Cxt} {x : Str} {k j : Nat} {ps : List Str} {φ : Fn} {e : Expr} {es : List Expr} {c : Av} {p pos : Pos}
theorem rd_call {ex : Store → Res W → Res W} (hx : ∀ {F : Hp} {al : List Addr} {st : Store} {H : Hp} {r : Res W} {Q : VK} {E : Value → Option Addr → Hp → Prop}, Rel C.X.K F al st H → Post C.X.K C.CA F al (ex st r) (fun F' al' _ H' w => ∀ v, WR C.X.K F' al' v w → Q v H') E → Post C.X.K C.CA F al r (fun F' al' _ H' w => ∀ v, WR C.X.K F' al' v w → Q v H') E)
    (ha : SA C es c) (hn : es.length = ps.length) : ∀ σ H Q, rdE C.X.K C.CA C.Wx (fun env st => (c env st).bind fun ws st1 => ex st1 (φ ws st1)) σ H Q → tCallS (spF C.X.K C.CA ps.length φ) (WE C.Wx) (rdA C.X.K C.CA C.Wx c) σ H Q := by
  rintro σ H Q ⟨F, al, env, st, R, E, h⟩
  refine ⟨F, al, env, st, R, E, h.stepE fun F1 al1 st1 H1 ws eq e1 R1 h1 vs rv => ?_⟩
  exact ⟨by rw [rv.length, ha.len _ _ _ _ eq]; exact hn, F1, al1, st1, ws, R1, rv, hx R1 h1⟩
theorem pe_callF (ck : Cok C) (hf : FnF C.X.prog C.X.w C.X.K C.X.mg C.X.base C.CA x k ps φ) (hr : Room j C.X.A) (hk : k ≤ j) (ha : SA C (e :: es) c) (hn : (e :: es).length = ps.length) (hg : Gl C.X x) (hdb : (x == ("__debug__" : Str)) = false) (he : starEach (e :: es) C.X.env = (false, eval e C.X.env) :: starEach es C.X.env) (hpl : (backTo pos (starEach es C.X.env)).any (·.1) = false) :
    PE C.X (.Call (.Name x p) (e :: es) [] pos) (tCallS (spF C.X.K C.CA ps.length φ) (WE C.Wx) (rdA C.X.K C.CA C.Wx c)) := by
  obtain ⟨f, fd, F, hm, kp, b⟩ := hf
  exact pe_callG F ck.gd (hr.mono hk) hg hm kp b (fun σ => passAt ck.tk σ) ha.pa hdb he hpl
theorem se_cal (ck : Cok C) (hf : FnF C.X.prog C.X.w C.X.K C.X.mg C.X.base C.CA x k ps φ) (hr : Room j C.X.A) (ha : SA C (e :: es) c) (hk : k ≤ j := by decide) (hn : (e :: es).length = ps.length := by rfl) (hg : Gl C.X x := by rfl) (hdb : (x == ("__debug__" : Str)) = false := by decide)
    (he : starEach (e :: es) C.X.env = (false, eval e C.X.env) :: starEach es C.X.env := by rfl) (hpl : (backTo pos (starEach es C.X.env)).any (·.1) = false := by rfl) : SE C (.Call (.Name x p) (e :: es) [] pos) (cal φ c) :=
  PE.imp (pe_callF ck hf hr hk ha hn hg hdb he hpl) (rd_call (fun R h => expo_post R h) ha hn)
theorem se_calC (ck : Cok C) (hf : FnF C.X.prog C.X.w C.X.K C.X.mg C.X.base C.CA x k ps φ) (hr : Room j C.X.A) (ha : SA C (e :: es) c) (hk : k ≤ j := by decide) (hn : (e :: es).length = ps.length := by rfl) (hg : Gl C.X x := by rfl) (hdb : (x == ("__debug__" : Str)) = false := by decide)
    (he : starEach (e :: es) C.X.env = (false, eval e C.X.env) :: starEach es C.X.env := by rfl) (hpl : (backTo pos (starEach es C.X.env)).any (·.1) = false := by rfl) : SE C (.Call (.Name x p) (e :: es) [] pos) (calC φ c) :=
  PE.imp (pe_callF ck hf hr hk ha hn hg hdb he hpl) (rd_call (fun R h => expoC_post R h) ha hn)
theorem se_calR (ck : Cok C) (hf : FnF C.X.prog C.X.w C.X.K C.X.mg C.X.base C.CA x k ps φ) (hr : Room j C.X.A) (ha : SA C (e :: es) c) (hk : k ≤ j := by decide) (hn : (e :: es).length = ps.length := by rfl) (hg : Gl C.X x := by rfl) (hdb : (x == ("__debug__" : Str)) = false := by decide)
    (he : starEach (e :: es) C.X.env = (false, eval e C.X.env) :: starEach es C.X.env := by rfl) (hpl : (backTo pos (starEach es C.X.env)).any (·.1) = false := by rfl) : SE C (.Call (.Name x p) (e :: es) [] pos) (calR φ c) :=
  PE.imp (pe_callF ck hf hr hk ha hn hg hdb he hpl) (rd_call (ex := fun _ r => r) (fun _ h => h) ha hn)
end

/-! ### what a loop walks -/
/-- an item: a value, or a new tuple -/
inductive Itm where
  | w (x : W)
  | t (ws : List W)
structure Items where
  its : List Itm
  chk : Option (Nat × Cell)
def Chk (chk : Option (Nat × Cell)) (st : Store) : Prop := match chk with
  | none => True
  | some (n, c) => st[n]? = some c
abbrev Iv := Env → Store → Res Items
def IR (K : Frg) (F : Hp) (al : List Addr) (v : V) : Itm → Prop
  | .w x => WR K F al v x
  | .t ws => ∃ a vs, v = .ref a ∧ SqT K F a vs ∧ WRs K F al vs ws
def Good (K : Frg) (F0 : Hp) (al0 : List Addr) (I : Items) (J : It) : Prop := ∀ F al st H, Ext F0 al0 F al → Rel K F al st H → Chk I.chk st →
  (∀ i y, I.its[i]? = some y → J.go i H ∧ ∀ x H', J.yld i H x H' → ∃ F', Ext F al F' al ∧ Rel K F' al st H' ∧ IR K F' al x y) ∧ J.stop I.its.length H
def rdI (K : Frg) (CA : Nat → Addr) (Wx : WX) (c : Iv) : TI := fun σ H R => ∃ F al env st, Rel K F al st H ∧ EnvR K F al σ env ∧
  Post K CA F al (c env st) (fun F' al' st' H' I => ∀ J, Good K F' al' I J → R J H') (fun cls d H' => Wx cls d σ H')
def SI (C : Cxt) (tg iter : Expr) (c : Iv) : Prop := PI C.X tg iter (rdI C.X.K C.CA C.Wx c)
theorem PI.imp {X : Cx} {tg e : Expr} {t t' : TI} (h : PI X tg e t) (k : ∀ σ H R, t' σ H R → t σ H R) : PI X tg e t' :=
  ⟨fun pins s σ H R I q => h.run pins s σ H R I (k σ H R q)⟩
theorem PI.or {X : Cx} {tg e : Expr} {t t' : TI} (h : PI X tg e t) (h' : PI X tg e t') : PI X tg e (fun σ H R => t σ H R ∨ t' σ H R) :=
  ⟨fun pins s σ H R I q => q.elim (h.run pins s σ H R I) (h'.run pins s σ H R I)⟩

def itL (ws : List W) : List Itm := ws.map Itm.w
def iSeq (a : Ev) : Iv := fun env st => (a env st).bind fun w st1 => match w with
  | .d (.list ds) => .ok ⟨itL (ds.map W.d), none⟩ st1
  | .r ds => .ok ⟨itL (ds.map W.d), none⟩ st1
  | .d (.tuple ds) => .ok ⟨itL (ds.map W.d), none⟩ st1
  | .c n => match st1[n]? with
    | some (.lst ws) => .ok ⟨itL ws, some (n, .lst ws)⟩ st1
    | _ => .bad
  | _ => .bad
theorem itL_get {ws : List W} {i : Nat} {y : Itm} (h : (itL ws)[i]? = some y) : ∃ w, ws[i]? = some w ∧ y = .w w := by
  unfold itL at h
  rw [List.getElem?_map, Option.map_eq_some_iff] at h
  obtain ⟨w, h1, h2⟩ := h
  exact ⟨w, h1, h2.symm⟩
theorem good_list {K : Frg} {F0 : Hp} {al0 : List Addr} {ws : List W} {chk : Option (Nat × Cell)} {a : Addr} (h : ∀ F al st H, Ext F0 al0 F al → Rel K F al st H → Chk chk st → ∃ vs, SqL K H a vs ∧ WRs K F al vs ws) : Good K F0 al0 ⟨itL ws, chk⟩ (Itl K a) := by
  intro F al st H x R ck
  obtain ⟨vs, q1, q2⟩ := h F al st H x R ck
  refine ⟨fun i y hy => ?_, vs, q1, by rw [q2.length]; exact Nat.le_of_eq (by simp [itL])⟩
  obtain ⟨w, hw, rfl⟩ := itL_get hy
  obtain ⟨v, h1, h2⟩ := Paired.getR q2 hw
  refine ⟨⟨vs, v, q1, h1⟩, fun z H' hz => ?_⟩
  obtain ⟨rfl, hz⟩ := hz
  have e := hz vs q1
  rw [h1] at e
  cases e
  exact ⟨F, Ext.refl, R, h2⟩

theorem good_tup {K : Frg} {F0 : Hp} {al0 : List Addr} {ws : List W} {a : Addr} (h : ∀ F al st H, Ext F0 al0 F al → Rel K F al st H → ∃ vs, SqT K H a vs ∧ WRs K F al vs ws) : Good K F0 al0 ⟨itL ws, none⟩ (Itt K a) := by
  intro F al st H x R ck
  obtain ⟨vs, q1, q2⟩ := h F al st H x R
  refine ⟨fun i y hy => ?_, vs, q1, by rw [q2.length]; exact Nat.le_of_eq (by simp [itL])⟩
  obtain ⟨w, hw, rfl⟩ := itL_get hy
  obtain ⟨v, h1, h2⟩ := Paired.getR q2 hw
  refine ⟨⟨vs, v, q1, h1⟩, fun z H' hz => ?_⟩
  obtain ⟨rfl, hz⟩ := hz
  have e := hz vs q1
  rw [h1] at e
  cases e
  exact ⟨F, Ext.refl, R, h2⟩
section
variable {C : Cxt} {tg : Expr}
theorem si_seq {e : Expr} {c : Ev} (he : SE C e c) : SI C tg e (iSeq c) := PI.imp (PI.or (pi_list he) (pi_tup he)) fun σ H Rr => by
  rintro ⟨F, al, env, st, R, E, h⟩
  by_cases ht : ∃ ds st1, c env st = .ok (.d (.tuple ds)) st1
  · obtain ⟨ds, st1, e1⟩ := ht
    refine .inr ⟨F, al, env, st, R, E, h.stepE fun F1 al1 st1 H1 w eq x1 R1 h1 v rv => ?_⟩
    rw [e1] at eq
    cases eq
    cases rv with
    | tup q1 q2 =>
      refine ⟨_, rfl, ⟨_, Same.tupq R1.sub q1⟩, h1 _ _ _ Ext.refl R1 _ (good_tup fun F al st H x R => ⟨_, Same.tupq (fun b o e => R.sub _ _ (x.same _ _ e)) q1, WRs.mono x (WRs_of_DqAll q2)⟩)⟩
  · refine .inl ⟨F, al, env, st, R, E, h.stepE fun F1 al1 st1 H1 w eq x1 R1 h1 v rv => ?_⟩
    split at h1
    · cases rv with
      | lst q1 q2 => exact ⟨_, rfl, ⟨_, SqL.of (R1.sub _ _ q1)⟩, h1 _ _ _ Ext.refl R1 _ (good_list fun F al st H x R _ => ⟨_, SqL.of (R.sub _ _ (x.same _ _ q1)), WRs.mono x (WRs_of_DqAll q2)⟩)⟩
    · obtain ⟨a, vs, rfl, q1, q2⟩ := rv
      exact ⟨_, rfl, ⟨_, Same.seq R1.sub q1⟩, h1 _ _ _ Ext.refl R1 _ (good_list fun F al st H x R _ => ⟨_, Same.seq (fun b o e => R.sub _ _ (x.same _ _ e)) q1, WRs.mono x (WRs_of_DqAll q2)⟩)⟩
    · exact (ht ⟨_, _, eq⟩).elim
    · split at h1
      · rename_i n _ ws hn
        obtain ⟨a, ha, rfl⟩ := rv
        obtain ⟨_, vs, q1, q2⟩ := R1.cell _ _ _ ha hn
        refine ⟨_, rfl, ⟨_, SqL.of q1⟩, h1 _ _ _ Ext.refl R1 _ (good_list fun F al st H x R ck => ?_)⟩
        obtain ⟨_, us, z1, z2⟩ := R.cell _ _ _ (x.get ha) ck
        exact ⟨us, SqL.of z1, z2⟩
      · exact h1.elim
    · exact h1.elim
/-! ranges -/
def rngI (lo : Int) (n : Nat) : List Itm := (List.range n).map fun (i : Nat) => Itm.w (.d (.int (lo + (i : Int))))
def iRg1 (a : Av) : Iv := fun env st => (a env st).bind fun ws st1 => match ws with
  | [.d (.int j)] => if -(2 ^ 62) ≤ j ∧ j < 2 ^ 62 then .ok ⟨rngI 0 j.toNat, none⟩ st1 else .bad
  | _ => .bad
def iRg2 (a : Av) : Iv := fun env st => (a env st).bind fun ws st1 => match ws with
  | [.d (.int i), .d (.int j)] => if -(2 ^ 62) ≤ i ∧ i < 2 ^ 62 ∧ -(2 ^ 62) ≤ j ∧ j < 2 ^ 62 then .ok ⟨rngI i (j - i).toNat, none⟩ st1 else .bad
  | _ => .bad
theorem good_rng {K : Frg} {F0 : Hp} {al0 : List Addr} (lo : Int) (n : Nat) : Good K F0 al0 ⟨rngI lo n, none⟩ (Itr lo n) := by
  intro F al st H x R ck
  refine ⟨fun i y hy => ?_, by show n ≤ _; simp [rngI]⟩
  unfold rngI at hy
  rw [List.getElem?_map, Option.map_eq_some_iff] at hy
  obtain ⟨j, h1, rfl⟩ := hy
  have h2 := List.getElem?_eq_some_iff.mp h1
  obtain ⟨h3, h4⟩ := h2
  rw [List.getElem_range] at h4
  subst h4
  rw [List.length_range] at h3
  refine ⟨h3, fun z H' hz => ?_⟩
  obtain ⟨rfl, rfl⟩ := hz
  exact ⟨F, Ext.refl, R, .int _⟩
theorem si_rng1 {a : Expr} {c : Av} {p pos : Pos} (ha : SA C [a] c) (hm : C.X.mg "range" = none) (hg : Gl C.X "range" := by rfl) (hs : starEach [a] C.X.env = [(false, eval a C.X.env)] := by rfl) : SI C tg (.Call (.Name "range" p) [a] [] pos) (iRg1 c) := PI.imp (pi_range1 hg hm ha.pa hs) fun σ H Rr => by
  rintro ⟨F, al, env, st, R, E, h⟩
  refine ⟨F, al, env, st, R, E, h.stepE fun F1 al1 st1 H1 ws eq x1 R1 h1 vs rv => ?_⟩
  split at h1
  · split at h1
    · rename_i hk
      cases rv with
      | cons r1 t =>
        cases t
        cases r1
        exact ⟨_, rfl, hk.1, hk.2, h1 _ _ _ Ext.refl R1 _ (good_rng _ _)⟩
    · exact h1.elim
  · exact h1.elim
theorem si_rng2 {a b : Expr} {c : Av} {p pos : Pos} (ha : SA C [a, b] c) (hm : C.X.mg "range" = none) (hg : Gl C.X "range" := by rfl) (hs : starEach [a, b] C.X.env = [(false, eval a C.X.env), (false, eval b C.X.env)] := by rfl) (hs2 : starEach [b] C.X.env = [(false, eval b C.X.env)] := by rfl) :
    SI C tg (.Call (.Name "range" p) [a, b] [] pos) (iRg2 c) := PI.imp (pi_range2 hg hm ha.pa hs hs2) fun σ H Rr => by
  rintro ⟨F, al, env, st, R, E, h⟩
  refine ⟨F, al, env, st, R, E, h.stepE fun F1 al1 st1 H1 ws eq x1 R1 h1 vs rv => ?_⟩
  split at h1
  · split at h1
    · rename_i hk
      cases rv with
      | cons r1 t =>
        cases t with
        | cons r2 t =>
          cases t
          cases r1
          cases r2
          exact ⟨_, _, rfl, hk, h1 _ _ _ Ext.refl R1 _ (good_rng _ _)⟩
    · exact h1.elim
  · exact h1.elim
/-! enumerate -/
def enumI : Nat → List W → List Itm
  | _, [] => []
  | k, w :: ws => .t [.d (.int (k : Int)), w] :: enumI (k + 1) ws
def iEnu (a : Ev) : Iv := fun env st => (a env st).bind fun w st1 => match w with
  | .d (.list ds) => .ok ⟨enumI 0 (ds.map W.d), none⟩ st1
  | .r ds => .ok ⟨enumI 0 (ds.map W.d), none⟩ st1
  | .c n => match st1[n]? with
    | some (.lst ws) => .ok ⟨enumI 0 ws, some (n, .lst ws)⟩ st1
    | _ => .bad
  | _ => .bad
theorem enumI_get : ∀ {ws : List W} {k i : Nat} {y : Itm}, (enumI k ws)[i]? = some y → ∃ w, ws[i]? = some w ∧ y = .t [.d (.int ((k + i : Nat) : Int)), w]
  | [], k, i, y, h => by simp [enumI] at h
  | w :: ws, k, 0, y, h => by
    simp [enumI] at h
    exact ⟨w, rfl, h.symm⟩
  | w :: ws, k, i + 1, y, h => by
    simp only [enumI, List.getElem?_cons_succ] at h
    obtain ⟨w', h1, h2⟩ := enumI_get h
    refine ⟨w', by simpa using h1, ?_⟩
    rw [h2]
    have : k + 1 + i = k + (i + 1) := by omega
    rw [this]
theorem enumI_len : ∀ (ws : List W) (k : Nat), (enumI k ws).length = ws.length
  | [], _ => rfl
  | w :: ws, k => by simp [enumI, enumI_len ws (k + 1)]
theorem good_enu {K : Frg} {F0 : Hp} {al0 : List Addr} {ws : List W} {chk : Option (Nat × Cell)} {a : Addr} (h : ∀ F al st H, Ext F0 al0 F al → Rel K F al st H → Chk chk st → ∃ vs, SqL K H a vs ∧ WRs K F al vs ws) : Good K F0 al0 ⟨enumI 0 ws, chk⟩ (Ite K a) := by
  intro F al st H x R ck
  obtain ⟨vs, q1, q2⟩ := h F al st H x R ck
  refine ⟨fun i y hy => ?_, vs, q1, by rw [q2.length]; exact Nat.le_of_eq (by simp [enumI_len])⟩
  obtain ⟨w, hw, rfl⟩ := enumI_get hy
  obtain ⟨v, h1, h2⟩ := Paired.getR q2 hw
  refine ⟨⟨vs, v, q1, h1⟩, fun z H' hz => ?_⟩
  obtain ⟨T, y, rfl, hT, rfl, hz⟩ := hz
  have e := hz vs q1
  rw [h1] at e
  cases e
  obtain ⟨x2, R2⟩ := R.newD hT (.tup [.int (i : Nat), v])
  refine ⟨_, x2, R2, T, _, rfl, SqT.of upd_same, .cons ?_ (.cons (h2.mono x2) .nil)⟩
  rw [Nat.zero_add]
  exact .int _
theorem si_enu {e : Expr} {c : Ev} {p pos tpos : Pos} {elts : List Expr} {kk : Nat} (he : SE C e c) (hm : C.X.mg "enumerate" = none) (hg : Gl C.X "enumerate" := by rfl) (hs : starEach [e] C.X.env = [(false, eval e C.X.env)] := by rfl) (hs1 : starEach (e :: []) C.X.env = (false, eval e C.X.env) :: starEach [] C.X.env := by rfl) :
    SI C (.Tuple elts kk tpos) (.Call (.Name "enumerate" p) [e] [] pos) (iEnu c) := PI.imp (pi_enum hg hm (pa_cons he pa_nil hs1) hs) fun σ H Rr => by
  rintro ⟨F, al, env, st, R, E, h⟩
  refine ⟨F, al, env, st, R, E, h.stepE fun F1 al1 st1 H1 w eq x1 R1 h1 v rv => ?_⟩
  split at h1
  · cases rv with
    | lst q1 q2 => exact ⟨_, _, rfl, SqL.of (R1.sub _ _ q1), h1 _ _ _ Ext.refl R1 _ (good_enu fun F al st H x R _ => ⟨_, SqL.of (R.sub _ _ (x.same _ _ q1)), WRs.mono x (WRs_of_DqAll q2)⟩)⟩
  · obtain ⟨a, vs, rfl, q1, q2⟩ := rv
    exact ⟨_, _, rfl, Same.seq R1.sub q1, h1 _ _ _ Ext.refl R1 _ (good_enu fun F al st H x R _ => ⟨_, Same.seq (fun b o e => R.sub _ _ (x.same _ _ e)) q1, WRs.mono x (WRs_of_DqAll q2)⟩)⟩
  · split at h1
    · rename_i n _ ws hn
      obtain ⟨a, ha, rfl⟩ := rv
      obtain ⟨_, vs, q1, q2⟩ := R1.cell _ _ _ ha hn
      refine ⟨_, _, rfl, SqL.of q1, h1 _ _ _ Ext.refl R1 _ (good_enu fun F al st H x R ck => ?_)⟩
      obtain ⟨_, us, z1, z2⟩ := R.cell _ _ _ (x.get ha) ck
      exact ⟨us, SqL.of z1, z2⟩
    · exact h1.elim
  · exact h1.elim
end

/-! ### targets of loops -/
abbrev Ti := Itm → Env → Store → Option (Env × Store)
def rdGI (K : Frg) (g : Ti) : TG := fun v σ H Q => ∃ F al env st y, Rel K F al st H ∧ EnvR K F al σ env ∧ IR K F al v y ∧ GPost K F al (g y env st) Q
def SGI (C : Cxt) (e : Expr) (g : Ti) : Prop := PG C.X e (rdGI C.X.K g)
def tiW (g : Tg) : Ti := fun y env st => match y with
  | .w x => g x env st
  | .t ws => match allD ws with
    | some ds => g (.d (.tuple ds)) env st
    | none => none
def tiT (n : Nat) (g : Tgs) : Ti := fun y env st => match y with
  | .w x => gT n g x env st
  | .t ws => if ws.length = n then g ws env st else none
section
variable {C : Cxt}
theorem sgi_w {e : Expr} {g : Tg} (h : SG C e g) : SGI C e (tiW g) := PG.imp h fun v σ H Q => by
  rintro ⟨F, al, env, st, y, R, E, r, q⟩
  cases y with
  | w x => exact ⟨F, al, env, st, x, R, E, r, q⟩
  | t ws =>
    unfold tiW at q
    simp only at q
    split at q
    · rename_i ds e
      obtain ⟨a, vs, rfl, h1, h2⟩ := r
      exact ⟨F, al, env, st, .d (.tuple ds), R, E, Dq.tup h1 (allD_rel h2 e), q⟩
    · exact q.elim
theorem sgi_tup {es : List Expr} {k : Nat} {g : Tgs} {n : Nat} {pos : Pos} (hc : C.X.calm = true) (h : SGs C es g) (hn : (assignEach es C.X.env).length = n := by rfl) (hst : (assignEach es C.X.env).findIdx? (·.1) = none := by rfl) : SGI C (.Tuple es k pos) (tiT n g) :=
  PG.imp (pg_tup hc h hn hst) fun v σ H Q => by
    rintro ⟨F, al, env, st, y, R, E, r, q⟩
    cases y with
    | w x =>
      have q' : GPost C.X.K F al (gT n g x env st) Q := q
      unfold gT at q'
      split at q'
      · rename_i ws e1
        split at q'
        · rename_i hl
          obtain ⟨a, vs, rfl, s1, q1⟩ := itmT_rel R r e1
          exact ⟨a, vs, rfl, s1, by rw [q1.length]; exact hl, F, al, env, st, ws, R, E, q1, q'⟩
        · exact q'.elim
      · exact q'.elim
    | t ws =>
      unfold tiT at q
      simp only at q
      split at q
      · rename_i hl
        obtain ⟨a, vs, rfl, h1, h2⟩ := r
        exact ⟨a, vs, rfl, Same.tupq R.sub h1, by rw [h2.length]; exact hl, F, al, env, st, ws, R, E, h2, q⟩
      · exact q.elim
end

/-! ### for -/
open Classical in
noncomputable def forL (g : Ti) (b : Sd) (chk : Option (Nat × Cell)) : List Itm → Sd
  | [], env, st => if Chk chk st then .nx env st else .bad
  | y :: ys, env, st => if Chk chk st then (match g y env st with
    | some (env1, st1) => match b env1 st1 with
      | .nx env2 st2 => forL g b chk ys env2 st2
      | .ct env2 st2 => forL g b chk ys env2 st2
      | .bk env2 st2 => .nx env2 st2
      | r => r
    | none => .bad) else .bad
noncomputable def forS (c : Iv) (g : Ti) (b : Sd) : Sd := fun env st => (c env st).fl env fun I st1 => forL g b I.chk I.its env st1
section
variable {C : Cxt}
theorem ss_for {tg iter : Expr} {body : List Stmt} {c : Iv} {g : Ti} {b : Sd} {pos : Pos} (ck : Cok C) (hi : SI C tg iter c) (hg : SGI C tg g) (hb : SSs C body b) (hs : ∀ x, foldedSetIterable iter C.X.env x = pure x := by intro _; rfl) : SS C (.For tg iter body [] pos) (forS c g b) :=
  PS.imp (ps_for ck.po ck.calm hi hg hb hs) fun D σ H => by
  rintro ⟨F, al, env, st, R, E, h⟩
  refine ⟨F, al, env, st, R, E, FPost.step E h fun F0 al0 st0 H0 I eq x0 R0 E0 h0 => ?_⟩
  refine fun J hJ => ?_
  refine ⟨fun i m σ H => i ≤ I.its.length ∧ m = I.its.length - i ∧ ∃ F al env st, Ext F0 al0 F al ∧ Rel C.X.K F al st H ∧ EnvR C.X.K F al σ env ∧ FPost C.X.K C.CA F al (forL g b I.chk (I.its.drop i) env st) D C.Wx,
    ⟨_, Nat.zero_le _, rfl, F0, al0, env, st0, Ext.refl, R0, E0, h0⟩, ?_⟩
  rintro i m σ H ⟨hi, rfl, F, al, env, st, x, R, E, h⟩
  by_cases hlt : i < I.its.length
  · rw [List.drop_eq_getElem_cons hlt] at h
    unfold forL at h
    split at h
    · rename_i hck
      obtain ⟨q1, q2⟩ := hJ F al st H x R hck
      obtain ⟨hgo, hy⟩ := q1 i I.its[i] (List.getElem?_eq_some_iff.mpr ⟨hlt, rfl⟩)
      refine .inr ⟨hgo, fun σ' H' => (i + 1) ≤ I.its.length ∧ ∃ F al env st, Ext F0 al0 F al ∧ Rel C.X.K F al st H' ∧ EnvR C.X.K F al σ' env ∧ FPost C.X.K C.CA F al (forL g b I.chk (I.its.drop (i + 1)) env st) D C.Wx,
        fun σ' H' hN => ⟨I.its.length - (i + 1), by omega, hN.1, rfl, hN.2⟩, fun z H' hz => ?_⟩
      obtain ⟨F2, x2, R2, r2⟩ := hy z H' hz
      refine ⟨F2, al, env, st, I.its[i], R2, E.mono x2, r2, ?_⟩
      split at h
      · rename_i env1 st1 e1
        rw [e1]
        intro F3 al3 σ3 H3 x3 R3 E3
        refine ⟨F3, al3, env1, st1, R3, E3, ?_⟩
        have xx := x.trans (x2.trans x3)
        have h3 := h.at (x2.trans x3)
        split at h3
        · rename_i env2 st2 e2
          rw [e2]
          exact fun F4 al4 σ4 H4 x4 R4 E4 => ⟨hlt, F4, al4, env2, st2, xx.trans x4, R4, E4, h3.at x4⟩
        · rename_i env2 st2 e2
          rw [e2]
          exact fun F4 al4 σ4 H4 x4 R4 E4 => ⟨hlt, F4, al4, env2, st2, xx.trans x4, R4, E4, h3.at x4⟩
        · rename_i env2 st2 e2
          rw [e2]
          exact h3
        · rename_i r n1 n2 n3
          revert h3 n1 n2 n3
          cases b env1 st1 with
          | nx e s => exact fun n1 _ _ _ => (n1 _ _ rfl).elim
          | ct e s => exact fun _ n2 _ _ => (n2 _ _ rfl).elim
          | bk e s => exact fun _ _ n3 _ => (n3 _ _ rfl).elim
          | rt w s => exact fun _ _ _ h3 => h3
          | ex er e s => exact fun _ _ _ h3 => h3
          | bad => exact fun _ _ _ h3 => h3
      · exact h.elim
    · exact h.elim
  · have e : i = I.its.length := by omega
    subst e
    rw [List.drop_length] at h
    unfold forL at h
    split at h
    · rename_i hck
      obtain ⟨q1, q2⟩ := hJ F al st H x R hck
      exact .inl ⟨q2, h _ _ _ _ Ext.refl R E⟩
    · exact h.elim

/-! ### while -/
/-- so many turns at the most -/
def whl (t : Tst) (b : Sd) : Nat → Env → Store → Option Fl
  | 0, _, _ => none
  | n + 1, env, st => match t env st with
    | .ok true st1 => match b env st1 with
      | .nx env2 st2 => whl t b n env2 st2
      | .ct env2 st2 => whl t b n env2 st2
      | .bk env2 st2 => some (.nx env2 st2)
      | r => some r
    | .ok false st1 => some (.nx env st1)
    | .exn e st1 => some (.ex e env st1)
    | .bad => some .bad
open Classical in
noncomputable def whileS (t : Tst) (b : Sd) : Sd := fun env st => if h : ∃ n r, whl t b n env st = some r then Classical.choose (Classical.choose_spec h) else .bad
theorem whl_succ (t : Tst) (b : Sd) (n : Nat) (env : Env) (st : Store) : whl t b (n + 1) env st = (match t env st with
    | .ok true st1 => match b env st1 with
      | .nx env2 st2 => whl t b n env2 st2
      | .ct env2 st2 => whl t b n env2 st2
      | .bk env2 st2 => some (.nx env2 st2)
      | r => some r
    | .ok false st1 => some (.nx env st1)
    | .exn e st1 => some (.ex e env st1)
    | .bad => some .bad) := rfl
theorem whl_more (t : Tst) (b : Sd) : ∀ (n : Nat) (env : Env) (st : Store) (r : Fl), whl t b n env st = some r → whl t b (n + 1) env st = some r
  | 0, env, st, r, h => by simp [whl] at h
  | n + 1, env, st, r, h => by
    revert h
    rw [whl_succ, whl_succ]
    cases t env st with
    | ok x st1 =>
      cases x with
      | true =>
        simp only
        cases b env st1 with
        | nx env2 st2 => exact fun h => whl_more t b n env2 st2 r h
        | ct env2 st2 => exact fun h => whl_more t b n env2 st2 r h
        | bk e s => exact fun h => h
        | rt w s => exact fun h => h
        | ex er e s => exact fun h => h
        | bad => exact fun h => h
      | false => exact fun h => h
    | exn e st1 => exact fun h => h
    | bad => exact fun h => h
theorem whl_le (t : Tst) (b : Sd) {n m : Nat} (h : n ≤ m) {env : Env} {st : Store} {r : Fl} (e : whl t b n env st = some r) : whl t b m env st = some r := by
  induction h with
  | refl => exact e
  | step _ ih => exact whl_more t b _ env st r ih
theorem whileS_of {t : Tst} {b : Sd} {n : Nat} {env : Env} {st : Store} {r : Fl} (e : whl t b n env st = some r) : whileS t b env st = r := by
  have h : ∃ n r, whl t b n env st = some r := ⟨n, r, e⟩
  unfold whileS
  rw [dif_pos h]
  have h2 := Classical.choose_spec (Classical.choose_spec h)
  have h3 := whl_le t b (Nat.le_max_left n (Classical.choose h)) e
  have h4 := whl_le t b (Nat.le_max_right n (Classical.choose h)) h2
  rw [h3] at h4
  exact (Option.some.inj h4).symm
theorem ss_while {tst : Expr} {body : List Stmt} {t : Tst} {b : Sd} {pos : Pos} (ck : Cok C) (ht : ST C tst t) (hb : SSs C body b) : SS C (.While tst body [] pos) (whileS t b) :=
  PS.imp (ps_while ck.po ht hb) fun D σ H => by
  rintro ⟨F, al, env, st, R, E, h⟩
  by_cases hx : ∃ n r, whl t b n env st = some r
  · obtain ⟨n, r, hr⟩ := hx
    rw [whileS_of hr] at h
    refine ⟨fun m σ H => ∃ F al env st r, Rel C.X.K F al st H ∧ EnvR C.X.K F al σ env ∧ whl t b m env st = some r ∧ FPost C.X.K C.CA F al r D C.Wx, ⟨n, F, al, env, st, r, R, E, hr, h⟩, ?_⟩
    rintro m σ H ⟨F, al, env, st, r, R, E, hr, h⟩
    cases m with
    | zero => simp [whl] at hr
    | succ m =>
      refine ⟨F, al, env, st, R, E, ?_⟩
      unfold whl at hr
      split at hr
      · rename_i st1 e1
        rw [e1]
        intro F1 al1 H1 x1 R1
        refine iteT ⟨fun σ' H' => ∃ F al env st r, Rel C.X.K F al st H' ∧ EnvR C.X.K F al σ' env ∧ whl t b m env st = some r ∧ FPost C.X.K C.CA F al r D C.Wx, fun σ' H' hN => ⟨m, Nat.lt_succ_self _, hN⟩, ?_⟩
        refine ⟨F1, al1, env, st1, R1, E.mono x1, ?_⟩
        have h1 := h.at x1
        split at hr
        · rename_i env2 st2 e2
          rw [e2]
          exact fun F4 al4 σ4 H4 x4 R4 E4 => ⟨F4, al4, env2, st2, r, R4, E4, hr, h1.at x4⟩
        · rename_i env2 st2 e2
          rw [e2]
          exact fun F4 al4 σ4 H4 x4 R4 E4 => ⟨F4, al4, env2, st2, r, R4, E4, hr, h1.at x4⟩
        · rename_i env2 st2 e2
          rw [e2]
          cases hr
          exact h1
        · rename_i n1 n2 n3
          revert hr n1 n2 n3
          cases b env st1 with
          | nx e s => exact fun n1 _ _ _ => (n1 _ _ rfl).elim
          | ct e s => exact fun _ n2 _ _ => (n2 _ _ rfl).elim
          | bk e s => exact fun _ _ n3 _ => (n3 _ _ rfl).elim
          | rt w s => exact fun _ _ _ hr => by cases hr; exact h1
          | ex er e s => exact fun _ _ _ hr => by cases hr; exact h1
          | bad => exact fun _ _ _ hr => by cases hr; exact h1
      · rename_i st1 e1
        rw [e1]
        cases hr
        exact fun F1 al1 H1 x1 R1 => iteF (h F1 al1 σ H1 x1 R1 (E.mono x1))
      · rename_i er st1 e1
        rw [e1]
        cases hr
        exact fun F1 al1 H1 cls d x1 R1 q => h F1 al1 σ H1 cls d x1 R1 (E.mono x1) q
      · cases hr
        exact h.elim
  · unfold whileS at h
    rw [dif_neg hx] at h
    exact h.elim
end
end VS

set_option Elab.async false
set_option linter.all false
set_option maxRecDepth 100000
set_option maxHeartbeats 1000000
/-! VS7: comprehensions. -/
namespace VS
open PySem PySem.Spec PyProof.Rows L2

/-! ### targets, with the slots that they store -/
def Agr (js : List Nat) (σ σ' : L2.St) : Prop := σ'.length = σ.length ∧ ∀ i, i ∉ js → σ'[i]? = σ[i]?
theorem Agr.refl {js : List Nat} {σ : L2.St} : Agr js σ σ := ⟨rfl, fun _ _ => rfl⟩
theorem Agr.trans {js : List Nat} {σ σ1 σ2 : L2.St} (a : Agr js σ σ1) (b : Agr js σ1 σ2) : Agr js σ σ2 := ⟨b.1.trans a.1, fun i h => (b.2 i h).trans (a.2 i h)⟩
theorem Agr.mono {js ks : List Nat} {σ σ' : L2.St} (a : Agr js σ σ') (h : ∀ i ∈ js, i ∈ ks) : Agr ks σ σ' := ⟨a.1, fun i q => a.2 i fun z => q (h i z)⟩
theorem wipe_get (σ : L2.St) : ∀ (vs : List Nat) (i : Nat), (wipe σ vs)[i]? = if i ∈ vs then (σ[i]?).map fun _ => none else σ[i]?
  | [], i => by simp [wipe]
  | v :: vs, i => by
    unfold wipe
    by_cases h : v = i
    · subst h
      rw [if_pos List.mem_cons_self]
      by_cases hv : v < σ.length
      · rw [List.getElem?_set_self (by rw [wipe_length]; exact hv)]
        rw [List.getElem?_eq_getElem hv]
        rfl
      · rw [List.getElem?_eq_none (by rw [List.length_set, wipe_length]; omega), List.getElem?_eq_none (by omega)]
        rfl
    · rw [List.getElem?_set_ne h, wipe_get σ vs i]
      have e : (i ∈ v :: vs) ↔ (i ∈ vs) := by
        rw [List.mem_cons]
        exact ⟨fun z => z.elim (fun z => absurd z.symm h) id, .inr⟩
      by_cases hi : i ∈ vs
      · rw [if_pos hi, if_pos (e.mpr hi)]
      · rw [if_neg hi, if_neg (fun z => hi (e.mp z))]
theorem wipe_agr {js : List Nat} {σ σ' : L2.St} (a : Agr js σ σ') : wipe σ' js = wipe σ js := by
  apply List.ext_getElem?
  intro i
  rw [wipe_get, wipe_get]
  by_cases h : i ∈ js
  · rw [if_pos h, if_pos h]
    have e : σ'[i]?.isSome = σ[i]?.isSome := by
      by_cases hl : i < σ.length
      · rw [List.getElem?_eq_getElem hl, List.getElem?_eq_getElem (by rw [a.1]; exact hl)]
        rfl
      · have hl' := a.1
        rw [List.getElem?_eq_none (by omega), List.getElem?_eq_none (by omega)]
    cases h1 : σ'[i]? <;> cases h2 : σ[i]? <;> rw [h1, h2] at e <;> first | rfl | cases e
  · rw [if_neg h, if_neg h, a.2 i h]
theorem wipe_wipe {js : List Nat} {σ : L2.St} : wipe (wipe σ js) js = wipe σ js := by
  apply List.ext_getElem?
  intro i
  rw [wipe_get, wipe_get]
  by_cases h : i ∈ js
  · rw [if_pos h, if_pos h, ]
    cases σ[i]? <;> rfl
  · rw [if_neg h, if_neg h]
def wipeE (env : Env) : List Nat → Env
  | [] => env
  | v :: vs => (wipeE env vs).set v none
theorem wipe_rel {K : Frg} {F : Hp} {al : List Addr} {σ : L2.St} {env : Env} (E : EnvR K F al σ env) : ∀ vs : List Nat, EnvR K F al (wipe σ vs) (wipeE env vs)
  | [] => E
  | v :: vs => Paired.setB (fun w e => by cases e) v (wipe_rel E vs)
def CPost (K : Frg) (F : Hp) (al : List Addr) (r : Option (Env × Store)) (js : List Nat) (σ : L2.St) (Q : L2.St → Hp → Prop) : Prop := match r with
  | some (env, st) => ∀ F' al' σ' H', Ext F al F' al' → Rel K F' al' st H' → EnvR K F' al' σ' env → Agr js σ σ' → Q σ' H'
  | none => False
theorem CPost.at {K : Frg} {F F' : Hp} {al al' : List Addr} {r : Option (Env × Store)} {js : List Nat} {σ : L2.St} {Q : L2.St → Hp → Prop} (h : CPost K F al r js σ Q) (e : Ext F al F' al') : CPost K F' al' r js σ Q := by
  cases r with
  | none => exact h
  | some p =>
    obtain ⟨env, st⟩ := p
    exact fun F2 al2 σ H x => h F2 al2 σ H (e.trans x)
def rdC (K : Frg) (g : Ti) (js : List Nat) : TG := fun v σ H Q => ∃ F al env st y, Rel K F al st H ∧ EnvR K F al σ env ∧ IR K F al v y ∧ CPost K F al (g y env st) js σ Q
def SGC (X : Cx) (e : Expr) (g : Ti) (js : List Nat) : Prop := PG X e (rdC X.K g js)
def rdCs (K : Frg) (g : Tgs) (js : List Nat) : TGs := fun vs σ H Q => ∃ F al env st ws, Rel K F al st H ∧ EnvR K F al σ env ∧ WRs K F al vs ws ∧ CPost K F al (g ws env st) js σ Q
def SGCs (X : Cx) (es : List Expr) (g : Tgs) (js : List Nat) : Prop := PGs X es (rdCs X.K g js)
section
variable {X : Cx}
theorem agr_set {σ : L2.St} {i : Nat} {v : Option V} : Agr [i] σ (σ.set i v) := ⟨List.length_set, fun j h => List.getElem?_set_ne (fun e => h (by rw [e]; exact List.mem_singleton_self _))⟩
theorem sgc_name (nd : X.N.Nodup) (i : Nat) {x : Str} {pos : Pos} (hi : X.N[i]? = some x := by rfl) (hx : Loc X.env.scope x := by first | exact Or.inl rfl | exact Or.inr rfl) (hf : X.fn x = true ∨ X.env.scope.names.lookup x = some .local := by first | exact .inl rfl | exact .inr rfl) : SGC X (.Name x pos) (tiW (gN i)) [i] :=
  PG.imp (pg_name nd hi hx hf) fun v σ H Q => by
    rintro ⟨F, al, env, st, y, R, E, r, h⟩
    cases y with
    | w x => exact h _ _ _ _ Ext.refl R (E.set r i) agr_set
    | t ws =>
      unfold tiW at h
      simp only at h
      split at h
      · rename_i ds e
        obtain ⟨a, vs, rfl, h1, h2⟩ := r
        exact h _ _ _ _ Ext.refl R (E.set (w := .d (.tuple ds)) (Dq.tup h1 (allD_rel h2 e)) i) agr_set
      · exact h.elim
theorem sgcs_name (nd : X.N.Nodup) (i : Nat) {x : Str} {pos : Pos} (hi : X.N[i]? = some x) (hx : Loc X.env.scope x) (hf : X.fn x = true ∨ X.env.scope.names.lookup x = some .local) : PG X (.Name x pos) (fun v σ H Q => ∃ F al env st w, Rel X.K F al st H ∧ EnvR X.K F al σ env ∧ WR X.K F al v w ∧ CPost X.K F al (gN i w env st) [i] σ Q) :=
  PG.imp (pg_name nd hi hx hf) fun v σ H Q => by
    rintro ⟨F, al, env, st, y, R, E, r, h⟩
    exact h _ _ _ _ Ext.refl R (E.set r i) agr_set
/-- an element of a tuple target -/
def SGE (X : Cx) (e : Expr) (g : Tg) (js : List Nat) : Prop := PG X e (fun v σ H Q => ∃ F al env st w, Rel X.K F al st H ∧ EnvR X.K F al σ env ∧ WR X.K F al v w ∧ CPost X.K F al (g w env st) js σ Q)
theorem sge_name (nd : X.N.Nodup) (i : Nat) {x : Str} {pos : Pos} (hi : X.N[i]? = some x := by rfl) (hx : Loc X.env.scope x := by first | exact Or.inl rfl | exact Or.inr rfl) (hf : X.fn x = true ∨ X.env.scope.names.lookup x = some .local := by first | exact .inl rfl | exact .inr rfl) : SGE X (.Name x pos) (gN i) [i] := sgcs_name nd i hi hx hf
theorem sgcs_nil : SGCs X [] gsNil [] := PGs.imp pgs_nil fun vs σ H Q => by
  rintro ⟨F, al, env, st, ws, R, E, r, h⟩
  cases r with
  | nil => exact ⟨rfl, h _ _ _ _ Ext.refl R E Agr.refl⟩
  | cons r t => exact h.elim
theorem sgcs_cons {e : Expr} {es : List Expr} {g : Tg} {gs : Tgs} {js ks : List Nat} (h1 : SGE X e g js) (h2 : SGCs X es gs ks) (hs : (assignEach (e :: es) X.env).map (·.2) = assign e X.env :: (assignEach es X.env).map (·.2) := by rfl) : SGCs X (e :: es) (gsCons g gs) (js ++ ks) :=
  PGs.imp (pgs_cons h1 h2 hs) fun vs σ H Q => by
    rintro ⟨F, al, env, st, ws, R, E, r, h⟩
    cases r with
    | nil => exact h.elim
    | cons r t =>
      rename_i v w vs ws
      refine ⟨v, vs, rfl, F, al, env, st, w, R, E, r, ?_⟩
      unfold gsCons at h
      simp only at h
      split at h
      · rename_i env1 st1 e1
        rw [e1]
        refine fun F' al' σ' H' x R' E' ag => ⟨F', al', env1, st1, ws, R', E', WRs.mono x t, ?_⟩
        have h' := h.at x
        cases q : gs ws env1 st1 with
        | none => rw [q] at h'; exact h'.elim
        | some p =>
          rw [q] at h'
          obtain ⟨env2, st2⟩ := p
          exact fun F2 al2 σ2 H2 x2 R2 E2 ag2 => h' F2 al2 σ2 H2 x2 R2 E2 ((ag.mono fun i hi => List.mem_append_left _ hi).trans (ag2.mono fun i hi => List.mem_append_right _ hi))
      · exact h.elim
theorem sge_tup {es : List Expr} {k : Nat} {g : Tgs} {n : Nat} {js : List Nat} {pos : Pos} (hc : X.calm = true) (h : SGCs X es g js) (hn : (assignEach es X.env).length = n := by rfl) (hst : (assignEach es X.env).findIdx? (·.1) = none := by rfl) : SGE X (.Tuple es k pos) (gT n g) js :=
  PG.imp (pg_tup hc h hn hst) fun v σ H Q => by
    rintro ⟨F, al, env, st, w, R, E, r, h⟩
    unfold gT at h
    split at h
    · rename_i ws e1
      split at h
      · rename_i hl
        obtain ⟨a, vs, rfl, s1, q1⟩ := itmT_rel R r e1
        exact ⟨a, vs, rfl, s1, by rw [q1.length]; exact hl, F, al, env, st, ws, R, E, q1, h⟩
      · exact h.elim
    · exact h.elim
theorem sgc_tup {es : List Expr} {k : Nat} {g : Tgs} {n : Nat} {js : List Nat} {pos : Pos} (hc : X.calm = true) (h : SGCs X es g js) (hn : (assignEach es X.env).length = n := by rfl) (hst : (assignEach es X.env).findIdx? (·.1) = none := by rfl) : SGC X (.Tuple es k pos) (tiT n g) js :=
  PG.imp (pg_tup hc h hn hst) fun v σ H Q => by
    rintro ⟨F, al, env, st, y, R, E, r, q⟩
    cases y with
    | w x =>
      have q' : CPost X.K F al (gT n g x env st) js σ Q := q
      unfold gT at q'
      split at q'
      · rename_i ws e1
        split at q'
        · rename_i hl
          obtain ⟨a, vs, rfl, s1, q1⟩ := itmT_rel R r e1
          exact ⟨a, vs, rfl, s1, by rw [q1.length]; exact hl, F, al, env, st, ws, R, E, q1, q'⟩
        · exact q'.elim
      · exact q'.elim
    | t ws =>
      unfold tiT at q
      simp only at q
      split at q
      · rename_i hl
        obtain ⟨a, vs, rfl, h1, h2⟩ := r
        exact ⟨a, vs, rfl, Same.tupq R.sub h1, by rw [h2.length]; exact hl, F, al, env, st, ws, R, E, h2, q⟩
      · exact q.elim
end

/-! ### the loop of a comprehension: n is the new list's cell -/
open Classical in
noncomputable def lcL (g : Ti) (t : Tst) (e : Ev) (chk : Option (Nat × Cell)) (n : Nat) (env : Env) : List Itm → Store → Res W
  | [], st => if Chk chk st then .ok (.c n) st else .bad
  | y :: ys, st => if Chk chk st then (match g y env st with
    | some (env1, st1) => match t env1 st1 with
      | .ok true st2 => match e env1 st2 with
        | .ok w st3 => match st3[n]? with
          | some (.lst acc) => if acc.length < sizeLine then lcL g t e chk n env ys (st3.set n (.lst (acc ++ [w]))) else .bad
          | _ => .bad
        | _ => .bad
      | .ok false st2 => lcL g t e chk n env ys st2
      | _ => .bad
    | none => .bad) else .bad
noncomputable def lcB (I : Iv) (g : Ti) (t : Tst) (e : Ev) (vs : List Nat) (ex : Store → Res W → Res W) : Ev := fun env st => (I env st).bind fun I st1 => ex st1 (lcL g t e I.chk st1.length (wipeE env vs) I.its (st1 ++ [.lst []]))
/-- frozen; to be changed -/
noncomputable def lcD (I : Iv) (g : Ti) (t : Tst) (e : Ev) (vs : List Nat) : Ev := lcB I g t e vs expo
noncomputable def lcC (I : Iv) (g : Ti) (t : Tst) (e : Ev) (vs : List Nat) : Ev := lcB I g t e vs expoC
def tYesD : Tst := fun _ st => .ok true st
/-- a block's context -/
abbrev Cxt.blk (C : Cxt) (s : Shared) (H : Hp) (scope : Scope) (cl : List (Str × Addr)) (L : Addr) (fp : List Addr) : Cxt :=
  ⟨C.X.blk s H scope (compEnvC scope cl L C.X.env) fp, C.CA, fun _ _ _ _ => False⟩
theorem blk_ok {C : Cxt} (ck : Cok C) {s : Shared} {H : Hp} {scope : Scope} {cl : List (Str × Addr)} {L : Addr} {fp : List Addr} : Cok (C.blk s H scope cl L fp) := ⟨ck.calm, ck.nd, ck.hu, ck.gd, takes0, PassesOwn.never⟩
def STs (C : Cxt) (es : List Expr) (c : Tst) : Prop := PTs C.X es (rdT C.X.K C.CA C.Wx c)
section
variable {C : Cxt}
theorem sts_nil : STs C [] tYesD := by
  refine ⟨fun pins s σ H Q I h => pts_nil.run pins s σ H Q I ?_⟩
  obtain ⟨F, al, env, st, R, E, h⟩ := h
  exact h _ _ _ Ext.refl R
theorem sts_one {e : Expr} {c : Tst} (h : ST C e c) : STs C [e] c := ⟨fun pins s σ H Q I hw => (pts_one h).run pins s σ H Q I hw⟩
theorem rd_lc {I : Iv} {g : Ti} {t : Tst} {e : Ev} {vs js : List Nat} {ex : Store → Res W → Res W} (hjs : ∀ i ∈ js, i ∈ vs)
    (hx : ∀ {F : Hp} {al : List Addr} {st : Store} {H : Hp} {r : Res W} {Q : VK} {E : Value → Option Addr → Hp → Prop}, Rel C.X.K F al st H → Post C.X.K C.CA F al (ex st r) (fun F' al' _ H' w => ∀ v, WR C.X.K F' al' v w → Q v H') E → Post C.X.K C.CA F al r (fun F' al' _ H' w => ∀ v, WR C.X.K F' al' v w → Q v H') E) :
    ∀ σ H Q, rdE C.X.K C.CA C.Wx (lcB I g t e vs ex) σ H Q → tLc (rdI C.X.K C.CA C.Wx I) (rdC C.X.K g js) (rdT C.X.K C.CA (fun _ _ _ _ => False) t) (rdE C.X.K C.CA (fun _ _ _ _ => False) e) vs σ H Q := by
  rintro σ H Q ⟨F, al, env, st, R, E, h⟩
  refine ⟨F, al, env, st, R, E, h.stepE fun F0 al0 st0 H0 Its eq x0 R0 h0 => ?_⟩
  have h1 := hx R0 h0
  intro J hJ D hD
  obtain ⟨xD, RD⟩ := R0.newC hD (o := .lst []) (c := .lst []) ⟨R0.freeF hD, [], upd_same, .nil⟩
  have hn0 : (al0 ++ [D])[st0.length]? = some D := by rw [← R0.len]; simp
  refine ⟨fun i m H => i ≤ Its.its.length ∧ m = Its.its.length - i ∧ ∃ F al st, Ext F0 (al0 ++ [D]) F al ∧ Rel C.X.K F al st H ∧
      Post C.X.K C.CA F al (lcL g t e Its.chk st0.length (wipeE env vs) (Its.its.drop i) st) (fun F' al' _ H' w => ∀ v, WR C.X.K F' al' v w → Q v H') (fun cls d H' => C.Wx cls d σ H'),
    ⟨_, Nat.zero_le _, rfl, F0, al0 ++ [D], _, Ext.refl, RD, h1.at xD⟩, ?_⟩
  rintro i m H ⟨hi, rfl, F1, al1, st1, x1, R1, h2⟩
  have E1 : EnvR C.X.K F1 al1 (wipe σ vs) (wipeE env vs) := EnvR.mono (x0.trans (xD.trans x1)) (wipe_rel E vs)
  by_cases hlt : i < Its.its.length
  · rw [List.drop_eq_getElem_cons hlt] at h2
    unfold lcL at h2
    split at h2
    · rename_i hck
      obtain ⟨q1, q2⟩ := hJ F1 al1 st1 H (xD.trans x1) R1 hck
      obtain ⟨hgo, hy⟩ := q1 i Its.its[i] (List.getElem?_eq_some_iff.mpr ⟨hlt, rfl⟩)
      refine .inr ⟨hgo, fun H' => (i + 1) ≤ Its.its.length ∧ ∃ F al st, Ext F0 (al0 ++ [D]) F al ∧ Rel C.X.K F al st H' ∧
          Post C.X.K C.CA F al (lcL g t e Its.chk st0.length (wipeE env vs) (Its.its.drop (i + 1)) st) (fun F' al' _ H' w => ∀ v, WR C.X.K F' al' v w → Q v H') (fun cls d H' => C.Wx cls d σ H'),
        fun H' hN => ⟨Its.its.length - (i + 1), by omega, hN.1, rfl, hN.2⟩, fun z H' hz => ?_⟩
      obtain ⟨F2, x2, R2, r2⟩ := hy z H' hz
      refine ⟨F2, al1, wipeE env vs, st1, Its.its[i], R2, E1.mono x2, r2, ?_⟩
      split at h2
      · rename_i env1 st2 e1
        rw [e1]
        intro F3 al3 σ3 H3 x3 R3 E3 ag
        refine ⟨by rw [wipe_agr (ag.mono hjs), wipe_wipe], F3, al3, env1, st2, R3, E3, ?_⟩
        have xx := x1.trans (x2.trans x3)
        have h3 := h2.at (x2.trans x3)
        split at h3
        · rename_i st3 e2
          rw [e2]
          intro F4 al4 H4 x4 R4
          refine iteT ⟨F4, al4, env1, st3, R4, E3.mono x4, ?_⟩
          have h4 := h3.at x4
          split at h4
          · rename_i w st4 e3
            rw [e3]
            intro F5 al5 H5 x5 R5 v rv
            have h5 := h4.at x5
            have hn := (xx.trans (x4.trans x5)).get hn0
            split at h5
            · rename_i acc e4
              split at h5
              · rename_i hlen
                obtain ⟨q, us, q3, q4⟩ := R5.cell _ _ _ hn e4
                refine ⟨us, q3, by rw [q4.length]; exact hlen, hlt, F5, al5, _, xx.trans (x4.trans x5), R5.setC (c := .lst (acc ++ [w])) hn q ⟨q, _, upd_same, Paired.app q4 (.cons rv .nil)⟩, h5⟩
              · exact h5.elim
            · exact h5.elim
          · exact h4.elim
        · rename_i st3 e2
          rw [e2]
          intro F4 al4 H4 x4 R4
          exact iteF ⟨hlt, F4, al4, st3, xx.trans x4, R4, h3.at x4⟩
        · exact h3.elim
      · exact h2.elim
    · exact h2.elim
  · have e : i = Its.its.length := by omega
    subst e
    rw [List.drop_length] at h2
    unfold lcL at h2
    split at h2
    · rename_i hck
      obtain ⟨q1, q2⟩ := hJ F1 al1 st1 H (xD.trans x1) R1 hck
      exact .inl ⟨q2, h2 _ _ _ Ext.refl R1 _ ⟨D, x1.get hn0, rfl⟩⟩
    · exact h2.elim
/-- what the block of a comprehension shows -/
abbrev BlkG (C : Cxt) (scope : Scope) (tg : Expr) (g : Ti) (js : List Nat) : Prop := ∀ (s : Shared) (H : Hp) (L : Addr) (cl : List (Str × Addr)) (fp : List Addr), SGC (C.X.blk s H scope (compEnvC scope cl L C.X.env) fp) tg g js
abbrev BlkT (C : Cxt) (scope : Scope) (es : List Expr) (t : Tst) : Prop := ∀ (s : Shared) (H : Hp) (L : Addr) (cl : List (Str × Addr)) (fp : List Addr), STs (C.blk s H scope cl L fp) es t
abbrev BlkE (C : Cxt) (scope : Scope) (x : Expr) (e : Ev) : Prop := ∀ (s : Shared) (H : Hp) (L : Addr) (cl : List (Str × Addr)) (fp : List Addr), SE (C.blk s H scope cl L fp) x e
theorem se_lc {elt tg iter : Expr} {ifs : List Expr} {scope : Scope} {own : List (Str × Nat)} {pos : Pos} {I : Iv} {g : Ti} {js : List Nat} {t : Tst} {e : Ev} (ck : Cok C) (hi : SI C tg iter I) (ok : BlkOk C.X.N C.X.env.scope scope own)
    (hg : BlkG C scope tg g js) (ht : BlkT C scope ifs t) (he : BlkE C scope elt e) (hjs : ∀ i ∈ js, i ∈ own.map (·.2) := by decide) (hs : ∀ x, foldedSetIterable iter C.X.env x = pure x := by intro _; rfl) : SE C (.ListComp elt [⟨tg, iter, ifs, 0⟩] scope pos) (lcD I g t e (own.map (·.2))) :=
  PE.imp (pe_lc (g := rdC C.X.K g js) (tt := rdT C.X.K C.CA (fun _ _ _ _ => False) t) (te := rdE C.X.K C.CA (fun _ _ _ _ => False) e) ck.calm ck.nd hi ok (fun s H L cl fp => hg s H L cl fp) (fun s H L cl fp => ht s H L cl fp) (fun s H L cl fp => he s H L cl fp) hs) (rd_lc hjs fun R h => expo_post R h)
theorem se_lcC {elt tg iter : Expr} {ifs : List Expr} {scope : Scope} {own : List (Str × Nat)} {pos : Pos} {I : Iv} {g : Ti} {js : List Nat} {t : Tst} {e : Ev} (ck : Cok C) (hi : SI C tg iter I) (ok : BlkOk C.X.N C.X.env.scope scope own)
    (hg : BlkG C scope tg g js) (ht : BlkT C scope ifs t) (he : BlkE C scope elt e) (hjs : ∀ i ∈ js, i ∈ own.map (·.2) := by decide) (hs : ∀ x, foldedSetIterable iter C.X.env x = pure x := by intro _; rfl) : SE C (.ListComp elt [⟨tg, iter, ifs, 0⟩] scope pos) (lcC I g t e (own.map (·.2))) :=
  PE.imp (pe_lc (g := rdC C.X.K g js) (tt := rdT C.X.K C.CA (fun _ _ _ _ => False) t) (te := rdE C.X.K C.CA (fun _ _ _ _ => False) e) ck.calm ck.nd hi ok (fun s H L cl fp => hg s H L cl fp) (fun s H L cl fp => ht s H L cl fp) (fun s H L cl fp => he s H L cl fp) hs) (rd_lc hjs fun R h => expoC_post R h)
theorem rd_asg {i : Nat} {c : Ev} {te : TE} (h : ∀ σ H Q, rdE C.X.K C.CA C.Wx c σ H Q → te σ H Q) : ∀ D σ H, rdS C.X.K C.CA C.Wx (asg i c) D σ H → tAsg te (gName i) D σ H := by
  rintro D σ H ⟨F, al, env, st, R, E, h1⟩
  exact h σ H _ ⟨F, al, env, st, R, E, FPost.step E h1 fun F1 al1 st1 H1 x eq e1 R1 E1 h2 v rv => h2 _ _ _ _ Ext.refl R1 (E1.set rv i)⟩
/-- name = [..] -/
theorem ss_lcW {i : Nat} {y : Str} {py : Pos} {elt tg iter : Expr} {ifs : List Expr} {scope : Scope} {own : List (Str × Nat)} {pos spos : Pos} {I : Iv} {g : Ti} {js : List Nat} {t : Tst} {e : Ev} {ex : Store → Res W → Res W}
    (hx : ∀ {F : Hp} {al : List Addr} {st : Store} {H : Hp} {r : Res W} {Q : VK} {E : Value → Option Addr → Hp → Prop}, Rel C.X.K F al st H → Post C.X.K C.CA F al (ex st r) (fun F' al' _ H' w => ∀ v, WR C.X.K F' al' v w → Q v H') E → Post C.X.K C.CA F al r (fun F' al' _ H' w => ∀ v, WR C.X.K F' al' v w → Q v H') E)
    (ck : Cok C) (hi : SI C tg iter I) (ok : BlkOk C.X.N C.X.env.scope scope own)
    (hg : BlkG C scope tg g js) (ht : BlkT C scope ifs t) (he : BlkE C scope elt e) (hy : C.X.N[i]? = some y) (hyl : C.X.env.scope.names.lookup y = some .local)
    (hsw : swapsWith (.ListComp elt [⟨tg, iter, ifs, 0⟩] scope pos) (some (.Name y py)) spos.line C.X.env = pure true) (hjs : ∀ i ∈ js, i ∈ own.map (·.2)) (hs : ∀ x, foldedSetIterable iter C.X.env x = pure x) : SS C (.Assign [.Name y py] (.ListComp elt [⟨tg, iter, ifs, 0⟩] scope pos) spos) (asg i (lcB I g t e (own.map (·.2)) ex)) :=
  PS.imp (ps_setLc (g := rdC C.X.K g js) (tt := rdT C.X.K C.CA (fun _ _ _ _ => False) t) (te := rdE C.X.K C.CA (fun _ _ _ _ => False) e) ck.calm ck.nd hy hyl hsw hi ok (fun s H L cl fp => hg s H L cl fp) (fun s H L cl fp => ht s H L cl fp) (fun s H L cl fp => he s H L cl fp) hs) (rd_asg (rd_lc hjs hx))
theorem ss_lc {i : Nat} {y : Str} {py : Pos} {elt tg iter : Expr} {ifs : List Expr} {scope : Scope} {own : List (Str × Nat)} {pos spos : Pos} {I : Iv} {g : Ti} {js : List Nat} {t : Tst} {e : Ev} (ck : Cok C) (hi : SI C tg iter I) (ok : BlkOk C.X.N C.X.env.scope scope own)
    (hg : BlkG C scope tg g js) (ht : BlkT C scope ifs t) (he : BlkE C scope elt e) (hy : C.X.N[i]? = some y := by rfl) (hyl : C.X.env.scope.names.lookup y = some .local := by rfl)
    (hsw : swapsWith (.ListComp elt [⟨tg, iter, ifs, 0⟩] scope pos) (some (.Name y py)) spos.line C.X.env = pure true := by exact sw_true rfl rfl rfl (by decide +kernel)) (hjs : ∀ i ∈ js, i ∈ own.map (·.2) := by decide) (hs : ∀ x, foldedSetIterable iter C.X.env x = pure x := by intro _; rfl) :
    SS C (.Assign [.Name y py] (.ListComp elt [⟨tg, iter, ifs, 0⟩] scope pos) spos) (asg i (lcD I g t e (own.map (·.2)))) := ss_lcW (fun R h => expo_post R h) ck hi ok hg ht he hy hyl hsw hjs hs
theorem ss_lcC {i : Nat} {y : Str} {py : Pos} {elt tg iter : Expr} {ifs : List Expr} {scope : Scope} {own : List (Str × Nat)} {pos spos : Pos} {I : Iv} {g : Ti} {js : List Nat} {t : Tst} {e : Ev} (ck : Cok C) (hi : SI C tg iter I) (ok : BlkOk C.X.N C.X.env.scope scope own)
    (hg : BlkG C scope tg g js) (ht : BlkT C scope ifs t) (he : BlkE C scope elt e) (hy : C.X.N[i]? = some y := by rfl) (hyl : C.X.env.scope.names.lookup y = some .local := by rfl)
    (hsw : swapsWith (.ListComp elt [⟨tg, iter, ifs, 0⟩] scope pos) (some (.Name y py)) spos.line C.X.env = pure true := by exact sw_true rfl rfl rfl (by decide +kernel)) (hjs : ∀ i ∈ js, i ∈ own.map (·.2) := by decide) (hs : ∀ x, foldedSetIterable iter C.X.env x = pure x := by intro _; rfl) :
    SS C (.Assign [.Name y py] (.ListComp elt [⟨tg, iter, ifs, 0⟩] scope pos) spos) (asg i (lcC I g t e (own.map (·.2)))) := ss_lcW (fun R h => expoC_post R h) ck hi ok hg ht he hy hyl hsw hjs hs
end
end VS

set_option Elab.async false
set_option linter.all false
set_option maxRecDepth 100000
set_option maxHeartbeats 1000000
/-! VS8: built-in functions and methods. -/
namespace VS
open PySem PySem.Spec PyProof.Rows L2

section
variable {C : Cxt}
abbrev Fb := List W → Store → Res W
def ByN (C : Cxt) (f : Fb) (r : List V → Hp → VK → Prop) : Prop := ∀ (F : Hp) (al : List Addr) (st : Store) (H : Hp) (vs : List V) (ws : List W) (Q : VK), Rel C.X.K F al st H → WRs C.X.K F al vs ws →
  Post C.X.K C.CA F al (f ws st) (fun F' al' _ H' w => ∀ v, WR C.X.K F' al' v w → Q v H') (fun _ _ _ => True) → r vs H Q
def bcall (f : Fb) (a : Av) : Ev := fun env st => (a env st).bind fun ws st1 => f ws st1
theorem rd_bcall {f : Fb} {r : List V → Hp → VK → Prop} {es : List Expr} {c : Av} (hb : ByN C f r) : ∀ σ H Q, rdE C.X.K C.CA C.Wx (bcall f c) σ H Q → tCB r (rdA C.X.K C.CA C.Wx c) σ H Q := by
  rintro σ H Q ⟨F, al, env, st, R, E, h⟩
  exact ⟨F, al, env, st, R, E, h.step fun F1 al1 st1 H1 ws e1 R1 h1 vs rv => hb F1 al1 st1 H1 vs ws Q R1 rv (h1.imp (fun _ _ _ _ _ _ _ q => q) fun _ _ _ _ => trivial)⟩
theorem se_callB {x : Str} {id : String} {r : List V → Hp → VK → Prop} {f : Fb} {e : Expr} {es : List Expr} {c : Av} {p pos : Pos} (hc : CallR C.X (.builtin id) r) (hb : ByN C f r) (ha : SA C (e :: es) c) (hm : C.X.mg x = none) (hv : bootBuiltins x = some (.builtin id) := by decide +kernel) (hg : Gl C.X x := by rfl) (hn : x ≠ "__name__" := by decide) (hdb : (x == ("__debug__" : Str)) = false := by decide)
    (he : starEach (e :: es) C.X.env = (false, eval e C.X.env) :: starEach es C.X.env := by rfl) (hpl : (backTo pos (starEach es C.X.env)).any (·.1) = false := by rfl) : SE C (.Call (.Name x p) (e :: es) [] pos) (bcall f c) :=
  PE.imp (pe_callB hc hg hm hv ha.pa hn hdb he hpl) (rd_bcall (es := e :: es) hb)
theorem se_callTy {x : Str} {T : String} {r : List V → Hp → VK → Prop} {f : Fb} {e : Expr} {es : List Expr} {c : Av} {p pos : Pos} (hc : CallR C.X (.type T) r) (hb : ByN C f r) (ha : SA C (e :: es) c) (hm : C.X.mg x = none) (hv : bootBuiltins x = some (.type T) := by decide +kernel) (hg : Gl C.X x := by rfl) (hn : x ≠ "__name__" := by decide) (hdb : (x == ("__debug__" : Str)) = false := by decide)
    (he : starEach (e :: es) C.X.env = (false, eval e C.X.env) :: starEach es C.X.env := by rfl) (hpl : (backTo pos (starEach es C.X.env)).any (·.1) = false := by rfl) : SE C (.Call (.Name x p) (e :: es) [] pos) (bcall f c) :=
  PE.imp (pe_callTy hc hg hm hv ha.pa hn hdb he hpl) (rd_bcall (es := e :: es) hb)

/-! ### len -/
def lenW (st : Store) : W → Option Nat
  | .d (.list ds) => some ds.length
  | .d (.tuple ds) => some ds.length
  | .r ds => some ds.length
  | .d (.str x) => if x.length ≤ sizeLine then some x.length else none
  | .c n => match st[n]? with
    | some (.lst ws) => some ws.length
    | some (.dct ws) => some ws.length
    | _ => none
  | _ => none
def fLen : Fb := fun ws st => match ws with
  | [w] => match lenW st w with
    | some n => .ok (.d (.int (n : Int))) st
    | none => .bad
  | _ => .bad
def rLenA (K : Frg) : List V → Hp → VK → Prop := fun xs H Q => (∃ x n, xs = [x] ∧ LenV K x H n ∧ Q (.int (n : Nat)) H) ∨ ∃ a kvs, xs = [.ref a] ∧ H a = some (.dK kvs) ∧ Q (.int kvs.length) H
theorem lenR : CallR C.X (.builtin "len") (rLenA C.X.K) := by
  intro pins s σ H xs us Q I r h
  rcases h with h | ⟨a, kvs, rfl, e, q⟩
  · exact call_len pins s σ H xs us Q I r h
  · rw [Vals.ref1 r]
    exact d_len I (.inl e) fun t s' I' => ⟨.int _, H, I', ⟨_, rfl⟩, q⟩
theorem lenW_rel {K : Frg} {F : Hp} {al : List Addr} {st : Store} {H : Hp} (R : Rel K F al st H) {v : V} {w : W} {n : Nat} (r : WR K F al v w) (h : lenW st w = some n) : (LenV K v H n) ∨ ∃ a us, v = .ref a ∧ H a = some (.dK us) ∧ us.length = n := by
  unfold lenW at h
  split at h
  · cases h
    cases r with
    | lst h1 h2 => exact .inl (.inl ⟨_, SqL.of (R.sub _ _ h1), h2.length.symm⟩)
  · cases h
    cases r with
    | tup h1 h2 => exact .inl (.inr ⟨_, Same.tupq R.sub h1, h2.length.symm⟩)
  · cases h
    obtain ⟨a, vs, rfl, h2, h3⟩ := r
    exact .inl (.inl ⟨_, Same.seq R.sub h2, h3.length.symm⟩)
  · cases r
    split at h
    · rename_i hk
      cases h
      exact .inl ⟨hk, rfl⟩
    · cases h
  · split at h
    · rename_i hn
      cases h
      obtain ⟨a, h1, rfl⟩ := r
      obtain ⟨_, vs, h3, h4⟩ := R.cell _ _ _ h1 hn
      exact .inl (.inl ⟨_, SqL.of h3, (WRs.length h4).symm⟩)
    · rename_i hn
      cases h
      obtain ⟨a, us, rfl, _, _, h4, h5⟩ := dct_get R r hn
      exact .inr ⟨a, us, rfl, h4, Paired.length h5⟩
    · cases h
  · cases h
theorem by_len : ByN C fLen (rLenA C.X.K) := by
  intro F al st H vs ws Q R r h
  unfold fLen at h
  split at h
  · cases r with
    | cons r t =>
      cases t
      split at h
      · rename_i n hn
        rcases lenW_rel R r hn with q | ⟨a, us, rfl, q1, q2⟩
        · exact .inl ⟨_, _, rfl, q, h _ _ _ Ext.refl R _ (.int _)⟩
        · refine .inr ⟨a, us, rfl, q1, ?_⟩
          rw [q2]
          exact h _ _ _ Ext.refl R _ (.int _)
      · exact h.elim
  · exact h.elim

/-! ### functions of whole numbers -/
def fAbs : Fb := fun ws st => match ws with
  | [.d (.int i)] => .ok (.d (.int (if i < 0 then -i else i))) st
  | _ => .bad
theorem by_abs : ByN C fAbs (fun xs H Q => ∃ i, xs = [.int i] ∧ Q (.int (if i < 0 then -i else i)) H) := by
  intro F al st H vs ws Q R r h
  unfold fAbs at h
  split at h
  · cases r with
    | cons r t =>
      cases t
      cases r
      exact ⟨_, rfl, h _ _ _ Ext.refl R _ (.int _)⟩
  · exact h.elim
def fInt : Fb := fun ws st => match ws with
  | [.d (.int i)] => .ok (.d (.int i)) st
  | [.d (.bool b)] => .ok (.d (.int (if b = true then 1 else 0))) st
  | _ => .bad
theorem by_int : ByN C fInt (fun xs H Q => (∃ i, xs = [.int i] ∧ Q (.int i) H) ∨ ∃ k, xs = [.bl k] ∧ Q (.int (if k then 1 else 0)) H) := by
  intro F al st H vs ws Q R r h
  unfold fInt at h
  split at h
  · cases r with
    | cons r t =>
      cases t
      cases r
      exact .inl ⟨_, rfl, h _ _ _ Ext.refl R _ (.int _)⟩
  · cases r with
    | cons r t =>
      cases t
      cases r
      exact .inr ⟨_, rfl, h _ _ _ Ext.refl R _ (.int _)⟩
  · exact h.elim
def fMax2 : Fb := fun ws st => match ws with
  | [.d (.int i), .d (.int j)] => .ok (.d (.int (if j > i then j else i))) st
  | _ => .bad
def fMin2 : Fb := fun ws st => match ws with
  | [.d (.int i), .d (.int j)] => .ok (.d (.int (if j < i then j else i))) st
  | _ => .bad
theorem by_max2 : ByN C fMax2 (fun xs H Q => ∃ i j, xs = [.int i, .int j] ∧ Q (.int (if j > i then j else i)) H) := by
  intro F al st H vs ws Q R r h
  unfold fMax2 at h
  split at h
  · cases r with
    | cons r t =>
      cases t with
      | cons r2 t =>
        cases t
        cases r
        cases r2
        exact ⟨_, _, rfl, h _ _ _ Ext.refl R _ (.int _)⟩
  · exact h.elim
theorem by_min2 : ByN C fMin2 (fun xs H Q => ∃ i j, xs = [.int i, .int j] ∧ Q (.int (if j < i then j else i)) H) := by
  intro F al st H vs ws Q R r h
  unfold fMin2 at h
  split at h
  · cases r with
    | cons r t =>
      cases t with
      | cons r2 t =>
        cases t
        cases r
        cases r2
        exact ⟨_, _, rfl, h _ _ _ Ext.refl R _ (.int _)⟩
  · exact h.elim

/-! ### list(x), tuple(x) -/
def itmA (st : Store) (w : W) : Option (List W) := match w with
  | .d (.tuple ds) => some (ds.map W.d)
  | w => itm st w
theorem itmA_rel {K : Frg} {F : Hp} {al : List Addr} {st : Store} {H : Hp} (R : Rel K F al st H) {v : V} {w : W} {ws : List W} (r : WR K F al v w) (h : itmA st w = some ws) : ∃ a vs, v = .ref a ∧ (SqL K H a vs ∨ SqT K H a vs) ∧ WRs K F al vs ws := by
  unfold itmA at h
  split at h
  · cases h
    cases r with
    | tup h1 h2 => exact ⟨_, _, rfl, .inr (Same.tupq R.sub h1), WRs_of_DqAll h2⟩
  · obtain ⟨a, vs, h1, h2, h3⟩ := itm_rel R r h
    exact ⟨a, vs, h1, .inl h2, h3⟩
def fListW (mk : List W → Store → Res W) : Fb := fun ws st => match ws with
  | [w] => match itmA st w with
    | some xs => mk xs st
    | none => .bad
  | _ => .bad
def fList := fListW mkL
def fListC := fListW mkC
def rListOf (K : Frg) : List V → Hp → VK → Prop := fun xs H Q => ∃ p ys, xs = [.ref p] ∧ (SqL K H p ys ∨ SqT K H p ys) ∧ ∀ l, H l = none → Q (.ref l) (L2.upd H l (.lst ys))
theorem by_listW {mk : List W → Store → Res W} (hm : ∀ {F : Hp} {al : List Addr} {st : Store} {H : Hp} {ws : List W} {vs : List V} {Q : VK} {p : Addr}, Rel C.X.K F al st H → WRs C.X.K F al vs ws →
    Post C.X.K C.CA F al (mk ws st) (fun F' al' _ H' w => ∀ v, WR C.X.K F' al' v w → Q v H') (fun _ _ _ => True) → H p = none → Q (.ref p) (L2.upd H p (.lst vs))) : ByN C (fListW mk) (rListOf C.X.K) := by
  intro F al st H vs ws Q R r h
  unfold fListW at h
  split at h
  · cases r with
    | cons r t =>
      cases t
      split at h
      · rename_i xs hx
        obtain ⟨a, us, rfl, q1, q2⟩ := itmA_rel R r hx
        exact ⟨a, us, rfl, q1, fun p hp => hm R q2 h hp⟩
      · exact h.elim
  · exact h.elim
theorem by_list : ByN C fList (rListOf C.X.K) := by_listW fun R r h hp => mkL_post R r h hp
theorem by_listC : ByN C fListC (rListOf C.X.K) := by_listW fun R r h hp => mkC_post R r h hp
def fTuple : Fb := fun ws st => match ws with
  | [.d (.tuple ds)] => .ok (.d (.tuple ds)) st
  | [w] => match itm st w with
    | some xs => mkT xs st
    | none => .bad
  | _ => .bad
theorem by_tuple : ByN C fTuple (fun xs H Q => ∃ p ys, xs = [.ref p] ∧ ((SqL C.X.K H p ys ∧ ∀ l, H l = none → Q (.ref l) (L2.upd H l (.tup ys))) ∨ (SqT C.X.K H p ys ∧ Q (.ref p) H))) := by
  intro F al st H vs ws Q R r h
  unfold fTuple at h
  split at h
  · cases r with
    | cons r t =>
      cases t
      cases r with
      | tup h1 h2 => exact ⟨_, _, rfl, .inr ⟨Same.tupq R.sub h1, h _ _ _ Ext.refl R _ (Dq.tup h1 h2)⟩⟩
  · cases r with
    | cons r t =>
      cases t
      split at h
      · rename_i xs hx
        obtain ⟨a, us, rfl, q1, q2⟩ := itm_rel R r hx
        exact ⟨a, us, rfl, .inl ⟨q1, fun p hp => mkT_post R q2 h hp⟩⟩
      · exact h.elim
  · exact h.elim

/-! ### sorted -/
def srt (ds : List PyData) : List PyData := ds.mergeSort (PySem.W.dataLe false id)
def OkSort (ds : List PyData) : Prop := PySem.W.AllAlike ds ∧ PySem.W.Sortable ds ∧ (∀ d ∈ ds, d.depth ≤ 50) ∧ ds.length ≤ sizeLine
open Classical in
noncomputable def fSortedW (mk : List W → Store → Res W) : Fb := fun ws st => match ws with
  | [w] => match itm st w with
    | some xs => match allD xs with
      | some ds => if OkSort ds then mk ((srt ds).map W.d) st else .bad
      | none => .bad
    | none => .bad
  | _ => .bad
noncomputable def fSorted := fSortedW mkL
noncomputable def fSortedC := fSortedW mkC
def rSortD (K : Frg) : List V → Hp → VK → Prop := fun vs H Q => ∃ a xs ds, vs = [.ref a] ∧ SqL K H a xs ∧ DpAll K H xs ds ∧ OkSort ds ∧
  ∀ p, H p = none → Q (.ref p) (L2.upd H p (.lst (((xs.zip ds).mergeSort (PySem.W.dataLe false Prod.snd)).map Prod.fst)))
theorem each_of {R : Value → V × PyData → Prop} {K : Frg} {H : Hp} : ∀ {vs : List V} {ds : List PyData} {us : List Value}, DpAll K H vs ds → Vals vs us → (∀ u v d, RelV v u → Dp K H v d → R u (v, d)) → PySem.W.EachIs R us (vs.zip ds)
  | _, _, _, .nil, .nil, _ => .nil
  | _, _, _, .cons h1 h2, .cons r1 r2, h => .cons (h _ _ _ r1 h1) (each_of h2 r2 h)
theorem vals_each : ∀ {us : List Value} {bs : List (V × PyData)}, PySem.W.EachIs (fun u b => RelV b.1 u) us bs → Vals (bs.map Prod.fst) us
  | _, _, .nil => .nil
  | _, _, .cons h1 h2 => .cons h1 (vals_each h2)
theorem zip_snd {K : Frg} {H : Hp} : ∀ {vs : List V} {ds : List PyData}, DpAll K H vs ds → (vs.zip ds).map Prod.snd = ds
  | _, _, .nil => rfl
  | _, _, .cons _ t => by simp [zip_snd t]
theorem sortedR (hu : C.X.A.units + 64 < cLine) : CallR C.X (.builtin "sorted") (rSortD C.X.K) := by
  intro pins s σ H vs us Q I r h
  obtain ⟨a, xs, ds, rfl, hs, hd, ok, q⟩ := h
  obtain ⟨its, rv, hl, hz⟩ := I.list hs
  rw [Vals.ref1 r]
  have eds := zip_snd hd
  have hlen : xs.length = ds.length := by
    have := congrArg List.length eds
    rw [List.length_map, List.length_zip] at this
    have e2 : xs.length = ds.length := by
      clear q hs r hl hz rv eds this ok
      induction xs generalizing ds with
      | nil => cases hd; rfl
      | cons x xs ih => cases hd with
        | cons _ t => simp [ih _ t]
    exact e2
  have hmap : (xs.zip ds).map (fun b : V × PyData => b.2) = ds := eds
  refine PySem.W.sorted_data (bs := xs.zip ds) (enc := Prod.snd) (R := fun u b => RelV b.1 u) hl.isList (each_of hd rv fun u v d r _ => r) (each_of hd rv fun u v d r h => Dp.reads I d v u h r) (by rw [eds]; exact ok.1) (by rw [eds]; exact ok.2.1) (by rw [List.length_zip]; have := ok.2.2.2; omega)
    (fun b hb => ?_) fun out ho e => ?_
  · have hb2 : b.2 ∈ ds := by
      rw [← eds]
      exact List.mem_map_of_mem hb
    have := ok.2.2.1 _ hb2
    show C.X.A.units + 2 + b.2.depth < cLine
    omega
  · obtain ⟨ep, he'⟩ := PyProof.Rows.sortedAll_at s.heap its out.toArray
    refine ⟨.ref _, L2.upd H (s.heap.objs.size + 1) (.lst (((xs.zip ds).mergeSort (PySem.W.dataLe false Prod.snd)).map Prod.fst)), I.laid (t' := s.toks) (fun _ _ => PyProof.Rows.sortedAll_old) (Nat.le_succ _) ⟨?_, out, ep, vals_each e, he'⟩, rfl, q _ (I.hok.fresh (Nat.le_succ _))⟩
    rw [List.length_map, List.length_mergeSort, List.length_zip]
    have := ok.2.2.2
    omega
theorem DqAll_mem {K : Frg} {F : Hp} : ∀ {vs : List V} {ds : List PyData}, DqAll K F vs ds → ∀ b ∈ vs.zip ds, Dq K F b.1 b.2
  | _, _, .nil, b, h => by simp at h
  | _, _, .cons h1 h2, b, h => by
    rw [List.zip_cons_cons, List.mem_cons] at h
    rcases h with rfl | h
    · exact h1
    · exact DqAll_mem h2 b h
theorem WRs_pairs {K : Frg} {F : Hp} {al : List Addr} : ∀ {bs : List (V × PyData)}, (∀ b ∈ bs, Dq K F b.1 b.2) → WRs K F al (bs.map Prod.fst) ((bs.map Prod.snd).map W.d)
  | [], _ => .nil
  | b :: bs, h => .cons (h b List.mem_cons_self) (WRs_pairs fun c hc => h c (List.mem_cons_of_mem _ hc))
theorem by_sortedW {mk : List W → Store → Res W} (hm : ∀ {F : Hp} {al : List Addr} {st : Store} {H : Hp} {ws : List W} {vs : List V} {Q : VK} {p : Addr}, Rel C.X.K F al st H → WRs C.X.K F al vs ws →
    Post C.X.K C.CA F al (mk ws st) (fun F' al' _ H' w => ∀ v, WR C.X.K F' al' v w → Q v H') (fun _ _ _ => True) → H p = none → Q (.ref p) (L2.upd H p (.lst vs))) : ByN C (fSortedW mk) (rSortD C.X.K) := by
  intro F al st H vs ws Q R r h
  unfold fSortedW at h
  split at h
  · cases r with
    | cons r t =>
      cases t
      split at h
      · rename_i xs hx
        split at h
        · rename_i ds hds
          split at h
          · rename_i ok
            obtain ⟨a, us, rfl, q1, q2⟩ := itm_rel R r hx
            have qd := allD_rel q2 hds
            have eds := zip_snd (Dq.dpAll _ _ qd)
            refine ⟨a, us, ds, rfl, q1, Dq.dpAll _ _ (Dq.monoAll R.sub _ _ qd), ok, fun p hp => hm R ?_ h hp⟩
            have e2 : srt ds = ((us.zip ds).mergeSort (PySem.W.dataLe false Prod.snd)).map Prod.snd := by
              unfold srt
              conv => lhs; rw [← eds]
              rw [List.map_mergeSort]
              intro x _ y _
              rfl
            rw [e2]
            exact WRs_pairs fun b hb => DqAll_mem qd b (by rw [List.mem_mergeSort] at hb; exact hb)
          · exact h.elim
        · exact h.elim
      · exact h.elim
  · exact h.elim
theorem by_sorted : ByN C fSorted (rSortD C.X.K) := by_sortedW fun R r h hp => mkL_post R r h hp
theorem by_sortedC : ByN C fSortedC (rSortD C.X.K) := by_sortedW fun R r h hp => mkC_post R r h hp
end
end VS

set_option Elab.async false
set_option linter.all false
set_option maxRecDepth 100000
set_option maxHeartbeats 1000000
/-! VS9: repr, isinstance, methods of lists and dicts, slices. -/
namespace VS
open PySem PySem.Spec PyProof.Rows L2

mutual
theorem plain_noDict : ∀ d : PyData, d.plain = true → d.hasDict = false
  | .none, _ => by simp [PyData.hasDict]
  | .bool _, _ => by simp [PyData.hasDict]
  | .int _, _ => by simp [PyData.hasDict]
  | .str _, _ => by simp [PyData.hasDict]
  | .list ds, h => by
    simp only [PyData.plain] at h
    simp only [PyData.hasDict]
    exact plain_noDictAll ds h
  | .tuple ds, h => by
    simp only [PyData.plain] at h
    simp only [PyData.hasDict]
    exact plain_noDictAll ds h
  | .dict _, h => by simp [PyData.plain] at h
theorem plain_noDictAll : ∀ ds : List PyData, PyData.plainAll ds = true → PyData.hasDictAll ds = false
  | [], _ => by simp [PyData.hasDictAll]
  | d :: ds, h => by
    simp only [PyData.plainAll, Bool.and_eq_true] at h
    simp only [PyData.hasDictAll, plain_noDict d h.1, plain_noDictAll ds h.2, Bool.or_self]
end
section
variable {C : Cxt}
/-! ### repr -/
def okShow (d : PyData) : Bool := d.showable && decide (d.depth ≤ 60) && decide (d.shown.length ≤ sizeLine)
def fRepr : Fb := fun ws st => match ws with
  | [w] => match rdW st 6 w with
    | some d => if okShow d = true then .ok (.d (.str d.shown)) st else .bad
    | none => .bad
  | _ => .bad
def rRepr (K : Frg) : List V → Hp → VK → Prop := fun vs H Q => ∃ v d, vs = [v] ∧ Dp K H v d ∧ okShow d = true ∧ Q (.str d.shown) H
theorem reprR (ck : Cok C) : CallR C.X (.builtin "repr") (rRepr C.X.K) := by
  intro pins s σ H xs us Q I r h
  obtain ⟨v, d, rfl, hd, ok, q⟩ := h
  unfold okShow at ok
  rw [Bool.and_eq_true, Bool.and_eq_true, decide_eq_true_eq, decide_eq_true_eq] at ok
  obtain ⟨⟨h1, h2⟩, h3⟩ := ok
  have hu := ck.hu
  obtain ⟨u, rfl, ru⟩ := vals1 r
  obtain ⟨as, rd⟩ := Dp.reads I d v u hd ru
  have nd : d.hasDict = false := by
    have hp := Dq.plain d v hd
    clear h1 h2 h3 rd q
    exact plain_noDict d hp
  have fin : ∀ {s' : Shared} {t : Tok}, Inv C.X pins σ H s' → EP C.X pins σ Q (.str d.shown t) s' := fun {s' t} J => ⟨.str _, H, J, ⟨_, rfl⟩, q⟩
  cases hd with
  | non =>
    cases ru
    exact PySem.P.repr_of_none (fin (I.tok _))
  | bl b =>
    cases ru
    exact PySem.P.repr_of_bool (fin (I.tok _))
  | int i =>
    obtain ⟨t, rfl⟩ := ru
    exact PySem.P.repr_of_int (of_decide_eq_true h1) (fin (I.tok _))
  | str x =>
    obtain ⟨t, rfl⟩ := ru
    exact PySem.P.repr_of_str (fin (I.tok _)) h3
  | lst hs ha =>
    cases ru
    exact repr_of_reads' rd h1 (fun z => absurd z (by rw [nd]; exact Bool.false_ne_true)) ck.gd (by omega) (fun _ _ e => e) (fun h' u tk hk => fin (I.kept (t' := tk) hk)) h3
  | tup hs ha =>
    cases ru
    exact repr_of_reads' rd h1 (fun z => absurd z (by rw [nd]; exact Bool.false_ne_true)) ck.gd (by omega) (fun _ _ e => e) (fun h' u tk hk => fin (I.kept (t' := tk) hk)) h3
theorem by_repr : ByN C fRepr (rRepr C.X.K) := by
  intro F al st H vs ws Q R r h
  unfold fRepr at h
  split at h
  · cases r with
    | cons r t =>
      cases t
      split at h
      · rename_i d hd
        split at h
        · rename_i ok
          exact ⟨_, d, rfl, rdW_rel R _ _ _ _ r hd, ok, h _ _ _ Ext.refl R _ (.str _)⟩
        · exact h.elim
      · exact h.elim
  · exact h.elim

/-! ### isinstance, a built-in type -/
def tyN (st : Store) : W → Option String
  | .d .none => some "NoneType"
  | .d (.bool _) => some "bool"
  | .d (.int _) => some "int"
  | .d (.str _) => some "str"
  | .d (.list _) => some "list"
  | .d (.tuple _) => some "tuple"
  | .r _ => some "list"
  | .c n => match st[n]? with
    | some (.lst _) => some "list"
    | some (.dct _) => some "dict"
    | _ => none
  | _ => none
def isiD (T : String) (a : Ev) : Ev := fun env st => (a env st).bind fun w st1 => match tyN st1 w with
  | some n => match kitB n T with
    | some b => .ok (.d (.bool b)) st1
    | none => .bad
  | none => .bad
theorem tyN_rel {K : Frg} {F : Hp} {al : List Addr} {st : Store} {H : Hp} (R : Rel K F al st H) {v : V} {w : W} {n : String} (r : WR K F al v w) (h : tyN st w = some n) : TyX K H v (.type n) := by
  have sq : ∀ {a : Addr} {vs : List V}, SqL K H a vs → TyX K H (.ref a) (.type "list") := fun {a vs} q => by
    rcases q with (q | ⟨o, q⟩) | ⟨o, its, n, q, c, _⟩
    · exact .base (.lst q)
    · exact .base (.frz q)
    · exact .kList q c
  unfold tyN at h
  split at h
  · cases h; cases r; exact .base .non
  · cases h; cases r; exact .base (.bl _)
  · cases h; cases r; exact .base (.int _)
  · cases h; cases r; exact .base (.str _)
  · cases h
    cases r with
    | lst h1 h2 => exact .base (.lst (R.sub _ _ h1))
  · cases h
    cases r with
    | tup h1 h2 =>
      rcases Same.tupq R.sub h1 with (q | ⟨o, q⟩) | ⟨o, its, n, q, c, _⟩
      · exact .base (.tup q)
      · exact .fTuple q
      · exact .kTuple q c
  · cases h
    obtain ⟨a, vs, rfl, h2, h3⟩ := r
    exact sq (Same.seq R.sub h2)
  · split at h
    · rename_i hn
      cases h
      obtain ⟨a, h1, rfl⟩ := r
      obtain ⟨_, vs, h3, h4⟩ := R.cell _ _ _ h1 hn
      exact .base (.lst h3)
    · rename_i hn
      cases h
      obtain ⟨a, us, rfl, _, _, h4, h5⟩ := dct_get R r hn
      exact .base (.dK h4)
    · cases h
  · cases h
theorem se_isi {e : Expr} {c : Ev} {x : Str} {T : String} {p p2 pos : Pos} (he : SE C e c) (hm : C.X.mg "isinstance" = none) (hT : C.X.mg x = none) (hv : bootBuiltins x = some (.type T) := by decide +kernel) (hg : Gl C.X "isinstance" := by rfl) (hgT : Gl C.X x := by rfl) (hn : x ≠ "__name__" := by decide) (hd : (x == ("__debug__" : Str)) = false := by decide)
    (hs : starEach [e, .Name x p2] C.X.env = (false, eval e C.X.env) :: starEach [.Name x p2] C.X.env := by rfl) (hs2 : starEach [.Name x p2] C.X.env = (false, eval (.Name x p2) C.X.env) :: starEach [] C.X.env := by rfl) (hpl : (backTo pos (starEach [.Name x p2] C.X.env)).any (·.1) = false := by rfl) :
    SE C (.Call (.Name "isinstance" p) [e, .Name x p2] [] pos) (isiD T c) := by
  refine PE.imp (pe_callB call_isi hg hm (by decide +kernel) (pa_cons he (pa_cons (pe_bltn (v := .ty T) hgT hT hv rfl hn hd) pa_nil hs2) hs) (by decide) (by decide) hs hpl) fun σ H Q => ?_
  rintro ⟨F, al, env, st, R, E, h⟩
  refine ⟨F, al, env, st, R, E, h.step fun F1 al1 st1 H1 w e1 R1 h1 v rv => ?_⟩
  split at h1
  · rename_i n hn
    split at h1
    · rename_i b hb
      exact ⟨v, .ty T, .type n, .type T, b, rfl, .ty T, tyN_rel R1 rv hn, kit_ty hb, h1 _ _ _ Ext.refl R1 _ (.bl _)⟩
    · exact h1.elim
  · exact h1.elim

/-! ### methods -/
abbrev Fm := W → List W → Store → Res W
def isTy (T : String) (st : Store) : W → Bool
  | .d (.str _) => T == "str"
  | .d (.list _) => T == "list"
  | .r _ => T == "list"
  | .c n => match st[n]? with
    | some (.lst _) => T == "list"
    | some (.dct _) => T == "dict"
    | _ => false
  | _ => false
theorem isTy_rel {K : Frg} {F : Hp} {al : List Addr} {st : Store} {H : Hp} (R : Rel K F al st H) {v : V} {w : W} {T : String} (r : WR K F al v w) (h : isTy T st w = true) : tyV K T v H := by
  unfold isTy at h
  split at h
  · cases r; exact eq_of_beq h
  · cases r with
    | lst h1 h2 => exact .inl ⟨eq_of_beq h, _, SqL.of (R.sub _ _ h1)⟩
  · obtain ⟨a, vs, rfl, h2, h3⟩ := r
    exact .inl ⟨eq_of_beq h, _, Same.seq R.sub h2⟩
  · split at h
    · rename_i hn
      obtain ⟨a, h1, rfl⟩ := r
      obtain ⟨_, vs, h3, h4⟩ := R.cell _ _ _ h1 hn
      exact .inl ⟨eq_of_beq h, _, SqL.of h3⟩
    · rename_i hn
      obtain ⟨a, us, rfl, _, _, h4, h5⟩ := dct_get R r hn
      exact .inr (.inr (.inl ⟨eq_of_beq h, .inl ⟨_, h4⟩⟩))
    · cases h
  · cases h
def mth (T : String) (f : Fm) (o : Ev) (a : Av) : Ev := fun env st => (o env st).bind fun x st1 => if isTy T st1 x = true then (a env st1).bind fun ws st2 => f x ws st2 else .bad
def ByM (C : Cxt) (f : Fm) (r : V → List V → Hp → VK → Prop) : Prop := ∀ (F : Hp) (al : List Addr) (st : Store) (H : Hp) (v : V) (w : W) (vs : List V) (ws : List W) (Q : VK), Rel C.X.K F al st H → WR C.X.K F al v w → WRs C.X.K F al vs ws →
  Post C.X.K C.CA F al (f w ws st) (fun F' al' _ H' w => ∀ v, WR C.X.K F' al' v w → Q v H') (fun _ _ _ => True) → r v vs H Q
theorem se_bm {T id : String} {name : Str} {r : V → List V → Hp → VK → Prop} {f : Fm} {o e : Expr} {es : List Expr} {co : Ev} {c : Av} {apos cpos : Pos} (pa : PlainAttrs T) (slot : Slot T name id) (hty : typeOf (.builtin id) = pure (.type "method_descriptor")) (hm : MtR C.X id r) (hb : ByM C f r) (ho : SE C o co) (ha : SA C (e :: es) c)
    (hbase : attributeBase o name C.X.env (eval o C.X.env) = eval o C.X.env := by rfl)
    (hfew : ((backTo cpos (starEach (e :: es) C.X.env)).all (fun x => !x.1) && (backToKw cpos (keywordEach [] C.X.env)).all (fun x => x.1.isSome)
      && decide ((e :: es).length + ([] : List Keyword).length + (if ([] : List Keyword).isEmpty then 0 else 1) < 30)) = true := by rfl)
    (hline : (apos.endLine == cpos.line) = true := by rfl) (hs : starEach (e :: es) C.X.env = (false, eval e C.X.env) :: starEach es C.X.env := by rfl) (hplain : (backTo cpos (starEach es C.X.env)).any (·.1) = false := by rfl) :
    SE C (.Call (.Attribute o name apos) (e :: es) [] cpos) (mth T f co c) :=
  PE.imp (pe_bm pa slot hty hm ho ha.pa hbase hfew hline hs hplain) fun σ H Q => by
    rintro ⟨F, al, env, st, R, E, h⟩
    refine ⟨F, al, env, st, R, E, h.step fun F1 al1 st1 H1 x e1 R1 h1 v rv => ?_⟩
    split at h1
    · rename_i ht
      refine ⟨isTy_rel R1 rv ht, F1, al1, env, st1, R1, E.mono e1, h1.step fun F2 al2 st2 H2 ws e2 R2 h2 vs rvs => ?_⟩
      exact hb F2 al2 st2 H2 v x vs ws Q R2 (rv.mono e2) rvs (h2.imp (fun _ _ _ _ _ _ _ q => q) fun _ _ _ _ => trivial)
    · exact h1.elim
theorem se_bm0 {T id : String} {name : Str} {r : V → List V → Hp → VK → Prop} {f : Fm} {o : Expr} {co : Ev} {apos cpos : Pos} (pa : PlainAttrs T) (slot : Slot T name id) (hty : typeOf (.builtin id) = pure (.type "method_descriptor")) (hm : MtR C.X id r) (hb : ByM C f r) (ho : SE C o co)
    (hbase : attributeBase o name C.X.env (eval o C.X.env) = eval o C.X.env := by rfl) (hline : (apos.endLine == cpos.line) = true := by rfl) : SE C (.Call (.Attribute o name apos) [] [] cpos) (mth T f co aNil) :=
  PE.imp (pe_bm0 pa slot hty hm ho hbase hline) fun σ H Q => by
    rintro ⟨F, al, env, st, R, E, h⟩
    refine ⟨F, al, env, st, R, E, h.step fun F1 al1 st1 H1 x e1 R1 h1 v rv => ?_⟩
    split at h1
    · rename_i ht
      exact ⟨isTy_rel R1 rv ht, hb F1 al1 st1 H1 v x [] [] Q R1 rv .nil (h1.imp (fun _ _ _ _ _ _ _ q => q) fun _ _ _ _ => trivial)⟩
    · exact h1.elim
def fAppend : Fm := fun x ws st => match x, ws with
  | .c n, [w] => match st[n]? with
    | some (.lst xs) => if xs.length < sizeLine then .ok (.d .none) (st.set n (.lst (xs ++ [w]))) else .bad
    | _ => .bad
  | _, _ => .bad
theorem by_append : ByM C fAppend rAppend := by
  intro F al st H v w vs ws Q R r rs h
  unfold fAppend at h
  split at h
  · split at h
    · rename_i n w _ xs hn
      split at h
      · rename_i hl
        obtain ⟨a, h1, rfl⟩ := r
        obtain ⟨q, us, h3, h4⟩ := R.cell _ _ _ h1 hn
        cases rs with
        | cons r1 t =>
          cases t
          exact ⟨a, us, _, rfl, rfl, h3, by rw [h4.length]; exact hl, h _ _ _ Ext.refl (R.setC (c := .lst (xs ++ [w])) h1 q ⟨q, _, upd_same, Paired.app h4 (.cons r1 .nil)⟩) _ .non⟩
      · exact h.elim
    · exact h.elim
  · exact h.elim
def fPop : Fm := fun x ws st => match x, ws with
  | .c n, [] => match st[n]? with
    | some (.lst xs) => match xs[xs.length - 1]? with
      | some y => .ok y (st.set n (.lst xs.dropLast))
      | none => .bad
    | _ => .bad
  | _, _ => .bad
theorem Paired.dropLast {α β : Type} {R : α → β → Prop} : ∀ {xs : List α} {ys : List β}, Paired R xs ys → Paired R xs.dropLast ys.dropLast
  | _, _, .nil => .nil
  | _, _, .cons r .nil => .nil
  | _, _, .cons r (.cons r2 t) => .cons r (Paired.dropLast (.cons r2 t))
theorem Paired.eraseIdx {α β : Type} {R : α → β → Prop} : ∀ {xs : List α} {ys : List β} (i : Nat), Paired R xs ys → Paired R (xs.eraseIdx i) (ys.eraseIdx i)
  | _, _, _, .nil => .nil
  | _, _, 0, .cons r t => t
  | _, _, i + 1, .cons r t => .cons r (Paired.eraseIdx i t)
theorem by_pop : ByM C fPop rPop := by
  intro F al st H v w vs ws Q R r rs h
  unfold fPop at h
  split at h
  · split at h
    · rename_i n _ xs hn
      split at h
      · rename_i y hy
        obtain ⟨a, h1, rfl⟩ := r
        obtain ⟨q, us, h3, h4⟩ := R.cell _ _ _ h1 hn
        cases rs
        rw [← h4.length] at hy
        obtain ⟨x, e1, e2⟩ := Paired.getR h4 hy
        exact ⟨a, us, x, rfl, rfl, h3, e1, h _ _ _ Ext.refl (R.setC (c := .lst xs.dropLast) h1 q ⟨q, _, upd_same, Paired.dropLast h4⟩) _ e2⟩
      · exact h.elim
    · exact h.elim
  · exact h.elim
def fPopAt : Fm := fun x ws st => match x, ws with
  | .c n, [.d (.int i)] => match st[n]? with
    | some (.lst xs) => if xs.length ≤ sizeLine then (match ixN xs.length i with
      | some k => match xs[k]? with
        | some y => .ok y (st.set n (.lst (xs.eraseIdx k)))
        | none => .bad
      | none => .bad) else .bad
    | _ => .bad
  | _, _ => .bad
theorem by_popAt : ByM C fPopAt rPopAt := by
  intro F al st H v w vs ws Q R r rs h
  unfold fPopAt at h
  split at h
  · split at h
    · rename_i n i _ xs hn
      split at h
      · rename_i hz
        split at h
        · rename_i k hk
          split at h
          · rename_i y hy
            obtain ⟨a, h1, rfl⟩ := r
            obtain ⟨q, us, h3, h4⟩ := R.cell _ _ _ h1 hn
            cases rs with
            | cons r1 t =>
              cases t
              cases r1
              obtain ⟨x, e1, e2⟩ := Paired.getR h4 hy
              obtain ⟨k1, k2, k3, k4⟩ := ixN_seq hk
              rw [sizeLine_eq] at hz
              exact ⟨a, us, i, k, x, rfl, rfl, h3, by omega, by omega, by rw [h4.length]; exact k1, e1, h _ _ _ Ext.refl (R.setC (c := .lst (xs.eraseIdx k)) h1 q ⟨q, _, upd_same, Paired.eraseIdx k h4⟩) _ e2⟩
          · exact h.elim
        · exact h.elim
      · exact h.elim
    · exact h.elim
  · exact h.elim
def itmX (st : Store) : W → Option (List W)
  | .d (.list ds) => some (ds.map W.d)
  | .c n => match st[n]? with
    | some (.lst ws) => some ws
    | _ => none
  | _ => none
theorem itmX_rel {K : Frg} {F : Hp} {al : List Addr} {st : Store} {H : Hp} (R : Rel K F al st H) {v : V} {w : W} {ws : List W} (r : WR K F al v w) (h : itmX st w = some ws) : ∃ a vs, v = .ref a ∧ H a = some (.lst vs) ∧ WRs K F al vs ws := by
  unfold itmX at h
  split at h
  · cases h
    cases r with
    | lst h1 h2 => exact ⟨_, _, rfl, R.sub _ _ h1, WRs_of_DqAll h2⟩
  · split at h
    · rename_i n _ ws' e
      cases h
      obtain ⟨a, h1, h2⟩ := r
      obtain ⟨_, vs, h3, h4⟩ := R.cell _ _ _ h1 e
      exact ⟨a, vs, h2, h3, h4⟩
    · cases h
  · cases h
def fExtend : Fm := fun x ws st => match x, ws with
  | .c n, [w] => match st[n]?, itmX st w with
    | some (.lst xs), some ys => if xs.length + ys.length ≤ sizeLine then .ok (.d .none) (st.set n (.lst (xs ++ ys))) else .bad
    | _, _ => .bad
  | _, _ => .bad
theorem by_extend : ByM C fExtend rExtend := by
  intro F al st H v w vs ws Q R r rs h
  unfold fExtend at h
  split at h
  · split at h
    · rename_i n w _ _ xs ys hn hy
      split at h
      · rename_i hl
        obtain ⟨a, h1, rfl⟩ := r
        obtain ⟨q, us, h3, h4⟩ := R.cell _ _ _ h1 hn
        cases rs with
        | cons r1 t =>
          cases t
          obtain ⟨b, zs, rfl, z1, z2⟩ := itmX_rel R r1 hy
          exact ⟨a, b, us, zs, rfl, rfl, h3, z1, by rw [h4.length, z2.length]; exact hl, h _ _ _ Ext.refl (R.setC (c := .lst (xs ++ ys)) h1 q ⟨q, _, upd_same, Paired.app h4 z2⟩) _ .non⟩
      · exact h.elim
    · exact h.elim
  · exact h.elim
def fClear : Fm := fun x ws st => match x, ws with
  | .c n, [] => match st[n]? with
    | some (.lst xs) => .ok (.d .none) (st.set n (.lst []))
    | _ => .bad
  | _, _ => .bad
theorem by_clear : ByM C fClear rClear := by
  intro F al st H v w vs ws Q R r rs h
  unfold fClear at h
  split at h
  · split at h
    · rename_i n _ xs hn
      obtain ⟨a, h1, rfl⟩ := r
      obtain ⟨q, us, h3, h4⟩ := R.cell _ _ _ h1 hn
      cases rs
      exact ⟨a, us, rfl, rfl, h3, h _ _ _ Ext.refl (R.setC (c := .lst []) h1 q ⟨q, _, upd_same, .nil⟩) _ .non⟩
    · exact h.elim
  · exact h.elim

/-! ### d.get -/
def dctAt (st : Store) : W → Option (List (Key × W))
  | .c n => match st[n]? with
    | some (.dct kvs) => some kvs
    | _ => none
  | _ => none
theorem dctAt_rel {K : Frg} {F : Hp} {al : List Addr} {st : Store} {H : Hp} (R : Rel K F al st H) {v : V} {w : W} {kvs : List (Key × W)} (r : WR K F al v w) (h : dctAt st w = some kvs) : ∃ a us, v = .ref a ∧ H a = some (.dK us) ∧ KWR K F al us kvs := by
  unfold dctAt at h
  split at h
  · split at h
    · rename_i hn
      cases h
      obtain ⟨a, us, rfl, _, _, h4, h5⟩ := dct_get R r hn
      exact ⟨a, us, rfl, h4, h5⟩
    · cases h
  · cases h
def get1 (o k : Ev) : Ev := fun env st => (o env st).bind fun x st1 => match dctAt st1 x with
  | some _ => (k env st1).bind fun y st2 => match dctAt st2 x, keyOf y with
    | some kvs, some key => match kget kvs key with
      | some w => .ok w st2
      | none => .ok (.d .none) st2
    | _, _ => .bad
  | none => .bad
def get2 (o k z : Ev) : Ev := fun env st => (o env st).bind fun x st1 => match dctAt st1 x with
  | some _ => (k env st1).bind fun y st2 => (z env st2).bind fun dd st3 => match dctAt st3 x, keyOf y with
    | some kvs, some key => match kget kvs key with
      | some w => .ok w st3
      | none => .ok dd st3
    | _, _ => .bad
  | none => .bad
theorem se_get1 {o e : Expr} {co ce : Ev} {apos cpos : Pos} (ck : Cok C) (ho : SE C o co) (he : SE C e ce) (m : M1 C.X o "get" apos e cpos := by exact ⟨rfl, rfl, rfl, rfl⟩) : SE C (.Call (.Attribute o "get" apos) [e] [] cpos) (get1 co ce) :=
  PE.imp (pe_dget1 (by have := ck.hu; omega) ho he m) fun σ H Q => by
    rintro ⟨F, al, env, st, R, E, h⟩
    refine ⟨F, al, env, st, R, E, h.step fun F1 al1 st1 H1 x e1 R1 h1 v rv => ?_⟩
    split at h1
    · rename_i kvs0 hk0
      obtain ⟨a, us0, rfl, h3, h4⟩ := dctAt_rel R1 rv hk0
      refine ⟨a, rfl, .inl ⟨us0, .inl h3⟩, F1, al1, env, st1, R1, E.mono e1, h1.step fun F2 al2 st2 H2 y e2 R2 h2 u ru => ?_⟩
      split at h2
      · rename_i kvs key hk hy
        obtain ⟨b, us, eb, h5, h6⟩ := dctAt_rel R2 (rv.mono e2) hk
        cases eb
        refine ⟨valV us key, by rw [keyOf_rel ru hy]; exact DGet.k h5, ?_⟩
        rcases kget_rel key h6 with ⟨z1, z2⟩ | ⟨w, v, z1, z2, z3⟩
        · rw [z1] at h2
          rw [z2]
          exact h2 _ _ _ Ext.refl R2 _ .non
        · rw [z1] at h2
          rw [z2]
          exact h2 _ _ _ Ext.refl R2 _ z3
      · exact h2.elim
    · exact h1.elim
theorem se_get2 {o e z : Expr} {co ce cz : Ev} {apos cpos : Pos} (ck : Cok C) (ho : SE C o co) (he : SE C e ce) (hz : SE C z cz) (m : M2 C.X o "get" apos e z cpos := by exact ⟨rfl, rfl, rfl, rfl⟩) : SE C (.Call (.Attribute o "get" apos) [e, z] [] cpos) (get2 co ce cz) :=
  PE.imp (pe_dget2 (by have := ck.hu; omega) ho he hz m) fun σ H Q => by
    rintro ⟨F, al, env, st, R, E, h⟩
    refine ⟨F, al, env, st, R, E, h.step fun F1 al1 st1 H1 x e1 R1 h1 v rv => ?_⟩
    split at h1
    · rename_i kvs0 hk0
      obtain ⟨a, us0, rfl, h3, h4⟩ := dctAt_rel R1 rv hk0
      refine ⟨a, rfl, .inl ⟨us0, .inl h3⟩, F1, al1, env, st1, R1, E.mono e1, h1.step fun F2 al2 st2 H2 y e2 R2 h2 u ru => ?_⟩
      refine ⟨F2, al2, env, st2, R2, E.mono (e1.trans e2), h2.step fun F3 al3 st3 H3 dd e3 R3 h3 q rq => ?_⟩
      split at h3
      · rename_i kvs key hk hy
        obtain ⟨b, us, eb, h5, h6⟩ := dctAt_rel R3 (rv.mono (e2.trans e3)) hk
        cases eb
        refine ⟨valV us key, by rw [keyOf_rel ru hy]; exact DGet.k h5, ?_⟩
        rcases kget_rel key h6 with ⟨z1, z2⟩ | ⟨w, v, z1, z2, z3⟩
        · rw [z1] at h3
          rw [z2]
          exact h3 _ _ _ Ext.refl R3 _ rq
        · rw [z1] at h3
          rw [z2]
          exact h3 _ _ _ Ext.refl R3 _ z3
      · exact h3.elim
    · exact h1.elim

/-! ### slices -/
def cutG {α : Type} (xs : List α) (lo hi : Option Int) : List α := (xs.drop (HT.sIx xs.length 0 lo)).take (HT.sIx xs.length xs.length hi - HT.sIx xs.length 0 lo)
abbrev Po := Env → Store → Res (Option Int)
def noP : Po := fun _ st => .ok none st
def part (a : Ev) : Po := fun env st => (a env st).bind fun w st1 => match w with
  | .d (.int i) => .ok (some i) st1
  | _ => .bad
def rdO (K : Frg) (CA : Nat → Addr) (Wx : WX) (c : Po) : TO := fun σ H Q => ∃ F al env st, Rel K F al st H ∧ EnvR K F al σ env ∧ Post K CA F al (c env st) (fun _ _ _ H' o => Q o H') (fun cls d H' => Wx cls d σ H')
def SO (C : Cxt) (e : Option Expr) (c : Po) : Prop := PO C.X e (rdO C.X.K C.CA C.Wx c)
theorem PO.imp {X : Cx} {e : Option Expr} {t t' : TO} (h : PO X e t) (k : ∀ σ H Q, t' σ H Q → t σ H Q) : PO X e t' := ⟨fun pins s σ H Q I q => h.run pins s σ H Q I (k σ H Q q)⟩
theorem so_none : SO C none noP := PO.imp po_none fun σ H Q => by
  rintro ⟨F, al, env, st, R, E, h⟩
  exact h _ _ _ Ext.refl R
theorem so_some {e : Expr} {c : Ev} (he : SE C e c) : SO C (some e) (part c) := PO.imp (po_some he) fun σ H Q => by
  rintro ⟨F, al, env, st, R, E, h⟩
  refine ⟨F, al, env, st, R, E, h.step fun F1 al1 st1 H1 w e1 R1 h1 v rv => ?_⟩
  split at h1
  · cases rv
    exact ⟨_, rfl, h1 _ _ _ Ext.refl R1⟩
  · exact h1.elim
def fCut (mk : List W → Store → Res W) (w : W) (lo hi : Option Int) (st : Store) : Res W := match w with
  | .d (.str x) => if x.length ≤ sizeLine then .ok (.d (.str (cutS x lo hi))) st else .bad
  | .d (.tuple ds) => if HT.sIx ds.length 0 lo = 0 ∧ HT.sIx ds.length ds.length hi = ds.length then .bad else .ok (.d (.tuple (cutG ds lo hi))) st
  | w => match itm st w with
    | some xs => mk (cutG xs lo hi) st
    | none => .bad
def slc (mk : List W → Store → Res W) (o : Ev) (lo hi : Po) : Ev := fun env st => (o env st).bind fun x st1 => (lo env st1).bind fun l st2 => (hi env st2).bind fun u st3 => fCut mk x l u st3
theorem Paired.drop {α β : Type} {R : α → β → Prop} : ∀ {xs : List α} {ys : List β} (n : Nat), Paired R xs ys → Paired R (xs.drop n) (ys.drop n)
  | _, _, 0, h => h
  | _, _, _ + 1, .nil => .nil
  | _, _, n + 1, .cons _ t => Paired.drop n t
theorem Paired.take {α β : Type} {R : α → β → Prop} : ∀ {xs : List α} {ys : List β} (n : Nat), Paired R xs ys → Paired R (xs.take n) (ys.take n)
  | _, _, 0, _ => .nil
  | _, _, _ + 1, .nil => .nil
  | _, _, n + 1, .cons r t => .cons r (Paired.take n t)
theorem Paired.cut {α : Type} {R : V → α → Prop} {xs : List V} {ys : List α} (h : Paired R xs ys) (lo hi : Option Int) : Paired R (cutV xs lo hi) (cutG ys lo hi) := by
  unfold cutV cutG
  rw [h.length]
  exact Paired.take _ (Paired.drop _ h)
def rSlA (K : Frg) : V → Option Int → Option Int → Hp → VK → Prop := fun x lo hi H Q => (rSlL K x lo hi H Q ∨ rSlT K x lo hi H Q) ∨ rSlS x lo hi H Q
theorem by_cut {mk : List W → Store → Res W} (hm : ∀ {F : Hp} {al : List Addr} {st : Store} {H : Hp} {ws : List W} {vs : List V} {Q : VK} {p : Addr}, Rel C.X.K F al st H → WRs C.X.K F al vs ws →
    Post C.X.K C.CA F al (mk ws st) (fun F' al' _ H' w => ∀ v, WR C.X.K F' al' v w → Q v H') (fun _ _ _ => True) → H p = none → Q (.ref p) (L2.upd H p (.lst vs)))
    {F : Hp} {al : List Addr} {st : Store} {H : Hp} {v : V} {w : W} {lo hi : Option Int} {Q : VK} (R : Rel C.X.K F al st H) (r : WR C.X.K F al v w) (h : Post C.X.K C.CA F al (fCut mk w lo hi st) (fun F' al' _ H' w => ∀ v, WR C.X.K F' al' v w → Q v H') (fun _ _ _ => True)) : rSlA C.X.K v lo hi H Q := by
  unfold fCut at h
  split at h
  · cases r
    split at h
    · rename_i hk
      exact .inr ⟨_, rfl, hk, h _ _ _ Ext.refl R _ (.str _)⟩
    · exact h.elim
  · split at h
    · exact h.elim
    · rename_i hk
      cases r with
      | tup h1 h2 =>
        refine .inl (.inr ⟨_, _, rfl, Same.tupq R.sub h1, by rw [h2.length]; exact hk, fun p hp => ?_⟩)
        obtain ⟨x, R'⟩ := R.newD hp (.tup (cutV _ lo hi))
        exact h _ _ _ x R' _ (Dq.tup (SqT.of upd_same) (Dq.monoAll x.same _ _ (DqAll.of_paired (Paired.cut (DqAll.paired h2) lo hi))))
  · split at h
    · rename_i xs hx
      obtain ⟨a, us, rfl, q1, q2⟩ := itm_rel R r hx
      exact .inl (.inl ⟨a, us, rfl, q1, fun p hp => hm R (Paired.cut q2 lo hi) h hp⟩)
    · exact h.elim
theorem rd_slc {mk : List W → Store → Res W} {o : Ev} {lo hi : Po} (hm : ∀ {F : Hp} {al : List Addr} {st : Store} {H : Hp} {ws : List W} {vs : List V} {Q : VK} {p : Addr}, Rel C.X.K F al st H → WRs C.X.K F al vs ws →
    Post C.X.K C.CA F al (mk ws st) (fun F' al' _ H' w => ∀ v, WR C.X.K F' al' v w → Q v H') (fun _ _ _ => True) → H p = none → Q (.ref p) (L2.upd H p (.lst vs))) :
    ∀ σ H Q, rdE C.X.K C.CA C.Wx (slc mk o lo hi) σ H Q → tSl (rSlA C.X.K) (rdE C.X.K C.CA C.Wx o) (rdO C.X.K C.CA C.Wx lo) (rdO C.X.K C.CA C.Wx hi) σ H Q := by
  rintro σ H Q ⟨F, al, env, st, R, E, h⟩
  refine ⟨F, al, env, st, R, E, h.step fun F1 al1 st1 H1 x e1 R1 h1 v rv => ?_⟩
  refine ⟨F1, al1, env, st1, R1, E.mono e1, h1.step fun F2 al2 st2 H2 l e2 R2 h2 => ?_⟩
  refine ⟨F2, al2, env, st2, R2, E.mono (e1.trans e2), h2.step fun F3 al3 st3 H3 u e3 R3 h3 => ?_⟩
  exact by_cut hm R3 (rv.mono (e2.trans e3)) (h3.imp (fun _ _ _ _ _ _ _ q => q) fun _ _ _ _ => trivial)
theorem se_slc {o : Expr} {lo hi : Option Expr} {co : Ev} {cl cu : Po} {pos p2 : Pos} (ho : SE C o co) (hl : SO C lo cl) (hu : SO C hi cu) : SE C (.Subscript o (.Slice lo hi none p2) pos) (slc mkL co cl cu) :=
  PE.imp (pe_slice (SlR.or (SlR.or sl_list sl_tup) sl_str) ho hl hu) (rd_slc fun R r h hp => mkL_post R r h hp)
theorem se_slcC {o : Expr} {lo hi : Option Expr} {co : Ev} {cl cu : Po} {pos p2 : Pos} (ho : SE C o co) (hl : SO C lo cl) (hu : SO C hi cu) : SE C (.Subscript o (.Slice lo hi none p2) pos) (slc mkC co cl cu) :=
  PE.imp (pe_slice (SlR.or (SlR.or sl_list sl_tup) sl_str) ho hl hu) (rd_slc fun R r h hp => mkC_post R r h hp)
/-- a statement that is never reached -/
def nev : Sd := fun _ _ => .bad
theorem ss_never {s : Stmt} : SS C s nev := PS.imp ps_never fun D σ H => by
  rintro ⟨F, al, env, st, R, E, h⟩
  exact h
end
end VS

set_option Elab.async false
set_option linter.all false
set_option maxRecDepth 100000
set_option maxHeartbeats 1000000
/-! VSW: short words for derivations. -/
namespace VS
open PySem PySem.Spec PyProof.Rows L2
section
variable {C : Cxt} {a b c : Expr} {ca cb cc : Ev} {pos : Pos}
theorem e_add (ha : SE C a ca) (hb : SE C b cb) : SE C (.BinOp a .Add b pos) (bin fAdd ca cb) := se_bin addR by_add ha hb
theorem e_catC (ha : SE C a ca) (hb : SE C b cb) : SE C (.BinOp a .Add b pos) (bin fCatC ca cb) := se_bin addR by_catC ha hb
theorem e_sub (ha : SE C a ca) (hb : SE C b cb) : SE C (.BinOp a .Sub b pos) (bin fSub ca cb) := se_bin op_sub by_sub ha hb
theorem e_mul (ha : SE C a ca) (hb : SE C b cb) : SE C (.BinOp a .Mult b pos) (bin fMul ca cb) := se_bin mulR by_mul ha hb
theorem e_rep (ha : SE C a ca) (hb : SE C b cb) : SE C (.BinOp a .Mult b pos) (bin fRep ca cb) := se_bin op_rep by_rep ha hb
theorem e_repC (ha : SE C a ca) (hb : SE C b cb) : SE C (.BinOp a .Mult b pos) (bin fRepC ca cb) := se_bin op_rep by_repC ha hb
theorem e_div (ha : SE C a ca) (hb : SE C b cb) : SE C (.BinOp a .FloorDiv b pos) (bin fDiv ca cb) := se_bin op_fdivW by_div ha hb
theorem e_mod (ha : SE C a ca) (hb : SE C b cb) : SE C (.BinOp a .Mod b pos) (bin fMod ca cb) := se_bin op_mod by_mod ha hb
theorem e_pow (ha : SE C a ca) (hb : SE C b cb) : SE C (.BinOp a .Pow b pos) (bin fPow ca cb) := se_bin powR by_pow ha hb
theorem e_shr (ha : SE C a ca) (hb : SE C b cb) : SE C (.BinOp a .RShift b pos) (bin fShr ca cb) := se_bin op_shr by_shr ha hb
theorem se_globI {x : Str} {i : Int} (hm : ∃ t, C.X.mg x = some (.int i t)) (hg : Gl C.X x := by rfl) (hd : (x == ("__debug__" : Str)) = false := by decide) : SE C (.Name x pos) (cst (.int i)) := by
  obtain ⟨t, h⟩ := hm
  exact se_glob (v := .int i) h ⟨t, rfl⟩ (fun _ => .int i) hg hd
variable (ck : Cok C)
include ck
theorem e_eq (ha : SE C a ca) (hb : SE C b cb) : SE C (.Compare a [.Eq] [b] pos) (bin (fEq false) ca cb) := se_cmp (op_eqP ck.hu) (by_eq false) ha hb (nomark _)
theorem e_ne (ha : SE C a ca) (hb : SE C b cb) : SE C (.Compare a [.NotEq] [b] pos) (bin (fEq true) ca cb) := se_cmp (op_neP ck.hu) (by_eq true) ha hb (nomark _)
theorem e_lt (ha : SE C a ca) (hb : SE C b cb) : SE C (.Compare a [.Lt] [b] pos) (bin fLt ca cb) := se_cmp (op_ltP ck.hu) (by_ord _) ha hb (nomark _)
theorem e_gt (ha : SE C a ca) (hb : SE C b cb) : SE C (.Compare a [.Gt] [b] pos) (bin fGt ca cb) := se_cmp (op_gtP ck.hu) (by_ord _) ha hb (nomark _)
theorem e_le (ha : SE C a ca) (hb : SE C b cb) : SE C (.Compare a [.LtE] [b] pos) (bin fLe ca cb) := se_cmp (op_leP ck.hu) (by_ord _) ha hb (nomark _)
theorem e_ge (ha : SE C a ca) (hb : SE C b cb) : SE C (.Compare a [.GtE] [b] pos) (bin fGe ca cb) := se_cmp (op_geP ck.hu) (by_ord _) ha hb (nomark _)
theorem e_in (ha : SE C a ca) (hb : SE C b cb) (hm : behindInMarks .In b = false := by rfl) : SE C (.Compare a [.In] [b] pos) (bin (fIn false) ca cb) := se_cmp (inR ck.hu) (by_in false) ha hb hm
theorem e_nin (ha : SE C a ca) (hb : SE C b cb) (hm : behindInMarks .NotIn b = false := by rfl) : SE C (.Compare a [.NotIn] [b] pos) (bin (fIn true) ca cb) := se_cmp (notInR ck.hu) (by_in true) ha hb hm
theorem e_is (ha : SE C a ca) (hb : SE C b cb) : SE C (.Compare a [.Is] [b] pos) (bin (fIsN false) ca cb) := se_cmp op_isP (by_isN false) ha hb (nomark _)
theorem e_isn (ha : SE C a ca) (hb : SE C b cb) : SE C (.Compare a [.IsNot] [b] pos) (bin (fIsN true) ca cb) := se_cmp op_isnotP (by_isN true) ha hb (nomark _)
theorem t_eq (ha : SE C a ca) (hb : SE C b cb) : ST C (.Compare a [.Eq] [b] pos) (boo (bin (fEq false) ca cb)) := st_cmp (op_eqP ck.hu) (by_eq false) ha hb (nomark _)
theorem t_ne (ha : SE C a ca) (hb : SE C b cb) : ST C (.Compare a [.NotEq] [b] pos) (boo (bin (fEq true) ca cb)) := st_cmp (op_neP ck.hu) (by_eq true) ha hb (nomark _)
theorem t_lt (ha : SE C a ca) (hb : SE C b cb) : ST C (.Compare a [.Lt] [b] pos) (boo (bin fLt ca cb)) := st_cmp (op_ltP ck.hu) (by_ord _) ha hb (nomark _)
theorem t_gt (ha : SE C a ca) (hb : SE C b cb) : ST C (.Compare a [.Gt] [b] pos) (boo (bin fGt ca cb)) := st_cmp (op_gtP ck.hu) (by_ord _) ha hb (nomark _)
theorem t_le (ha : SE C a ca) (hb : SE C b cb) : ST C (.Compare a [.LtE] [b] pos) (boo (bin fLe ca cb)) := st_cmp (op_leP ck.hu) (by_ord _) ha hb (nomark _)
theorem t_ge (ha : SE C a ca) (hb : SE C b cb) : ST C (.Compare a [.GtE] [b] pos) (boo (bin fGe ca cb)) := st_cmp (op_geP ck.hu) (by_ord _) ha hb (nomark _)
theorem t_in (ha : SE C a ca) (hb : SE C b cb) (hm : behindInMarks .In b = false := by rfl) : ST C (.Compare a [.In] [b] pos) (boo (bin (fIn false) ca cb)) := st_cmp (inR ck.hu) (by_in false) ha hb hm
theorem t_nin (ha : SE C a ca) (hb : SE C b cb) (hm : behindInMarks .NotIn b = false := by rfl) : ST C (.Compare a [.NotIn] [b] pos) (boo (bin (fIn true) ca cb)) := st_cmp (notInR ck.hu) (by_in true) ha hb hm
theorem t_is (ha : SE C a ca) (hb : SE C b cb) : ST C (.Compare a [.Is] [b] pos) (boo (bin (fIsN false) ca cb)) := st_cmp op_isP (by_isN false) ha hb (nomark _)
theorem t_isn (ha : SE C a ca) (hb : SE C b cb) : ST C (.Compare a [.IsNot] [b] pos) (boo (bin (fIsN true) ca cb)) := st_cmp op_isnotP (by_isN true) ha hb (nomark _)
/-- a op b op' c -/
theorem e_ch {f g : W → W → Store → Res W} {r r' : R2} {op op' : CmpOp} (x : OpR C.X (compareOp op) r ∧ By2 C f r) (y : OpR C.X (compareOp op') r' ∧ By2 C g r') (ha : SE C a ca) (hb : SE C b cb) (hc : SE C c cc) (hm : lastMarks [op, op'] [b, c] = false := by with_unfolding_all rfl) :
    SE C (.Compare a [op, op'] [b, c] pos) (chn f g ca cb cc) := se_chn x.1 y.1 x.2 y.2 ha hb hc (pe_chain x.1 y.1 ha hb hc hm)
theorem t_ch {f g : W → W → Store → Res W} {r r' : R2} {op op' : CmpOp} (x : OpR C.X (compareOp op) r ∧ By2 C f r) (y : OpR C.X (compareOp op') r' ∧ By2 C g r') (ha : SE C a ca) (hb : SE C b cb) (hc : SE C c cc) (hm : lastMarks [op, op'] [b, c] = false := by with_unfolding_all rfl) :
    ST C (.Compare a [op, op'] [b, c] pos) (boo (chn f g ca cb cc)) := PT.imp (pt_chain x.1 y.1 ha hb hc hm) fun σ H Q => by
  rintro ⟨F, al, env, st, R, E, h1⟩
  refine rd_chn x.2 y.2 σ H _ ⟨F, al, env, st, R, E, h1.step fun F1 al1 st1 H1 z e1 R1 h2 v rv => ?_⟩
  split at h2
  · cases rv
    exact ⟨_, rfl, h2 _ _ _ Ext.refl R1⟩
  · exact h2.elim
theorem o_lt : OpR C.X (compareOp .Lt) (rOrd C.X.K fun x y => PySem.W.dataLt x y) ∧ By2 C fLt (rOrd C.X.K fun x y => PySem.W.dataLt x y) := ⟨op_ltP ck.hu, by_ord _⟩
theorem o_le : OpR C.X (compareOp .LtE) (rOrd C.X.K fun x y => !PySem.W.dataLt y x) ∧ By2 C fLe (rOrd C.X.K fun x y => !PySem.W.dataLt y x) := ⟨op_leP ck.hu, by_ord _⟩
theorem o_eq : OpR C.X (compareOp .Eq) (rEqP C.X.K false) ∧ By2 C (fEq false) (rEqP C.X.K false) := ⟨op_eqP ck.hu, by_eq false⟩
theorem e_ix (ha : SE C a ca) (hb : SE C b cb) (hs : PlainIx b := by exact fun _ _ => rfl) (hs2 : NoSl b := by exact fun _ _ => rfl) : SE C (.Subscript a b pos) (bin fIx ca cb) := se_ix ck.hu ha hb hs hs2
theorem e_app {apos : Pos} {p2 : Pos} (ha : SE C a ca) (hb : SE C b cb) (hs : starEach (b :: []) C.X.env = (false, eval b C.X.env) :: starEach [] C.X.env := by rfl) (hbase : attributeBase a "append" C.X.env (eval a C.X.env) = eval a C.X.env := by rfl)
    (hfew : ((backTo p2 (starEach (b :: []) C.X.env)).all (fun x => !x.1) && (backToKw p2 (keywordEach [] C.X.env)).all (fun x => x.1.isSome)
      && decide ((b :: []).length + ([] : List Keyword).length + (if ([] : List Keyword).isEmpty then 0 else 1) < 30)) = true := by rfl)
    (hline : (apos.endLine == p2.line) = true := by rfl) : SE C (.Call (.Attribute a "append" apos) [b] [] p2) (mth "list" fAppend ca (aCons cb aNil)) :=
  se_bm PySem.F.plainAttrs_list PySem.F.slot_list_append PySem.F.type_list_append mt_append by_append ha (sa_cons hb sa_nil hs) hbase hfew hline hs rfl
end
/-- targets = a tuple, of which some items may be cells -/
def asgT (g : Ti) (a : Av) : Sd := fun env st => (a env st).fl env fun ws st1 => match g (.t ws) env st1 with
  | some (env2, st2) => .nx env2 st2
  | none => .bad
theorem ss_tupG {C : Cxt} {tg : Expr} {es : List Expr} {c : Av} {g : Ti} {k} {pt pos : Pos} (ha : SA C es c) (hg : SGI C tg g) (hl : es.length ≤ sizeLine := by show _ ≤ 16777216; decide) (hs : swapsWithSole [tg] (.Tuple es k pt) pos.line C.X.env = pure false := by rfl) (hw : swappedStores [tg] (.Tuple es k pt) C.X.env = pure none := by rfl)
    (h1 : (assignEach [tg] C.X.env).map (·.2) = [assign tg C.X.env] := by rfl) : SS C (.Assign [tg] (.Tuple es k pt) pos) (asgT g c) := PS.imp (ps_asg (pe_tup ha.pa) hg hs hw h1) fun D σ H => by
  rintro ⟨F, al, env, st, R, E, h⟩
  refine ⟨F, al, env, st, R, E, FPost.step E h fun F1 al1 st1 H1 ws eq e1 R1 E1 h1 vs rv => ?_⟩
  refine ⟨by rw [rv.length, ha.len _ _ _ _ eq]; exact hl, fun p hp => ?_⟩
  obtain ⟨x, R2⟩ := R1.newD hp (.tup vs)
  refine ⟨_, al1, env, st1, .t ws, R2, E1.mono x, ⟨p, vs, rfl, SqT.of upd_same, WRs.mono x rv⟩, ?_⟩
  have h2 := h1.at x
  split at h2
  · rename_i env2 st2 e2
    rw [e2]
    exact h2
  · exact h2.elim
/-! what a comprehension's block is shown by -/
theorem blkE {C : Cxt} (ck : Cok C) {scope : Scope} {x : Expr} {e : Ev} (h : ∀ (s : Shared) (H : Hp) (L : Addr) (cl : List (Str × Addr)) (fp : List Addr), Cok (C.blk s H scope cl L fp) → SE (C.blk s H scope cl L fp) x e) : BlkE C scope x e :=
  fun s H L cl fp => h s H L cl fp (blk_ok ck)
theorem blkT {C : Cxt} (ck : Cok C) {scope : Scope} {es : List Expr} {t : Tst} (h : ∀ (s : Shared) (H : Hp) (L : Addr) (cl : List (Str × Addr)) (fp : List Addr), Cok (C.blk s H scope cl L fp) → STs (C.blk s H scope cl L fp) es t) : BlkT C scope es t :=
  fun s H L cl fp => h s H L cl fp (blk_ok ck)
theorem blkG {C : Cxt} (ck : Cok C) {scope : Scope} {tg : Expr} {g : Ti} {js : List Nat} (h : ∀ (s : Shared) (H : Hp) (L : Addr) (cl : List (Str × Addr)) (fp : List Addr), Cok (C.blk s H scope cl L fp) → SGC (C.blk s H scope cl L fp).X tg g js) : BlkG C scope tg g js :=
  fun s H L cl fp => h s H L cl fp (blk_ok ck)
/-- a def as the top leaves it -/
def DefT (K : Frg) (mg : Str → Option Value) (x : Str) (st : Stmt) (ps : List Str) : Prop := ∃ f fd, Fun K x x st f fd ∧ mg x = some (.ref f) ∧ Binds K fd ps []
theorem fnF_mk {P : Program} {w : World} {K : Frg} {mg : Str → Option Value} {base : Heap} {CA : Nat → Addr} {x : Str} {st : Stmt} {N ps : List Str} {k : Nat} {body : Sd} (T : DefT K mg x st ps) (S : FnScope N ps (defScope st))
    (hb : ∀ (f : Addr) (cdv : Value) (A : Around) (outer : List PySem.Env) (s : Shared) (H : Hp) (E : XK), Cok (defC P w K mg base CA N x (defScope st) f cdv A outer s H E) → Room k (A.deeper (envOfC x (defScope st) s.heap.objs.size f cdv)) → SSs (defC P w K mg base CA N x (defScope st) f cdv A outer s H E) (defBody st) body) :
    FnF P w K mg base CA x (k + 1) ps (fnD N.length body) := by
  obtain ⟨f, fd, F, hm, b⟩ := T
  exact ⟨f, fd, fn_ok F S fun cdv A outer s H E gd hr => hb f cdv A outer s H E (defC_ok gd hr S) hr, hm, F.kp, b⟩
end VS

set_option Elab.async false
set_option linter.all false
set_option maxRecDepth 100000
set_option maxHeartbeats 1000000
/-! VSE: the end of a proof: what the top has written, the goal that the head leaves. -/
namespace VS
open PySem PySem.Spec PyProof.Rows L2
theorem dq_ints {K : Frg} {F : Hp} : ∀ ns : List Int, DqAll K F (ns.map V.int) (ns.map PyData.int)
  | [] => .nil
  | n :: ns => .cons (.int n) (dq_ints ns)
theorem Rel.start {K : Frg} {H : Hp} : Rel K H [] [] H := ⟨Same.refl _, rfl, .nil, fun n a c h => by cases h⟩
/-- the law is true of a script -/
def Says (φ : Fn) (ns : List Int) : Prop := ∃ st, φ [.r (ns.map .int)] [] = .ok (.d (.bool true)) st
theorem says_sp {K : Frg} {CA : Nat → Addr} {φ : Fn} {H : Hp} {a : Addr} {ns : List Int} (h : Says φ ns) (hS : SqL K H a (ns.map V.int)) : spF K CA 1 φ [.ref a] H (fun v _ => v = .bl true) fun _ _ _ => False := by
  obtain ⟨st, e⟩ := h
  refine ⟨rfl, H, [], [], [.r (ns.map .int)], Rel.start, .cons ⟨a, _, rfl, hS, dq_ints ns⟩ .nil, ?_⟩
  rw [e]
  intro F al H' x R v r
  cases r
  rfl
/-- the law's def as the top leaves it -/
def DefL (K : Frg) (mg : Str → Option Value) (st : Stmt) : Prop := ∃ f fd, Fun K "law" "law" st f fd ∧ mg "law" = some (.ref f) ∧ ∀ (s : Shared) (u : Value), BindsTo s fd ⟨[u], []⟩ [("script", u)]
section
variable {K : Frg} {h : Heap} {mg : Str → Option Value}
theorem defT_mk (X : K.In h) (G : h.Ns mainGlobals mg) {x : Str} {st : Stmt} {ps : List Str} {f : Addr} {oc : Value} {od an : Option Addr} {osl : Array (Option Value)} {kV doc pm cdv ct : Value} (a : PySem.W.nsIn K mainGlobals x = some (some (.ref f)))
    (l : K.lookup f = some ⟨oc, od, .func (PySem.W.fnOf x x (defArgs st) (defBody st) (defScope st) .none kV doc pm an cdv ct), osl⟩) (c : PySem.W.codeIn K cdv x = true) (k : PySem.W.keepIn K (.ref f) = true)
    (b : ∀ (kV doc pm : Value) (an : Option Addr) (cdv ct : Value) (us : List Value), us.length = ps.length → bindArgs (PySem.W.fnOf x x (defArgs st) (defBody st) (defScope st) .none kV doc pm an cdv ct) ⟨us, []⟩ = pure (ps.zip us)) : DefT K mg x st ps :=
  have F := fun_mk (st := st) l c k
  ⟨f, _, F, PySem.W.mg_of X G a, F.binds b⟩
theorem defL_mk (X : K.In h) (G : h.Ns mainGlobals mg) {st : Stmt} {f : Addr} {oc : Value} {od an : Option Addr} {osl : Array (Option Value)} {kV doc pm cdv ct : Value} (a : PySem.W.nsIn K mainGlobals "law" = some (some (.ref f)))
    (l : K.lookup f = some ⟨oc, od, .func (PySem.W.fnOf "law" "law" (defArgs st) (defBody st) (defScope st) .none kV doc pm an cdv ct), osl⟩) (c : PySem.W.codeIn K cdv "law" = true) (k : PySem.W.keepIn K (.ref f) = true)
    (b : ∀ (kV doc pm : Value) (an : Option Addr) (cdv ct : Value) (u : Value), bindArgs (PySem.W.fnOf "law" "law" (defArgs st) (defBody st) (defScope st) .none kV doc pm an cdv ct) ⟨[u], []⟩ = pure [(("script" : Str), u)]) : DefL K mg st :=
  ⟨f, _, fun_mk (st := st) l c k, PySem.W.mg_of X G a, fun s u => .of_eq (b _ _ _ _ _ _ u)⟩
theorem int_mk (X : K.In h) (G : h.Ns mainGlobals mg) {x : Str} {i : Int} {t : Tok} (a : PySem.W.nsIn K mainGlobals x = some (some (.int i t))) : ∃ t, mg x = some (.int i t) := ⟨t, PySem.W.mg_of X G a⟩
theorem none_mk (X : K.In h) (G : h.Ns mainGlobals mg) {x : Str} (a : PySem.W.nsIn K mainGlobals x = some none) : mg x = none := PySem.W.mg_none_of X G a
end
/-- the goal that the head leaves -/
theorem walk_vs {l : PySem.W.OpenLaw} {n k : Nat} {q : Program} {loose : List Str} {XP : (Str → Option Value) → Heap → Prop} {YP : World → Heap → Prop} {d : DefRec} {K : Params → PySem.W.Frag} (CA : Frg → Nat → Addr) (φ : Fn) (st : Stmt)
    (hp : ∀ ns : List Int, ns.length ≤ n → Says φ ns) (hn : l.most = some n) (hn2 : n ≤ sizeLine) (hdf : d.params.defaults = []) (hdn : d.name = "law") (hr : Room k callerA)
    (hY : ∀ (w : World) (h : Heap), YP w h → (K w.params).In h)
    (F : ∀ (w : World) (mg : Str → Option Value) (h : Heap), (K w.params).In h → h.Ns mainGlobals mg → DefL (K w.params) mg st ∧
        ∀ (f : Addr) (fd : FuncData) (base : Heap), (K w.params).In base → base.Ns mainGlobals mg → Fun (K w.params) "law" "law" st f fd → FnG l.prog w (K w.params) mg base k f fd ["script"] (spF (K w.params) (CA (K w.params)) 1 φ)) :
    PySem.W.WalkO q loose XP YP l.row.toRowW d [] (fun f vs => PySem.call f vs) :=
  walk_ofG (sp := fun w => spF (K w.params) (CA (K w.params)) 1 φ) hn hn2 hdf hr hY (fun w mg fa h KX G hmg => by
    obtain ⟨⟨f, fd, T, hm, hb⟩, hF⟩ := F w mg h KX G
    rw [hdn, hm] at hmg
    cases hmg
    exact ⟨fd, hb, fun base kb gb => hF _ fd base kb gb T⟩) fun w H a ns hl hO hS => says_sp (hp ns hl) hS
end VS

set_option Elab.async false
set_option linter.all false
namespace CB
open PySem VS
/-- is_integer(value): 0 value -/
noncomputable def d_is_integer : Sd :=
    (ret (vAnd (isiD "int" (vr 0)) (vNot (isiD "bool" (vr 0)))))
noncomputable def f_is_integer : Fn := fnD 1 d_is_integer
/-- ends_of(pieces): 0 pieces 1 end -/
noncomputable def d_ends_of : Sd :=
    (ret (lcD (iRg2 (aCons (vNeg (vr 0)) (aCons (bin fAdd (vr 0) (cst (.int 1))) aNil))) (tiW (gN 1)) (boo (bin (fEq true) (vr 1) (cst (.int 0)))) (vr 1) [1]))
noncomputable def f_ends_of : Fn := fnD 2 d_ends_of
/-- couples(layout): 0 layout 1 found 2 first 3 second -/
noncomputable def d_couples : Sd :=
    (sq (asg 1 dctC)
    (sq (forS (iSeq (vr 0)) (tiT 2 (gsCons (gN 2) (gsCons (gN 3) gsNil))) (asgT (tiT 2 (gsCons (gS (vr 1) (vr 2)) (gsCons (gS (vr 1) (vr 3)) gsNil))) (aCons (vr 3) (aCons (vr 2) aNil))))
    (ret (vr 1))))
noncomputable def f_couples : Fn := fnD 4 d_couples
/-- _law_tap(cell, turn): 0 cell 1 turn 2 whole -/
noncomputable def d_law_tap : Sd :=
    (sq (asg 2 (bin fAdd (bin fMul (cst (.int 2)) (bcall fAbs (aCons (vr 0) aNil))) (bcall fInt (aCons (bin (fLt) (vr 0) (cst (.int 0))) aNil))))
    (ret (lstC (aCons (vr 2) (aCons (bin fAdd (bin fAdd (bin fMod (bcall fInt (aCons (vr 2) aNil)) (cst (.int 4294967291))) (bin fMul (cst (.int 977)) (vr 1))) (cst (.int 1))) (aCons (bin fAdd (bin fAdd (bin fMod (bcall fInt (aCons (vr 2) aNil)) (cst (.int 2147483587))) (bin fMul (cst (.int 31)) (vr 1))) (cst (.int 2))) aNil))))))
noncomputable def f_law_tap : Fn := fnD 3 d_law_tap
/-- _law_draw(tap, bound): 0 tap 1 bound 2 found -/
noncomputable def d_law_draw : Sd :=
    (sq (ifS (boo (bin (fGe) (bin fIx (vr 0) (cst (.int 0))) (bin fPow (cst (.int 10)) (cst (.int 18))))) (sq (asg 2 (bin fMod (bcall fInt (aCons (bin fIx (vr 0) (cst (.int 0))) aNil)) (vr 1)))
    (sq (asgG (gS (vr 0) (cst (.int 0))) (bin fDiv (bin fIx (vr 0) (cst (.int 0))) (vr 1)))
    (ret (vr 2)))) skip)
    (sq (asgG (gS (vr 0) (cst (.int 1))) (bin fMod (bcall fInt (aCons (bin fAdd (bin fMul (bin fIx (vr 0) (cst (.int 1))) (cst (.int 69069))) (cst (.int 40503))) aNil)) (cst (.int 4294967291))))
    (sq (asgG (gS (vr 0) (cst (.int 2))) (bin fMod (bcall fInt (aCons (bin fAdd (bin fMul (bin fIx (vr 0) (cst (.int 2))) (bin fIx (vr 0) (cst (.int 2)))) (bin fIx (vr 0) (cst (.int 1)))) aNil)) (cst (.int 2147483587))))
    (ret (bin fMod (bcall fInt (aCons (bin fAdd (bin fDiv (bin fIx (vr 0) (cst (.int 1))) (cst (.int 32))) (bin fDiv (bin fIx (vr 0) (cst (.int 2))) (cst (.int 16)))) aNil)) (vr 1))))))
noncomputable def f_law_draw : Fn := fnD 3 d_law_draw
/-- _law_cells(script, many): 0 script 1 many -/
noncomputable def d_law_cells : Sd :=
    (ret (slc mkL (bin fAdd (vr 0) (lstD (aCons (cst (.int 0)) aNil))) noP (part (bcall fMax2 (aCons (cst (.int 1)) (aCons (bcall fMin2 (aCons (vr 1) (aCons (bcall fLen (aCons (vr 0) aNil)) aNil))) aNil))))))
noncomputable def f_law_cells : Fn := fnD 2 d_law_cells
/-- _law_ends(pieces): 0 pieces 1 end -/
noncomputable def d_law_ends : Sd :=
    (ret (lcC (iRg2 (aCons (bin fSub (cst (.int 0)) (vr 0)) (aCons (bin fAdd (vr 0) (cst (.int 1))) aNil))) (tiW (gN 1)) (boo (bin (fEq true) (vr 1) (cst (.int 0)))) (vr 1) [1]))
noncomputable def f_law_ends : Fn := fnD 2 d_law_ends
/-- _law_pair(one, other): 0 one 1 other -/
noncomputable def d_law_pair : Sd :=
    (ret (tupD (aCons (bcall fMin2 (aCons (vr 0) (aCons (vr 1) aNil))) (aCons (bcall fMax2 (aCons (vr 0) (aCons (vr 1) aNil))) aNil))))
noncomputable def f_law_pair : Fn := fnD 2 d_law_pair
/-- _law_partners(layout): 0 layout 1 found 2 one 3 other -/
noncomputable def d_law_partners : Sd :=
    (sq (asg 1 dctC)
    (sq (forS (iSeq (vr 0)) (tiT 2 (gsCons (gN 2) (gsCons (gN 3) gsNil))) (sq (asgG (gS (vr 1) (vr 2)) (vr 3))
    (asgG (gS (vr 1) (vr 3)) (vr 2))))
    (ret (vr 1))))
noncomputable def f_law_partners : Fn := fnD 4 d_law_partners
/-- _law_is_end(pieces, value): 0 pieces 1 value -/
noncomputable def d_law_is_end : Sd :=
    (ret (vAnd (isiD "int" (vr 1)) (vAnd (vNot (isiD "bool" (vr 1))) (vAnd (bin (fEq true) (vr 1) (cst (.int 0))) (bin (fLe) (bcall fAbs (aCons (vr 1) aNil)) (vr 0))))))
noncomputable def f_law_is_end : Fn := fnD 2 d_law_is_end
/-- read_on(partners, first): 0 partners 1 first 2 found 3 number -/
noncomputable def d_read_on : Sd :=
    (sq (par 2 3 (aCons (lstC (aCons (vr 1) aNil)) (aCons (vr 1) aNil)))
    (sq (whileS (tAndD (boo (bin (fIn false) (vr 3) (vr 0))) (boo (bin (fEq true) (vNeg (bin fIx (vr 0) (vr 3))) (vr 1)))) (sq (asg 3 (vNeg (bin fIx (vr 0) (vr 3))))
    (drp (mth "list" fAppend (vr 2) (aCons (vr 3) aNil)))))
    (ret (vr 2))))
noncomputable def f_read_on : Fn := fnD 4 d_read_on
/-- _law_bad_pieces():  -/
noncomputable def d_law_bad_pieces : Sd :=
    (ret (lstD (aCons (cst .none) (aCons (cst (.bool true)) (aCons (cst (.bool false)) (aCons (cst (.int 0)) (aCons (vNeg (cst (.int 1))) (aCons (cst (.int 61)) (aCons (bin fPow (cst (.int 10)) (cst (.int 30))) (aCons (vNeg (bin fPow (cst (.int 10)) (cst (.int 30)))) (aCons (cst (.str "3")) (aCons (cst (.str "")) (aCons (lstD (aCons (cst (.int 3)) aNil)) (aCons (tupD (aCons (cst (.int 3)) aNil)) (aCons (lstD aNil) (aCons dctC aNil))))))))))))))))
noncomputable def f_law_bad_pieces : Fn := fnD 0 d_law_bad_pieces
/-- _law_after(layout, move): 0 layout 1 move 2 pair -/
noncomputable def d_law_after : Sd :=
    (ret (bcall fSorted (aCons (bin fAdd (lcD (iSeq (vr 0)) (tiW (gN 2)) (boo (bin (fIn true) (vr 2) (bin fIx (vr 1) (cst (.int 0))))) (vr 2) [2]) (bin fIx (vr 1) (cst (.int 1)))) aNil)))
noncomputable def f_law_after : Fn := fnD 3 d_law_after
/-- made(layout, move): 0 layout 1 move 2 cut 3 joined 4 item -/
noncomputable def d_made : Sd :=
    (sq (asgG (gT 2 (gsCons (gN 2) (gsCons (gN 3) gsNil))) (vr 1))
    (ret (bcall fSorted (aCons (bin fAdd (lcD (iSeq (vr 0)) (tiW (gN 4)) (boo (bin (fIn true) (vr 4) (vr 2))) (vr 4) [4]) (vr 3)) aNil))))
noncomputable def f_made : Fn := fnD 5 d_made
/-- walk(first, partners, others): 0 first 1 partners 2 others 3 found -/
noncomputable def d_walk : Sd :=
    (sq (asg 3 (lstC (aCons (vr 0) aNil)))
    (sq (whileS (tAndD (boo (bin (fIn false) (bin fIx (vr 3) (vNeg (cst (.int 1)))) (vr 1))) (boo (bin (fEq true) (bin fIx (vr 1) (bin fIx (vr 3) (vNeg (cst (.int 1))))) (vr 0)))) (sq (drp (mth "list" fAppend (vr 3) (aCons (bin fIx (vr 1) (bin fIx (vr 3) (vNeg (cst (.int 1))))) aNil)))
    (par 1 2 (aCons (vr 2) (aCons (vr 1) aNil)))))
    (ret (vr 3))))
noncomputable def f_walk : Fn := fnD 4 d_walk
/-- word_for(ends, held, others): 0 ends 1 held 2 others -/
noncomputable def d_word_for : Sd :=
    (sq (ifS (boo (bin (fEq false) (bin fMod (bcall fLen (aCons (vr 0) aNil)) (cst (.int 2))) (cst (.int 1)))) (ret (cst (.str "odd"))) skip)
    (ret (vIf (boo (bin (fIn false) (bin fIx (vr 0) (cst (.int 0))) (vr 1))) (cst (.str "one")) (cst (.str "other")))))
noncomputable def f_word_for : Fn := fnD 3 d_word_for
/-- cost_of(word, many): 0 word 1 many -/
noncomputable def d_cost_of : Sd :=
    (ret (bin fSub (bin fDiv (vr 1) (cst (.int 2))) (bcall fInt (aCons (bin (fEq false) (vr 0) (cst (.str "ring"))) aNil))))
noncomputable def f_cost_of : Fn := fnD 2 d_cost_of
/-- require_text(text): 0 text -/
noncomputable def d_require_text : Sd :=
    (ifS (tNotD (tru (isiD "str" (vr 0)))) nev skip)
noncomputable def f_require_text : Fn := fnD 1 d_require_text
/-- require_below(value, bound): 0 value 1 bound -/
noncomputable def d_require_below : Sd :=
    (ifS (boo (bin (fGe) (vr 0) (vr 1))) nev skip)
noncomputable def f_require_below : Fn := fnD 2 d_require_below
/-- product_of(numbers): 0 numbers 1 found 2 number -/
noncomputable def d_product_of : Sd :=
    (sq (asg 1 (cst (.int 1)))
    (sq (forS (iSeq (vr 0)) (tiW (gN 2)) (asg 1 (bin fMul (vr 1) (vr 2))))
    (ret (vr 1))))
noncomputable def f_product_of : Fn := fnD 3 d_product_of
/-- shuffles(one, other): 0 one 1 other 2 found 3 step -/
noncomputable def d_shuffles : Sd :=
    (sq (asg 2 (cst (.int 1)))
    (sq (forS (iRg2 (aCons (cst (.int 1)) (aCons (bin fAdd (vr 0) (cst (.int 1))) aNil))) (tiW (gN 3)) (asg 2 (bin fDiv (bin fMul (vr 2) (bin fAdd (vr 1) (vr 3))) (vr 3))))
    (ret (vr 2))))
noncomputable def f_shuffles : Fn := fnD 4 d_shuffles
/-- costs_of(components): 0 components 1 plain 2 ones 3 others 4 word 5 ends -/
noncomputable def d_costs_of : Sd :=
    (sq (asgT (tiT 3 (gsCons (gN 1) (gsCons (gN 2) (gsCons (gN 3) gsNil)))) (aCons (lstC aNil) (aCons (lstC aNil) (aCons (lstC aNil) aNil))))
    (sq (forS (iSeq (vr 0)) (tiT 2 (gsCons (gN 4) (gsCons (gN 5) gsNil))) (ifS (boo (bin (fEq false) (vr 4) (cst (.str "one")))) (drp (mth "list" fAppend (vr 2) (aCons (bin fDiv (bcall fLen (aCons (vr 5) aNil)) (cst (.int 2))) aNil))) (ifS (boo (bin (fEq false) (vr 4) (cst (.str "other")))) (drp (mth "list" fAppend (vr 3) (aCons (bin fDiv (bcall fLen (aCons (vr 5) aNil)) (cst (.int 2))) aNil))) (drp (mth "list" fAppend (vr 1) (aCons (bin fSub (bin fDiv (bcall fLen (aCons (vr 5) aNil)) (cst (.int 2))) (bcall fInt (aCons (bin (fEq false) (vr 4) (cst (.str "ring"))) aNil))) aNil))))))
    (ret (tupD (aCons (vr 1) (aCons (bcall fSorted (aCons (vr 2) aNil)) (aCons (bcall fSorted (aCons (vr 3) aNil)) aNil)))))))
noncomputable def f_costs_of : Fn := fnD 6 d_costs_of
/-- _law_well(script, k): 0 script 1 k 2 cell -/
noncomputable def d_law_well : Sd :=
    (sq (asg 2 (vIf (boo (bin (fLt) (vr 1) (bcall fLen (aCons (vr 0) aNil)))) (bin fIx (vr 0) (vr 1)) (cst (.int 0))))
    (ret (lstC (aCons (bcall fMax2 (aCons (cst (.int 0)) (aCons (bin fSub (vr 2) (bin fPow (cst (.int 10)) (cst (.int 18)))) aNil))) (aCons (bin fAdd (bin fAdd (bin fMod (bcall fInt (aCons (bcall fAbs (aCons (vr 2) aNil)) aNil)) (bin fAdd (bin fPow (cst (.int 10)) (cst (.int 31))) (cst (.int 33)))) (bin fMul (cst (.int 6700417)) (vr 1))) (cst (.int 257))) (aCons (cst (.int 0)) aNil))))))
noncomputable def f_law_well : Fn := fnD 3 d_law_well
/-- _law_pick(well, bound): 0 well 1 bound 2 found 3 stirred -/
noncomputable def d_law_pick : Sd :=
    (sq (ifS (boo (bin (fGt) (bin fIx (vr 0) (cst (.int 0))) (cst (.int 0)))) (sq (asg 2 (bin fMod (bcall fInt (aCons (bin fIx (vr 0) (cst (.int 0))) aNil)) (vr 1)))
    (sq (asgG (gS (vr 0) (cst (.int 0))) (bin fDiv (bin fIx (vr 0) (cst (.int 0))) (vr 1)))
    (ret (vr 2)))) skip)
    (sq (asgG (gS (vr 0) (cst (.int 2))) (bin fAdd (bin fIx (vr 0) (cst (.int 2))) (cst (.int 1))))
    (sq (asg 3 (bin fMod (bcall fInt (aCons (bin fPow (bin fAdd (bin fIx (vr 0) (cst (.int 1))) (bin fMul (cst (.int 524287)) (bin fIx (vr 0) (cst (.int 2))))) (cst (.int 5))) aNil)) (bin fAdd (bin fPow (cst (.int 10)) (cst (.int 33))) (cst (.int 61)))))
    (sq (asg 3 (bin fMod (bcall fInt (aCons (bin fPow (bin fAdd (vr 3) (bin fMul (cst (.int 2097143)) (bin fIx (vr 0) (cst (.int 2))))) (cst (.int 3))) aNil)) (bin fAdd (bin fPow (cst (.int 10)) (cst (.int 27))) (cst (.int 103)))))
    (ret (bin fMod (bcall fInt (aCons (bin fDiv (vr 3) (cst (.int 4093))) aNil)) (vr 1)))))))
noncomputable def f_law_pick : Fn := fnD 4 d_law_pick
/-- _law_ends(count): 0 count 1 end -/
noncomputable def d_law_ends2 : Sd :=
    (ret (lcD (iRg2 (aCons (bin fSub (cst (.int 0)) (vr 0)) (aCons (bin fAdd (vr 0) (cst (.int 1))) aNil))) (tiW (gN 1)) (boo (bin (fEq true) (vr 1) (cst (.int 0)))) (vr 1) [1]))
noncomputable def f_law_ends2 : Fn := fnD 2 d_law_ends2
/-- _wall(k): 0 k -/
noncomputable def d_wall : Sd :=
    (whileS (tru (cst (.bool true))) skip)
noncomputable def f_wall : Fn := fnD 1 d_wall
/-- sort_of(end, held, others, shut): 0 end 1 held 2 others 3 shut -/
noncomputable def d_sort_of : Sd :=
    (sq (ifS (tAndD (boo (bin (fIn true) (vr 0) (vr 2))) (boo (bin (fIn true) (vr 0) (vr 3)))) (ret (cst (.str "loose"))) skip)
    (ret (vIf (boo (bin (fIn true) (vr 0) (vr 1))) (cst (.str "plain")) (cst (.str "known")))))
noncomputable def f_sort_of : Fn := fnD 4 d_sort_of
/-- _law_purse(script, k): 0 script 1 k 2 cell -/
noncomputable def d_law_purse : Sd :=
    (sq (asg 2 (vIf (boo (bin (fLt) (vr 1) (bcall fLen (aCons (vr 0) aNil)))) (bin fIx (vr 0) (vr 1)) (cst (.int 0))))
    (ret (lstC (aCons (bcall fMax2 (aCons (cst (.int 0)) (aCons (bin fSub (vr 2) (bin fPow (cst (.int 10)) (cst (.int 18)))) aNil))) (aCons (bin fAdd (bin fAdd (bin fMod (bcall fInt (aCons (bcall fAbs (aCons (vr 2) aNil)) aNil)) (bin fAdd (bin fPow (cst (.int 10)) (cst (.int 41))) (cst (.int 37)))) (bin fMul (cst (.int 90001)) (vr 1))) (cst (.int 17))) (aCons (cst (.int 0)) aNil))))))
noncomputable def f_law_purse : Fn := fnD 3 d_law_purse
/-- _law_coin(purse, many): 0 purse 1 many 2 found 3 mixed -/
noncomputable def d_law_coin : Sd :=
    (sq (ifS (boo (bin (fGt) (bin fIx (vr 0) (cst (.int 0))) (cst (.int 0)))) (sq (asg 2 (bin fMod (bcall fInt (aCons (bin fIx (vr 0) (cst (.int 0))) aNil)) (vr 1)))
    (sq (asgG (gS (vr 0) (cst (.int 0))) (bin fDiv (bin fIx (vr 0) (cst (.int 0))) (vr 1)))
    (ret (vr 2)))) skip)
    (sq (asgG (gS (vr 0) (cst (.int 2))) (bin fAdd (bin fIx (vr 0) (cst (.int 2))) (cst (.int 1))))
    (sq (asg 3 (bin fMod (bcall fInt (aCons (bin fPow (bin fAdd (bin fIx (vr 0) (cst (.int 1))) (bin fMul (cst (.int 15485863)) (bin fIx (vr 0) (cst (.int 2))))) (cst (.int 3))) aNil)) (bin fAdd (bin fPow (cst (.int 10)) (cst (.int 43))) (cst (.int 29)))))
    (sq (asg 3 (bin fMod (bcall fInt (aCons (bin fPow (bin fAdd (vr 3) (bin fMul (cst (.int 49979687)) (bin fIx (vr 0) (cst (.int 2))))) (cst (.int 3))) aNil)) (bin fAdd (bin fPow (cst (.int 10)) (cst (.int 45))) (cst (.int 9)))))
    (ret (bin fMod (bcall fInt (aCons (bin fDiv (vr 3) (cst (.int 524287))) aNil)) (vr 1)))))))
noncomputable def f_law_coin : Fn := fnD 4 d_law_coin
/-- _law_piece(pieces, word): 0 pieces 1 word 2 figures 3 sign -/
noncomputable def d_law_piece : Sd :=
    (sq (asg 2 (vIf (boo (bin (fEq false) (slc mkL (vr 1) noP (part (cst (.int 1)))) (cst (.str "-")))) (slc mkL (vr 1) (part (cst (.int 1))) noP) (vr 1)))
    (sq (ifS (tOrD (boo (bin (fEq false) (vr 2) (cst (.str "")))) (tOrD (boo (bin (fGt) (bcall fLen (aCons (vr 2) aNil)) (cst (.int 2)))) (boo (bin (fEq true) (lcD (iSeq (vr 2)) (tiW (gN 3)) (boo (bin (fIn true) (vr 3) (cst (.str "0123456789")))) (vr 3) [3]) (lstD aNil))))) (ret (cst (.int 0))) skip)
    (sq (ifS (tOrD (boo (bin (fEq false) (bin fIx (vr 2) (cst (.int 0))) (cst (.str "0")))) (boo (bin (fGt) (bcall fInt (aCons (vr 2) aNil)) (vr 0)))) (ret (cst (.int 0))) skip)
    (ret (vIf (boo (bin (fEq false) (slc mkL (vr 1) noP (part (cst (.int 1)))) (cst (.str "-")))) (bin fSub (cst (.int 0)) (bcall fInt (aCons (vr 2) aNil))) (bcall fInt (aCons (vr 2) aNil)))))))
noncomputable def f_law_piece : Fn := fnD 4 d_law_piece
/-- _law_purse(script, k): 0 script 1 k 2 cell -/
noncomputable def d_law_purse2 : Sd :=
    (sq (asg 2 (vIf (boo (bin (fLt) (vr 1) (bcall fLen (aCons (vr 0) aNil)))) (bin fIx (vr 0) (vr 1)) (cst (.int 0))))
    (ret (lstD (aCons (bcall fMax2 (aCons (cst (.int 0)) (aCons (bin fSub (vr 2) (bin fPow (cst (.int 10)) (cst (.int 18)))) aNil))) (aCons (bin fAdd (bin fAdd (bin fMod (bcall fInt (aCons (bcall fAbs (aCons (vr 2) aNil)) aNil)) (bin fAdd (bin fPow (cst (.int 10)) (cst (.int 41))) (cst (.int 37)))) (bin fMul (cst (.int 90001)) (vr 1))) (cst (.int 17))) (aCons (cst (.int 0)) aNil))))))
noncomputable def f_law_purse2 : Fn := fnD 3 d_law_purse2
/-- is_end(pieces, value): 0 pieces 1 value -/
noncomputable def d_is_end : Sd :=
    (ret (vAnd (cal f_is_integer (aCons (vr 1) aNil)) (vAnd (bin (fEq true) (vr 1) (cst (.int 0))) (chn (fLe) (fLe) (vNeg (vr 0)) (vr 1) (vr 0)))))
noncomputable def f_is_end : Fn := fnD 2 d_is_end
/-- require_pieces(pieces): 0 pieces -/
noncomputable def d_require_pieces : Sd :=
    (ifS (tOrD (tNotD (tru (cal f_is_integer (aCons (vr 0) aNil)))) (tNotD (boo (chn (fLe) (fLe) (cst (.int 1)) (vr 0) (cst (.int 60)))))) nev skip)
noncomputable def f_require_pieces : Fn := fnD 1 d_require_pieces
/-- _law_layout(tap, pieces): 0 tap 1 pieces 2 left 3 found 4 part 5 one 6 other -/
noncomputable def d_law_layout : Sd :=
    (sq (par 2 3 (aCons (calC f_law_ends (aCons (vr 1) aNil)) (aCons (lstC aNil) aNil)))
    (sq (asg 4 (bin fIx (lstD (aCons (cst (.int 0)) (aCons (cst (.int 2)) (aCons (cst (.int 6)) (aCons (cst (.int 7)) (aCons (cst (.int 8)) aNil)))))) (cal f_law_draw (aCons (vr 0) (aCons (cst (.int 5)) aNil)))))
    (sq (whileS (boo (bin (fGt) (bcall fLen (aCons (vr 2) aNil)) (cst (.int 1)))) (sq (asg 5 (mth "list" fPopAt (vr 2) (aCons (cal f_law_draw (aCons (vr 0) (aCons (bcall fLen (aCons (vr 2) aNil)) aNil))) aNil)))
    (sq (asg 6 (mth "list" fPopAt (vr 2) (aCons (cal f_law_draw (aCons (vr 0) (aCons (bcall fLen (aCons (vr 2) aNil)) aNil))) aNil)))
    (ifS (boo (bin (fLt) (cal f_law_draw (aCons (vr 0) (aCons (cst (.int 8)) aNil))) (vr 4))) (drp (mth "list" fAppend (vr 3) (aCons (cal f_law_pair (aCons (vr 5) (aCons (vr 6) aNil))) aNil))) skip))))
    (ret (bcall fSorted (aCons (vr 3) aNil))))))
noncomputable def f_law_layout : Fn := fnD 7 d_law_layout
/-- _law_is_coupling(pieces, value): 0 pieces 1 value -/
noncomputable def d_law_is_coupling : Sd :=
    (sq (ifS (tOrD (tNotD (tru (isiD "tuple" (vr 1)))) (boo (bin (fEq true) (bcall fLen (aCons (vr 1) aNil)) (cst (.int 2))))) (ret (cst (.bool false))) skip)
    (ret (vAnd (cal f_law_is_end (aCons (vr 0) (aCons (bin fIx (vr 1) (cst (.int 0))) aNil))) (vAnd (cal f_law_is_end (aCons (vr 0) (aCons (bin fIx (vr 1) (cst (.int 1))) aNil))) (bin (fLt) (bin fIx (vr 1) (cst (.int 0))) (bin fIx (vr 1) (cst (.int 1))))))))
noncomputable def f_law_is_coupling : Fn := fnD 2 d_law_is_coupling
/-- _law_free(pieces, layout): 0 pieces 1 layout 2 known 3 end -/
noncomputable def d_law_free : Sd :=
    (sq (asg 2 (calC f_law_partners (aCons (vr 1) aNil)))
    (ret (lcC (iSeq (cal f_law_ends (aCons (vr 0) aNil))) (tiW (gN 3)) (boo (bin (fIn true) (vr 3) (vr 2))) (vr 3) [3])))
noncomputable def f_law_free : Fn := fnD 4 d_law_free
/-- joinings(one, other): 0 one 1 other 2 first 3 second 4 third 5 fourth -/
noncomputable def d_joinings : Sd :=
    (sq (asgG (gT 2 (gsCons (gN 2) (gsCons (gN 3) gsNil))) (vr 0))
    (sq (asgG (gT 2 (gsCons (gN 4) (gsCons (gN 5) gsNil))) (vr 1))
    (ret (lstD (aCons (bcall fSorted (aCons (lstD (aCons (cal f_law_pair (aCons (vr 2) (aCons (vr 4) aNil))) (aCons (cal f_law_pair (aCons (vr 3) (aCons (vr 5) aNil))) aNil))) aNil)) (aCons (bcall fSorted (aCons (lstD (aCons (cal f_law_pair (aCons (vr 2) (aCons (vr 5) aNil))) (aCons (cal f_law_pair (aCons (vr 3) (aCons (vr 4) aNil))) aNil))) aNil)) aNil))))))
noncomputable def f_joinings : Fn := fnD 6 d_joinings
/-- require_number(value): 0 value -/
noncomputable def d_require_number : Sd :=
    (ifS (tOrD (tNotD (tru (cal f_is_integer (aCons (vr 0) aNil)))) (boo (bin (fLt) (vr 0) (cst (.int 0))))) nev skip)
noncomputable def f_require_number : Fn := fnD 1 d_require_number
/-- alone(cost): 0 cost -/
noncomputable def d_alone : Sd :=
    (ret (cal f_product_of (aCons (bin fRep (lstD (aCons (bin fAdd (vr 0) (cst (.int 1))) aNil)) (bin fSub (vr 0) (cst (.int 1)))) aNil)))
noncomputable def f_alone : Fn := fnD 1 d_alone
/-- _law_mixed(well, things): 0 well 1 things 2 left 3 found -/
noncomputable def d_law_mixed : Sd :=
    (sq (par 2 3 (aCons (bcall fListC (aCons (vr 1) aNil)) (aCons (lstC aNil) aNil)))
    (sq (whileS (boo (bin (fEq true) (vr 2) (lstD aNil))) (drp (mth "list" fAppend (vr 3) (aCons (mth "list" fPopAt (vr 2) (aCons (cal f_law_pick (aCons (vr 0) (aCons (bcall fLen (aCons (vr 2) aNil)) aNil))) aNil)) aNil))))
    (ret (vr 3))))
noncomputable def f_law_mixed : Fn := fnD 4 d_law_mixed
/-- groups(many): 0 many 1 count -/
noncomputable def d_groups : Sd :=
    (ret (lcD (iRg2 (aCons (cst (.int 1)) (aCons (bin fAdd (vr 0) (cst (.int 1))) aNil))) (tiW (gN 1)) tYesD (bin fDiv (bin fMul (cal f_shuffles (aCons (vr 1) (aCons (bin fSub (vr 0) (vr 1)) aNil))) (cal f_shuffles (aCons (bin fSub (vr 1) (cst (.int 1))) (aCons (bin fAdd (bin fSub (vr 0) (vr 1)) (cst (.int 1))) aNil)))) (vr 0)) [1]))
noncomputable def f_groups : Fn := fnD 2 d_groups
/-- _law_layout(purse, many): 0 purse 1 many 2 left 3 found 4 chance 5 first 6 second -/
noncomputable def d_law_layout2 : Sd :=
    (sq (par 2 3 (aCons (calC f_law_ends (aCons (vr 1) aNil)) (aCons (lstC aNil) aNil)))
    (sq (asg 4 (bin fIx (lstD (aCons (cst (.int 1)) (aCons (cst (.int 2)) (aCons (cst (.int 3)) (aCons (cst (.int 9)) aNil))))) (cal f_law_coin (aCons (vr 0) (aCons (cst (.int 4)) aNil)))))
    (sq (whileS (boo (bin (fEq true) (vr 2) (lstD aNil))) (sq (asg 5 (mth "list" fPopAt (vr 2) (aCons (cal f_law_coin (aCons (vr 0) (aCons (bcall fLen (aCons (vr 2) aNil)) aNil))) aNil)))
    (ifS (tAndD (boo (bin (fEq true) (vr 2) (lstD aNil))) (boo (bin (fGt) (cal f_law_coin (aCons (vr 0) (aCons (vr 4) aNil))) (cst (.int 0))))) (sq (asg 6 (mth "list" fPopAt (vr 2) (aCons (cal f_law_coin (aCons (vr 0) (aCons (bcall fLen (aCons (vr 2) aNil)) aNil))) aNil)))
    (drp (mth "list" fAppend (vr 3) (aCons (tupD (aCons (bcall fMin2 (aCons (vr 5) (aCons (vr 6) aNil))) (aCons (bcall fMax2 (aCons (vr 5) (aCons (vr 6) aNil))) aNil))) aNil)))) skip)))
    (ret (bcall fSorted (aCons (vr 3) aNil))))))
noncomputable def f_law_layout2 : Fn := fnD 7 d_law_layout2
/-- _law_bad_layout(purse, many, layout_here): 0 purse 1 many 2 layout_here 3 at 4 items -/
noncomputable def d_law_bad_layout : Sd :=
    (sq (ifS (boo (bin (fEq false) (cal f_law_coin (aCons (vr 0) (aCons (cst (.int 3)) aNil))) (cst (.int 0)))) (ret (tupD (aCons (bin fIx (lstD (aCons (cst .none) (aCons (cst (.int 0)) (aCons (cst (.str "")) (aCons (tupD aNil) (aCons dctC (aCons (bcall fTuple (aCons (vr 2) aNil)) aNil))))))) (cal f_law_coin (aCons (vr 0) (aCons (cst (.int 6)) aNil)))) (aCons (cst .none) aNil)))) skip)
    (sq (asg 3 (cal f_law_coin (aCons (vr 0) (aCons (bin fAdd (bcall fLen (aCons (vr 2) aNil)) (cst (.int 1))) aNil))))
    (sq (asg 4 (lstD (aCons (cst .none) (aCons (cst (.int 0)) (aCons (tupD (aCons (cst (.int 1)) aNil)) (aCons (tupD (aCons (cst (.int 1)) (aCons (cst (.int 2)) (aCons (cst (.int 3)) aNil)))) (aCons (lstD (aCons (cst (.int 1)) (aCons (cst (.int 2)) aNil))) (aCons (tupD (aCons (cst (.int 1)) (aCons (cst (.int 1)) aNil))) (aCons (tupD (aCons (cst (.int 0)) (aCons (cst (.int 1)) aNil))) (aCons (tupD (aCons (cst (.int 1)) (aCons (bin fAdd (vr 1) (cst (.int 1))) aNil))) (aCons (tupD (aCons (bin fSub (bin fSub (cst (.int 0)) (vr 1)) (cst (.int 1))) (aCons (cst (.int 1)) aNil))) (aCons (tupD (aCons (cst (.bool true)) (aCons (cst (.int 2)) aNil))) (aCons (tupD (aCons (cst (.str "1")) (aCons (cst (.int 2)) aNil))) aNil)))))))))))))
    (sq (asg 4 (bin fAdd (vr 4) (lstD (aCons (tupD (aCons (cst (.int 1)) (aCons (cst .none) aNil))) (aCons (tupD (aCons (cst (.int 1)) (aCons (bin fPow (cst (.int 10)) (cst (.int 29))) aNil))) (aCons dctC aNil))))))
    (ret (tupD (aCons (bin fAdd (bin fAdd (slc mkL (vr 2) noP (part (vr 3))) (lstD (aCons (bin fIx (vr 4) (cal f_law_coin (aCons (vr 0) (aCons (bcall fLen (aCons (vr 4) aNil)) aNil)))) aNil))) (slc mkL (vr 2) (part (vr 3)) noP)) (aCons (vr 3) aNil))))))))
noncomputable def f_law_bad_layout : Fn := fnD 5 d_law_bad_layout
/-- _law_chains(many, layout_here): 0 many 1 layout_here 2 table 3 rows 4 rings_here 5 seen 6 starts 7 one 8 at 9 first 10 here 11 number 12 is_open -/
noncomputable def d_law_chains : Sd :=
    (sq (asgT (tiT 4 (gsCons (gN 2) (gsCons (gN 3) (gsCons (gN 4) (gsCons (gN 5) gsNil))))) (aCons (calC f_law_partners (aCons (vr 1) aNil)) (aCons (lstC aNil) (aCons (lstC aNil) (aCons dctC aNil)))))
    (sq (asg 6 (bin fAdd (lcD (iSeq (cal f_law_ends (aCons (vr 0) aNil))) (tiW (gN 7)) (boo (bin (fIn true) (vr 7) (vr 2))) (vr 7) [7]) (cal f_law_ends (aCons (vr 0) aNil))))
    (sq (forS (iEnu (vr 6)) (tiT 2 (gsCons (gN 8) (gsCons (gN 9) gsNil))) (ifS (boo (bin (fIn true) (bcall fAbs (aCons (vr 9) aNil)) (vr 5))) (sq (asgT (tiT 3 (gsCons (gN 10) (gsCons (gN 11) (gsCons (gN 12) gsNil)))) (aCons (lstC aNil) (aCons (bin fSub (cst (.int 0)) (vr 9)) (aCons (bin (fIn true) (vr 9) (vr 2)) aNil))))
    (sq (whileS (boo (bin (fIn true) (bcall fAbs (aCons (vr 11) aNil)) (vr 5))) (sq (asgG (gS (vr 5) (bcall fAbs (aCons (vr 11) aNil))) (cst (.bool true)))
    (sq (drp (mth "list" fAppend (vr 10) (aCons (bcall fAbs (aCons (vr 11) aNil)) aNil)))
    (asg 11 (bin fSub (cst (.int 0)) (get2 (vr 2) (vr 11) (bin fSub (cst (.int 0)) (vr 11))))))))
    (ifS (tru (vr 12)) (drp (mth "list" fAppend (vr 3) (aCons (bcall fSorted (aCons (vr 10) aNil)) aNil))) (drp (mth "list" fAppend (vr 4) (aCons (bcall fSorted (aCons (vr 10) aNil)) aNil)))))) skip))
    (ret (tupD (aCons (bcall fSorted (aCons (vr 3) aNil)) (aCons (bcall fSorted (aCons (vr 4) aNil)) aNil)))))))
noncomputable def f_law_chains : Fn := fnD 13 d_law_chains
/-- _law_distance(many, one, other): 0 many 1 one 2 other 3 held 4 others 5 seen 6 rings_here 7 odds 8 first 9 here 10 at 11 is_ring 12 table 13 goal_here -/
noncomputable def d_law_distance : Sd :=
    (sq (par 3 4 (aCons (calC f_law_partners (aCons (vr 1) aNil)) (aCons (calC f_law_partners (aCons (vr 2) aNil)) aNil)))
    (sq (asgT (tiT 3 (gsCons (gN 5) (gsCons (gN 6) (gsCons (gN 7) gsNil)))) (aCons dctC (aCons (cst (.int 0)) (aCons (cst (.int 0)) aNil))))
    (sq (forS (iSeq (cal f_law_ends (aCons (vr 0) aNil))) (tiW (gN 8)) (ifS (boo (bin (fIn true) (vr 8) (vr 5))) (sq (asgT (tiT 3 (gsCons (gN 9) (gsCons (gN 10) (gsCons (gN 11) gsNil)))) (aCons (lstC (aCons (vr 8) aNil)) (aCons (cst (.int 0)) (aCons (cst (.bool true)) aNil))))
    (sq (asgG (gS (vr 5) (vr 8)) (cst (.bool true)))
    (sq (whileS (boo (bin (fLt) (vr 10) (bcall fLen (aCons (vr 9) aNil)))) (sq (forS (iSeq (lstD (aCons (vr 3) (aCons (vr 4) aNil)))) (tiW (gN 12)) (sq (asg 13 (get2 (vr 12) (bin fIx (vr 9) (vr 10)) (cst (.int 0))))
    (sq (asg 11 (vAnd (vr 11) (bin (fEq true) (vr 13) (cst (.int 0)))))
    (ifS (tAndD (boo (bin (fEq true) (vr 13) (cst (.int 0)))) (boo (bin (fIn true) (vr 13) (vr 5)))) (sq (asgG (gS (vr 5) (vr 13)) (cst (.bool true)))
    (drp (mth "list" fAppend (vr 9) (aCons (vr 13) aNil)))) skip))))
    (asg 10 (bin fAdd (vr 10) (cst (.int 1))))))
    (sq (asg 6 (bin fAdd (vr 6) (bcall fInt (aCons (vr 11) aNil))))
    (asg 7 (bin fAdd (vr 7) (bin fMod (bcall fInt (aCons (bcall fLen (aCons (vr 9) aNil)) aNil)) (cst (.int 2))))))))) skip))
    (ret (bin fSub (bin fSub (vr 0) (vr 6)) (bin fDiv (vr 7) (cst (.int 2))))))))
noncomputable def f_law_distance : Fn := fnD 14 d_law_distance
/-- is_coupling(pieces, value): 0 pieces 1 value -/
noncomputable def d_is_coupling : Sd :=
    (sq (ifS (tOrD (tNotD (tru (isiD "tuple" (vr 1)))) (boo (bin (fEq true) (bcall fLen (aCons (vr 1) aNil)) (cst (.int 2))))) (ret (cst (.bool false))) skip)
    (ret (vAnd (cal f_is_end (aCons (vr 0) (aCons (bin fIx (vr 1) (cst (.int 0))) aNil))) (vAnd (cal f_is_end (aCons (vr 0) (aCons (bin fIx (vr 1) (cst (.int 1))) aNil))) (bin (fLt) (bin fIx (vr 1) (cst (.int 0))) (bin fIx (vr 1) (cst (.int 1))))))))
noncomputable def f_is_coupling : Fn := fnD 2 d_is_coupling
/-- _law_fault(pieces, value): 0 pieces 1 value 2 used 3 index 4 item -/
noncomputable def d_law_fault : Sd :=
    (sq (ifS (tNotD (tru (isiD "list" (vr 1)))) (ret (lstD (aCons (cst .none) aNil))) skip)
    (sq (asg 2 (lstD aNil))
    (sq (forS (iRg1 (aCons (bcall fLen (aCons (vr 1) aNil)) aNil)) (tiW (gN 3)) (sq (asg 4 (bin fIx (vr 1) (vr 3)))
    (sq (ifS (tOrD (tNotD (tru (cal f_law_is_coupling (aCons (vr 0) (aCons (vr 4) aNil))))) (tOrD (boo (bin (fIn false) (bin fIx (vr 4) (cst (.int 0))) (vr 2))) (boo (bin (fIn false) (bin fIx (vr 4) (cst (.int 1))) (vr 2))))) (ret (lstD (aCons (vr 3) aNil))) skip)
    (sq (ifS (tAndD (boo (bin (fGt) (vr 3) (cst (.int 0)))) (boo (bin (fLe) (vr 4) (bin fIx (vr 1) (bin fSub (vr 3) (cst (.int 1))))))) (ret (lstD (aCons (vr 3) aNil))) skip)
    (asg 2 (bin fAdd (vr 2) (lstD (aCons (bin fIx (vr 4) (cst (.int 0))) (aCons (bin fIx (vr 4) (cst (.int 1))) aNil)))))))))
    (ret (lstD aNil)))))
noncomputable def f_law_fault : Fn := fnD 5 d_law_fault
/-- require_end(pieces, end): 0 pieces 1 end -/
noncomputable def d_require_end : Sd :=
    (ifS (tNotD (tru (cal f_is_end (aCons (vr 0) (aCons (vr 1) aNil))))) nev skip)
noncomputable def f_require_end : Fn := fnD 2 d_require_end
/-- count_layouts(pieces): 0 pieces 1 less 2 more 3 ends -/
noncomputable def d_count_layouts : Sd :=
    (sq (drp (cal f_require_pieces (aCons (vr 0) aNil)))
    (sq (asgT (tiT 2 (gsCons (gN 1) (gsCons (gN 2) gsNil))) (aCons (cst (.int 1)) (aCons (cst (.int 1)) aNil)))
    (sq (forS (iRg2 (aCons (cst (.int 2)) (aCons (bin fAdd (bin fMul (cst (.int 2)) (vr 0)) (cst (.int 1))) aNil))) (tiW (gN 3)) (par 1 2 (aCons (vr 2) (aCons (bin fAdd (vr 2) (bin fMul (bin fSub (vr 3) (cst (.int 1))) (vr 1))) aNil))))
    (ret (vr 2)))))
noncomputable def f_count_layouts : Fn := fnD 4 d_count_layouts
/-- readings_fault(pieces, value, seen): 0 pieces 1 value 2 seen 3 index 4 reading 5 number -/
noncomputable def d_readings_fault : Sd :=
    (sq (ifS (tNotD (tru (isiD "list" (vr 1)))) (ret (tupD (aCons (cst .none) aNil))) skip)
    (sq (forS (iEnu (vr 1)) (tiT 2 (gsCons (gN 3) (gsCons (gN 4) gsNil))) (sq (ifS (tOrD (tNotD (tru (isiD "list" (vr 4)))) (boo (bin (fEq false) (vr 4) (lstD aNil)))) (ret (tupD (aCons (vr 3) aNil))) skip)
    (forS (iSeq (vr 4)) (tiW (gN 5)) (sq (ifS (tOrD (tNotD (tru (cal f_is_end (aCons (vr 0) (aCons (vr 5) aNil))))) (boo (bin (fIn false) (bcall fAbs (aCons (vr 5) aNil)) (vr 2)))) (ret (tupD (aCons (vr 3) aNil))) skip)
    (asgG (gS (vr 2) (bcall fAbs (aCons (vr 5) aNil))) (cst (.bool true)))))))
    (ret (tupD aNil))))
noncomputable def f_readings_fault : Fn := fnD 6 d_readings_fault
/-- _law_any_move(tap, pieces, layout): 0 tap 1 pieces 2 layout 3 free 4 forms 5 form 6 one 7 pair 8 others 9 other 10 at 11 made_here -/
noncomputable def d_law_any_move : Sd :=
    (sq (par 3 4 (aCons (calC f_law_free (aCons (vr 1) (aCons (vr 2) aNil))) (aCons (lstC aNil) aNil)))
    (sq (ifS (boo (bin (fGt) (bcall fLen (aCons (vr 2) aNil)) (cst (.int 1)))) (drp (mth "list" fAppend (vr 4) (aCons (cst (.int 0)) aNil))) skip)
    (sq (ifS (tAndD (boo (bin (fEq true) (vr 2) (lstD aNil))) (boo (bin (fEq true) (vr 3) (lstD aNil)))) (drp (mth "list" fAppend (vr 4) (aCons (cst (.int 1)) aNil))) skip)
    (sq (ifS (boo (bin (fEq true) (vr 2) (lstD aNil))) (drp (mth "list" fAppend (vr 4) (aCons (cst (.int 2)) aNil))) skip)
    (sq (ifS (boo (bin (fGt) (bcall fLen (aCons (vr 3) aNil)) (cst (.int 1)))) (drp (mth "list" fAppend (vr 4) (aCons (cst (.int 3)) aNil))) skip)
    (sq (asg 5 (bin fIx (vr 4) (cal f_law_draw (aCons (vr 0) (aCons (bcall fLen (aCons (vr 4) aNil)) aNil)))))
    (sq (ifS (boo (bin (fEq false) (vr 5) (cst (.int 3)))) (sq (asg 6 (mth "list" fPopAt (vr 3) (aCons (cal f_law_draw (aCons (vr 0) (aCons (bcall fLen (aCons (vr 3) aNil)) aNil))) aNil)))
    (ret (tupD (aCons (lstD aNil) (aCons (lstD (aCons (cal f_law_pair (aCons (vr 6) (aCons (bin fIx (vr 3) (cal f_law_draw (aCons (vr 0) (aCons (bcall fLen (aCons (vr 3) aNil)) aNil)))) aNil))) aNil)) aNil))))) skip)
    (sq (asg 7 (bin fIx (vr 2) (cal f_law_draw (aCons (vr 0) (aCons (bcall fLen (aCons (vr 2) aNil)) aNil)))))
    (sq (ifS (boo (bin (fEq false) (vr 5) (cst (.int 2)))) (ret (tupD (aCons (lstD (aCons (vr 7) aNil)) (aCons (lstD aNil) aNil)))) skip)
    (sq (ifS (boo (bin (fEq false) (vr 5) (cst (.int 1)))) (ret (tupD (aCons (lstD (aCons (vr 7) aNil)) (aCons (lstD (aCons (cal f_law_pair (aCons (bin fIx (vr 7) (cal f_law_draw (aCons (vr 0) (aCons (cst (.int 2)) aNil)))) (aCons (bin fIx (vr 3) (cal f_law_draw (aCons (vr 0) (aCons (bcall fLen (aCons (vr 3) aNil)) aNil)))) aNil))) aNil)) aNil)))) skip)
    (sq (asg 8 (lcD (iSeq (vr 2)) (tiW (gN 9)) (boo (bin (fEq true) (vr 9) (vr 7))) (vr 9) [9]))
    (sq (asg 9 (bin fIx (vr 8) (cal f_law_draw (aCons (vr 0) (aCons (bcall fLen (aCons (vr 8) aNil)) aNil)))))
    (sq (asg 10 (cal f_law_draw (aCons (vr 0) (aCons (cst (.int 2)) aNil))))
    (sq (asg 11 (bcall fSorted (aCons (lstD (aCons (cal f_law_pair (aCons (bin fIx (vr 7) (cst (.int 0))) (aCons (bin fIx (vr 9) (vr 10)) aNil))) (aCons (cal f_law_pair (aCons (bin fIx (vr 7) (cst (.int 1))) (aCons (bin fIx (vr 9) (bin fSub (cst (.int 1)) (vr 10))) aNil))) aNil))) aNil)))
    (ret (tupD (aCons (bcall fSorted (aCons (lstD (aCons (vr 7) (aCons (vr 9) aNil))) aNil)) (aCons (vr 11) aNil))))))))))))))))))
noncomputable def f_law_any_move : Fn := fnD 12 d_law_any_move
/-- _law_are_couplings(pieces, value): 0 pieces 1 value 2 item -/
noncomputable def d_law_are_couplings : Sd :=
    (sq (ifS (tOrD (tNotD (tru (isiD "list" (vr 1)))) (boo (bin (fGt) (bcall fLen (aCons (vr 1) aNil)) (cst (.int 2))))) (ret (cst (.bool false))) skip)
    (sq (ifS (boo (bin (fEq true) (lcD (iSeq (vr 1)) (tiW (gN 2)) (tNotD (tru (cal f_law_is_coupling (aCons (vr 0) (aCons (vr 2) aNil))))) (vr 2) [2]) (lstD aNil))) (ret (cst (.bool false))) skip)
    (ret (vOr (bin (fLt) (bcall fLen (aCons (vr 1) aNil)) (cst (.int 2))) (bin (fLt) (bin fIx (vr 1) (cst (.int 0))) (bin fIx (vr 1) (cst (.int 1))))))))
noncomputable def f_law_are_couplings : Fn := fnD 3 d_law_are_couplings
/-- _law_layout(well, count): 0 well 1 count 2 ends 3 many 4 k -/
noncomputable def d_law_layout22 : Sd :=
    (sq (asgT (tiT 2 (gsCons (gN 2) (gsCons (gN 3) gsNil))) (aCons (cal f_law_mixed (aCons (vr 0) (aCons (cal f_law_ends2 (aCons (vr 1) aNil)) aNil))) (aCons (bin fIx (lstD (aCons (vr 1) (aCons (cal f_law_pick (aCons (vr 0) (aCons (bin fAdd (vr 1) (cst (.int 1))) aNil))) aNil))) (cal f_law_pick (aCons (vr 0) (aCons (cst (.int 2)) aNil)))) aNil)))
    (ret (bcall fSorted (aCons (lcD (iRg1 (aCons (vr 3) aNil)) (tiW (gN 4)) tYesD (cal f_law_pair (aCons (bin fIx (vr 2) (bin fMul (cst (.int 2)) (vr 4))) (aCons (bin fIx (vr 2) (bin fAdd (bin fMul (cst (.int 2)) (vr 4)) (cst (.int 1)))) aNil))) [4]) aNil))))
noncomputable def f_law_layout22 : Fn := fnD 5 d_law_layout22
/-- require_opens(pieces, known, opens): 0 pieces 1 known 2 opens 3 held 4 index 5 end -/
noncomputable def d_require_opens : Sd :=
    (sq (ifS (tNotD (tru (isiD "list" (vr 2)))) nev skip)
    (sq (asg 3 (calC f_couples (aCons (vr 1) aNil)))
    (forS (iEnu (vr 2)) (tiT 2 (gsCons (gN 4) (gsCons (gN 5) gsNil))) (ifS (tOrD (tNotD (tru (cal f_is_end (aCons (vr 0) (aCons (vr 5) aNil))))) (tOrD (boo (bin (fIn false) (vr 5) (vr 3))) (tAndD (boo (bin (fGt) (vr 4) (cst (.int 0)))) (boo (bin (fLe) (vr 5) (bin fIx (vr 2) (bin fSub (vr 4) (cst (.int 1))))))))) nev skip))))
noncomputable def f_require_opens : Fn := fnD 6 d_require_opens
/-- _law_sight(purse, many): 0 purse 1 many 2 found 3 chance 4 known_here 5 used 6 opens_here 7 one 8 first 9 second -/
noncomputable def d_law_sight : Sd :=
    (sq (asgT (tiT 2 (gsCons (gN 2) (gsCons (gN 3) gsNil))) (aCons (cal f_law_layout2 (aCons (vr 0) (aCons (vr 1) aNil))) (aCons (bin fAdd (cst (.int 1)) (cal f_law_coin (aCons (vr 0) (aCons (cst (.int 4)) aNil)))) aNil)))
    (sq (asgT (tiT 3 (gsCons (gN 4) (gsCons (gN 5) (gsCons (gN 6) gsNil)))) (aCons (lcD (iSeq (vr 2)) (tiW (gN 7)) (boo (bin (fEq false) (cal f_law_coin (aCons (vr 0) (aCons (vr 3) aNil))) (cst (.int 0)))) (vr 7) [7]) (aCons (lstD aNil) (aCons (lstC aNil) aNil))))
    (sq (forS (iSeq (vr 4)) (tiT 2 (gsCons (gN 8) (gsCons (gN 9) gsNil))) (asg 5 (bin fAdd (vr 5) (lstD (aCons (vr 8) (aCons (vr 9) aNil))))))
    (sq (forS (iSeq (cal f_law_ends (aCons (vr 1) aNil))) (tiW (gN 7)) (ifS (tAndD (boo (bin (fIn true) (vr 7) (vr 5))) (boo (bin (fEq false) (cal f_law_coin (aCons (vr 0) (aCons (cst (.int 4)) aNil))) (cst (.int 0))))) (drp (mth "list" fAppend (vr 6) (aCons (vr 7) aNil))) skip))
    (ret (tupD (aCons (vr 4) (aCons (vr 6) aNil))))))))
noncomputable def f_law_sight : Fn := fnD 10 d_law_sight
/-- _law_kind(many, layout_here, move_here): 0 many 1 layout_here 2 move_here 3 rows 4 rings_here 5 others 6 more -/
noncomputable def d_law_kind : Sd :=
    (sq (asgG (gT 2 (gsCons (gN 3) (gsCons (gN 4) gsNil))) (cal f_law_chains (aCons (vr 0) (aCons (vr 1) aNil))))
    (sq (asgG (gT 2 (gsCons (gN 5) (gsCons (gN 6) gsNil))) (cal f_law_chains (aCons (vr 0) (aCons (cal f_law_after (aCons (vr 1) (aCons (vr 2) aNil))) aNil))))
    (sq (ifS (boo (bin (fEq false) (bcall fLen (aCons (vr 5) aNil)) (bcall fLen (aCons (vr 3) aNil)))) (sq (ifS (boo (bin (fGt) (bcall fLen (aCons (vr 6) aNil)) (bcall fLen (aCons (vr 4) aNil)))) (ret (vIf (boo (bin (fEq false) (vr 5) (vr 3))) (cst (.str "part")) (cst (.str "let")))) skip)
    (sq (ifS (boo (bin (fLt) (bcall fLen (aCons (vr 6) aNil)) (bcall fLen (aCons (vr 4) aNil)))) (ret (vIf (boo (bin (fEq false) (vr 5) (vr 3))) (cst (.str "merge")) (cst (.str "take")))) skip)
    (ret (vIf (tAndD (boo (bin (fEq false) (vr 5) (vr 3))) (boo (bin (fEq false) (vr 6) (vr 4)))) (cst (.str "turn")) (cst (.str "exchange")))))) skip)
    (sq (ifS (boo (bin (fEq false) (bcall fLen (aCons (vr 6) aNil)) (bcall fLen (aCons (vr 4) aNil)))) (ret (vIf (boo (bin (fGt) (bcall fLen (aCons (vr 5) aNil)) (bcall fLen (aCons (vr 3) aNil)))) (cst (.str "cut")) (cst (.str "join")))) skip)
    (ret (vIf (boo (bin (fGt) (bcall fLen (aCons (vr 5) aNil)) (bcall fLen (aCons (vr 3) aNil)))) (cst (.str "open")) (cst (.str "close"))))))))
noncomputable def f_law_kind : Fn := fnD 7 d_law_kind
/-- layout_fault(pieces, value): 0 pieces 1 value 2 used 3 index 4 item -/
noncomputable def d_layout_fault : Sd :=
    (sq (ifS (tNotD (tru (isiD "list" (vr 1)))) (ret (tupD (aCons (cst .none) aNil))) skip)
    (sq (asg 2 dctC)
    (sq (forS (iEnu (vr 1)) (tiT 2 (gsCons (gN 3) (gsCons (gN 4) gsNil))) (sq (ifS (tOrD (tNotD (tru (cal f_is_coupling (aCons (vr 0) (aCons (vr 4) aNil))))) (tOrD (boo (bin (fIn false) (bin fIx (vr 4) (cst (.int 0))) (vr 2))) (boo (bin (fIn false) (bin fIx (vr 4) (cst (.int 1))) (vr 2))))) (ret (tupD (aCons (vr 3) aNil))) skip)
    (sq (ifS (tAndD (boo (bin (fGt) (vr 3) (cst (.int 0)))) (boo (bin (fLe) (vr 4) (bin fIx (vr 1) (bin fSub (vr 3) (cst (.int 1))))))) (ret (tupD (aCons (vr 3) aNil))) skip)
    (asgT (tiT 2 (gsCons (gS (vr 2) (bin fIx (vr 4) (cst (.int 0)))) (gsCons (gS (vr 2) (bin fIx (vr 4) (cst (.int 1)))) gsNil))) (aCons (cst (.bool true)) (aCons (cst (.bool true)) aNil))))))
    (ret (tupD aNil)))))
noncomputable def f_layout_fault : Fn := fnD 5 d_layout_fault
/-- _law_is_move(pieces, layout, value): 0 pieces 1 layout 2 value 3 cut 4 put_in 5 pair 6 known 7 ends 8 others 9 free 10 end -/
noncomputable def d_law_is_move : Sd :=
    (sq (ifS (tOrD (tNotD (tru (isiD "tuple" (vr 2)))) (boo (bin (fEq true) (bcall fLen (aCons (vr 2) aNil)) (cst (.int 2))))) (ret (cst (.bool false))) skip)
    (sq (asgG (gT 2 (gsCons (gN 3) (gsCons (gN 4) gsNil))) (vr 2))
    (sq (ifS (tOrD (tNotD (tru (cal f_law_are_couplings (aCons (vr 0) (aCons (vr 3) aNil))))) (tNotD (tru (cal f_law_are_couplings (aCons (vr 0) (aCons (vr 4) aNil)))))) (ret (cst (.bool false))) skip)
    (sq (ifS (boo (bin (fEq true) (lcD (iSeq (vr 3)) (tiW (gN 5)) (boo (bin (fIn true) (vr 5) (vr 1))) (vr 5) [5]) (lstD aNil))) (ret (cst (.bool false))) skip)
    (sq (asgT (tiT 3 (gsCons (gN 6) (gsCons (gN 7) (gsCons (gN 8) gsNil)))) (aCons (calC f_law_partners (aCons (vr 1) aNil)) (aCons (lstC aNil) (aCons (lstC aNil) aNil))))
    (sq (forS (iSeq (vr 3)) (tiW (gN 5)) (drp (mth "list" fExtend (vr 7) (aCons (vr 5) aNil))))
    (sq (forS (iSeq (vr 4)) (tiW (gN 5)) (drp (mth "list" fExtend (vr 8) (aCons (vr 5) aNil))))
    (sq (asg 9 (lcD (iSeq (vr 8)) (tiW (gN 10)) (boo (bin (fIn true) (vr 10) (vr 6))) (vr 10) [10]))
    (sq (ifS (boo (bin (fEq false) (bcall fLen (aCons (vr 3) aNil)) (cst (.int 2)))) (ret (vAnd (bin (fEq false) (bcall fSorted (aCons (vr 8) aNil)) (bcall fSorted (aCons (vr 7) aNil))) (bin (fEq false) (lcD (iSeq (vr 4)) (tiW (gN 5)) (boo (bin (fIn false) (vr 5) (vr 3))) (vr 5) [5]) (lstD aNil)))) skip)
    (sq (ifS (boo (bin (fEq false) (bcall fLen (aCons (vr 3) aNil)) (cst (.int 1)))) (sq (ifS (boo (bin (fEq false) (vr 4) (lstD aNil))) (ret (cst (.bool true))) skip)
    (ret (vAnd (bin (fEq false) (bcall fLen (aCons (vr 4) aNil)) (cst (.int 1))) (vAnd (bin (fEq false) (bcall fLen (aCons (vr 9) aNil)) (cst (.int 1))) (bin (fEq false) (bcall fLen (aCons (lcD (iSeq (vr 8)) (tiW (gN 10)) (boo (bin (fIn false) (vr 10) (vr 7))) (vr 10) [10]) aNil)) (cst (.int 1))))))) skip)
    (ret (vAnd (bin (fEq false) (bcall fLen (aCons (vr 4) aNil)) (cst (.int 1))) (bin (fEq false) (bcall fLen (aCons (vr 9) aNil)) (cst (.int 2)))))))))))))))
noncomputable def f_law_is_move : Fn := fnD 11 d_law_is_move
/-- _law_two(tap, pieces): 0 tap 1 pieces 2 one 3 other 4 turn -/
noncomputable def d_law_two : Sd :=
    (sq (asg 2 (cal f_law_layout (aCons (vr 0) (aCons (vr 1) aNil))))
    (sq (ifS (boo (bin (fEq false) (cal f_law_draw (aCons (vr 0) (aCons (cst (.int 2)) aNil))) (cst (.int 0)))) (ret (lstD (aCons (vr 2) (aCons (cal f_law_layout (aCons (vr 0) (aCons (vr 1) aNil))) aNil)))) skip)
    (sq (asg 3 (vr 2))
    (sq (forS (iRg1 (aCons (cal f_law_draw (aCons (vr 0) (aCons (bin fIx (lstD (aCons (cst (.int 3)) (aCons (cst (.int 9)) (aCons (cst (.int 40)) aNil)))) (cal f_law_draw (aCons (vr 0) (aCons (cst (.int 3)) aNil)))) aNil))) aNil)) (tiW (gN 4)) (asg 3 (cal f_law_after (aCons (vr 3) (aCons (cal f_law_any_move (aCons (vr 0) (aCons (vr 1) (aCons (vr 3) aNil)))) aNil)))))
    (ret (vIf (boo (bin (fEq false) (cal f_law_draw (aCons (vr 0) (aCons (cst (.int 2)) aNil))) (cst (.int 0)))) (lstD (aCons (vr 2) (aCons (vr 3) aNil))) (lstD (aCons (vr 3) (aCons (vr 2) aNil)))))))))
noncomputable def f_law_two : Fn := fnD 5 d_law_two
/-- require_layout(pieces, layout): 0 pieces 1 layout 2 fault -/
noncomputable def d_require_layout : Sd :=
    (sq (asg 2 (cal f_layout_fault (aCons (vr 0) (aCons (vr 1) aNil))))
    (ifS (boo (bin (fEq true) (vr 2) (tupD aNil))) nev skip))
noncomputable def f_require_layout : Fn := fnD 3 d_require_layout
/-- is_layout(pieces, value): 0 pieces 1 value -/
noncomputable def d_is_layout : Sd :=
    (sq (drp (cal f_require_pieces (aCons (vr 0) aNil)))
    (ret (bin (fEq false) (cal f_layout_fault (aCons (vr 0) (aCons (vr 1) aNil))) (tupD aNil))))
noncomputable def f_is_layout : Fn := fnD 2 d_is_layout
/-- require_one(pieces, layout): 0 pieces 1 layout -/
noncomputable def d_require_one : Sd :=
    (sq (drp (cal f_require_pieces (aCons (vr 0) aNil)))
    (drp (cal f_require_layout (aCons (vr 0) (aCons (vr 1) aNil)))))
noncomputable def f_require_one : Fn := fnD 2 d_require_one
/-- open_ends(pieces, layout): 0 pieces 1 layout 2 partners 3 end -/
noncomputable def d_open_ends : Sd :=
    (sq (drp (cal f_require_one (aCons (vr 0) (aCons (vr 1) aNil))))
    (sq (asg 2 (calC f_couples (aCons (vr 1) aNil)))
    (ret (lcD (iSeq (cal f_ends_of (aCons (vr 0) aNil))) (tiW (gN 3)) (boo (bin (fIn true) (vr 3) (vr 2))) (vr 3) [3]))))
noncomputable def f_open_ends : Fn := fnD 4 d_open_ends
/-- partner_of(pieces, layout, end): 0 pieces 1 layout 2 end -/
noncomputable def d_partner_of : Sd :=
    (sq (drp (cal f_require_one (aCons (vr 0) (aCons (vr 1) aNil))))
    (sq (drp (cal f_require_end (aCons (vr 0) (aCons (vr 2) aNil))))
    (ret (get1 (calC f_couples (aCons (vr 1) aNil)) (vr 2)))))
noncomputable def f_partner_of : Fn := fnD 3 d_partner_of
/-- count_moves(pieces, layout): 0 pieces 1 layout 2 held 3 free -/
noncomputable def d_count_moves : Sd :=
    (sq (drp (cal f_require_one (aCons (vr 0) (aCons (vr 1) aNil))))
    (sq (asg 2 (bcall fLen (aCons (vr 1) aNil)))
    (sq (asg 3 (bin fMul (cst (.int 2)) (bin fSub (vr 0) (vr 2))))
    (ret (bin fAdd (bin fAdd (bin fAdd (bin fMul (vr 2) (bin fSub (vr 2) (cst (.int 1)))) (bin fMul (bin fMul (cst (.int 2)) (vr 2)) (vr 3))) (vr 2)) (bin fDiv (bin fMul (vr 3) (bin fSub (vr 3) (cst (.int 1)))) (cst (.int 2))))))))
noncomputable def f_count_moves : Fn := fnD 4 d_count_moves
/-- require_two(pieces, one, other): 0 pieces 1 one 2 other -/
noncomputable def d_require_two : Sd :=
    (sq (drp (cal f_require_one (aCons (vr 0) (aCons (vr 1) aNil))))
    (drp (cal f_require_layout (aCons (vr 0) (aCons (vr 2) aNil)))))
noncomputable def f_require_two : Fn := fnD 3 d_require_two
end CB

set_option Elab.async false
set_option linter.all false
set_option maxRecDepth 100000
set_option maxHeartbeats 1000000
/-! VC1: values of denotations: plain laws of the words. -/
namespace VS
open PySem PySem.Spec PyProof.Rows L2
theorem bind_ok {α β : Type} (x : α) (st : Store) (f : α → Store → Res β) : (Res.ok x st).bind f = f x st := rfl
theorem fl_ok {α : Type} (x : α) (st : Store) (env : Env) (k : α → Store → Fl) : (Res.ok x st).fl env k = k x st := rfl
theorem okEq_int (i : Int) (y : PyData) : okEq (.int i) y = true := by
  unfold okEq
  simp [PyData.depth]
theorem okEq_int2 (i : Int) (y : PyData) : okEq y (.int i) = true := by
  unfold okEq
  simp [PyData.depth]
theorem okLt_int (i j : Int) : okLt (.int i) (.int j) = true := by
  unfold okLt
  simp [PyData.depth, PySem.W.alike, notNone]
theorem lt_int (i j : Int) : PySem.W.dataLt (.int i) (.int j) = decide (i < j) := by
  exact PySem.W.dataLt_int i j
theorem eq_int (i j : Int) : PyData.eqv (.int i) (.int j) = decide (i = j) := by
  simp [PyData.eqv]
  rfl
/-- nothing of the caller's was changed -/
theorem keeps_same {st : Store} : Keeps st.length st st := fun n c _ h => .inl h
theorem keeps_app {st ex : Store} : Keeps st.length st (st ++ ex) := fun n c h e => .inl (by rw [List.getElem?_append_left h] at e; exact e)
theorem frz_d (lo : Nat) (st : Store) (k : Nat) (x : PyData) : frz lo st k (.d x) = some x := by cases k <;> rfl
theorem expo_d (st : Store) (x : PyData) : expo st (.ok (.d x) st) = .ok (.d x) st := by
  unfold expo
  simp only [if_pos keeps_same, frz_d, List.take_length]
theorem expo_app (st ex : Store) (x : PyData) : expo st (.ok (.d x) (st ++ ex)) = .ok (.d x) st := by
  unfold expo
  simp only [if_pos keeps_app, frz_d, List.take_left']
/-- one cell of the caller's was changed, to data -/
theorem keeps_set {st ex : Store} {t : Nat} {c : Cell} (h : dOnly c = true) : Keeps st.length st (st.set t c ++ ex) := fun n c' hn e => by
  rw [List.getElem?_append_left (by rw [List.length_set]; exact hn)] at e
  by_cases q : t = n
  · subst q
    rw [List.getElem?_set_self hn] at e
    cases e
    exact .inr h
  · rw [List.getElem?_set_ne q] at e
    exact .inl e
theorem expo_set (st ex : Store) (t : Nat) (c : Cell) (x : PyData) (h : dOnly c = true) : expo st (.ok (.d x) (st.set t c ++ ex)) = .ok (.d x) (st.set t c) := by
  unfold expo
  have e : (st.set t c ++ ex).take st.length = st.set t c := List.take_left' (List.length_set ..)
  simp only [if_pos (keeps_set h), frz_d, e]
theorem expo_set0 (st : Store) (t : Nat) (c : Cell) (x : PyData) (h : dOnly c = true) : expo st (.ok (.d x) (st.set t c)) = .ok (.d x) (st.set t c) := by
  have := expo_set st [] t c x h
  rwa [List.append_nil] at this
theorem rdW_d (st : Store) (k : Nat) (x : PyData) : rdW st k (.d x) = some x := by cases k <;> rfl
theorem rdW_r (st : Store) (k : Nat) (x : List PyData) : rdW st k (.r x) = some (.list x) := by cases k <;> rfl


theorem fEqF_int (i j : Int) (st : Store) : fEq false (.d (.int i)) (.d (.int j)) st = .ok (.d (.bool (decide (i = j)))) st := by
  simp [fEq, rdW_d, okEq_int, eq_int]
theorem fEqT_int (i j : Int) (st : Store) : fEq true (.d (.int i)) (.d (.int j)) st = .ok (.d (.bool (decide (i ≠ j)))) st := by
  simp [fEq, rdW_d, okEq_int, eq_int]
theorem fLt_int (i j : Int) (st : Store) : fLt (.d (.int i)) (.d (.int j)) st = .ok (.d (.bool (decide (i < j)))) st := by
  simp [fLt, fOrd, rdW_d, okLt_int, lt_int]
theorem fGt_int (i j : Int) (st : Store) : fGt (.d (.int i)) (.d (.int j)) st = .ok (.d (.bool (decide (j < i)))) st := by
  simp [fGt, fOrd, rdW_d, okLt_int, lt_int]
theorem fLe_int (i j : Int) (st : Store) : fLe (.d (.int i)) (.d (.int j)) st = .ok (.d (.bool (decide (i ≤ j)))) st := by
  have e : (!decide (j < i)) = decide (i ≤ j) := by
    rw [Bool.eq_iff_iff]
    simp
  simp only [fLe, fOrd, rdW_d, okLt_int, lt_int, if_true, e]
theorem fGe_int (i j : Int) (st : Store) : fGe (.d (.int i)) (.d (.int j)) st = .ok (.d (.bool (decide (j ≤ i)))) st := by
  have e : (!decide (i < j)) = decide (j ≤ i) := by
    rw [Bool.eq_iff_iff]
    simp
  simp only [fGe, fOrd, rdW_d, okLt_int, lt_int, if_true, e]
theorem fAdd_int (i j : Int) (st : Store) : fAdd (.d (.int i)) (.d (.int j)) st = .ok (.d (.int (i + j))) st := rfl
theorem fSub_int (i j : Int) (st : Store) : fSub (.d (.int i)) (.d (.int j)) st = .ok (.d (.int (i - j))) st := rfl
theorem fMul_int {i j : Int} (h : okMul i j = true) (st : Store) : fMul (.d (.int i)) (.d (.int j)) st = .ok (.d (.int (i * j))) st := by
  simp [fMul, fII, h]
theorem okMul_l {i j : Int} (h : -(2 ^ 64) < i ∧ i < 2 ^ 64) : okMul i j = true := by
  unfold okMul
  rw [decide_eq_true h]
  rfl
theorem okMul_r {i j : Int} (h : -(2 ^ 64) < j ∧ j < 2 ^ 64) : okMul i j = true := by
  unfold okMul
  rw [decide_eq_true h, Bool.or_true]
  rfl
theorem fDiv_int {i j : Int} (h : 0 < j) (h2 : j.natAbs.log2 < 9000) (st : Store) : fDiv (.d (.int i)) (.d (.int j)) st = .ok (.d (.int (i / j))) st := by
  simp [fDiv, fII, okDiv, h, h2]
theorem fMod_int {i j : Int} (h : 0 < j) (st : Store) : fMod (.d (.int i)) (.d (.int j)) st = .ok (.d (.int (i % j))) st := by
  simp [fMod, fII, okMod, h]

theorem atI0 {α : Type} (x : α) (xs : List α) : atI (x :: xs) 0 = some x := by
  simp [atI, ixN]
theorem atI1 {α : Type} (x y : α) (xs : List α) : atI (x :: y :: xs) 1 = some y := by
  show (ixN (xs.length + 1 + 1) 1).bind _ = _
  unfold ixN
  rw [if_pos (by decide), if_pos (by omega)]
  rfl
theorem atI2 {α : Type} (x y z : α) (xs : List α) : atI (x :: y :: z :: xs) 2 = some z := by
  show (ixN (xs.length + 1 + 1 + 1) 2).bind _ = _
  unfold ixN
  rw [if_pos (by decide), if_pos (by omega)]
  rfl
theorem atI_nat {α : Type} (xs : List α) (i : Nat) (h : i < xs.length) : atI xs (i : Int) = xs[i]? := by
  unfold atI ixN
  have h0 : (0 : Int) ≤ i := Int.natCast_nonneg i
  have h1 : (i : Int) < xs.length := by omega
  simp [h0, h1]
theorem fIn_last (neg : Bool) (a : Int) (st : Store) (kvs : List (Key × W)) : fIn neg (.d (.int a)) (.c st.length) (st ++ [.dct kvs]) = .ok (.d (.bool (neg != (kget kvs (.inl a)).isSome))) (st ++ [.dct kvs]) := by
  simp [fIn, keyOf]
theorem setW_last (a : Int) (w : W) (st : Store) (kvs : List (Key × W)) : setW (.c st.length) (.d (.int a)) w (st ++ [.dct kvs]) = if kvs.length < sizeLine then some (st ++ [.dct (kput kvs (.inl a) w)]) else none := by
  simp [setW, keyOf]
theorem fIx_t0 (x : PyData) (xs : List PyData) (st : Store) : fIx (.d (.tuple (x :: xs))) (.d (.int 0)) st = .ok (.d x) st := by
  simp [fIx, atI0]
theorem fIx_t1 (x y : PyData) (xs : List PyData) (st : Store) : fIx (.d (.tuple (x :: y :: xs))) (.d (.int 1)) st = .ok (.d y) st := by
  simp [fIx, atI1]
theorem fIx_l {xs : List PyData} {i : Int} {y : PyData} (h : atI xs i = some y) (st : Store) : fIx (.d (.list xs)) (.d (.int i)) st = .ok (.d y) st := by
  simp [fIx, h]
theorem fIx_c {n : Nat} {ws : List W} {i : Int} {y : W} {st : Store} (hs : st[n]? = some (.lst ws)) (h : atI ws i = some y) : fIx (.c n) (.d (.int i)) st = .ok y st := by
  simp [fIx, h, hs]
theorem fLen_r (ds : List PyData) (st : Store) : fLen [.r ds] st = .ok (.d (.int ds.length)) st := rfl
theorem fLen_l (ds : List PyData) (st : Store) : fLen [.d (.list ds)] st = .ok (.d (.int ds.length)) st := rfl
theorem fLen_t (ds : List PyData) (st : Store) : fLen [.d (.tuple ds)] st = .ok (.d (.int ds.length)) st := rfl
/-! ### loops -/
theorem forL_ind {g : Ti} {b : Sd} {chk : Option (Nat × Cell)} (P : Nat → Env → Store → Prop) : ∀ (ys : List Itm) (k : Nat) (env : Env) (st : Store), P k env st →
    (∀ (j : Nat) (y : Itm) (env : Env) (st : Store), ys[j]? = some y → P (k + j) env st → Chk chk st ∧ ∃ env1 st1 env2 st2, g y env st = some (env1, st1) ∧ b env1 st1 = .nx env2 st2 ∧ P (k + j + 1) env2 st2) →
    (∀ env st, P (k + ys.length) env st → Chk chk st) → ∃ env' st', forL g b chk ys env st = .nx env' st' ∧ P (k + ys.length) env' st'
  | [], k, env, st, h, _, hc => ⟨env, st, by unfold forL; rw [if_pos (hc _ _ h)], h⟩
  | y :: ys, k, env, st, h, hs, hc => by
    obtain ⟨c1, env1, st1, env2, st2, e1, e2, h2⟩ := hs 0 y env st rfl h
    obtain ⟨env', st', e3, h3⟩ := forL_ind P ys (k + 1) env2 st2 h2 (fun j z env st hj hp => by
      have := hs (j + 1) z env st hj (by rw [show k + (j + 1) = k + 1 + j by omega]; exact hp)
      rwa [show k + (j + 1) + 1 = k + 1 + j + 1 by omega] at this) (fun env st hp => hc env st (by rw [List.length_cons, show k + (ys.length + 1) = k + 1 + ys.length by omega]; exact hp))
    refine ⟨env', st', ?_, by rw [List.length_cons, show k + (ys.length + 1) = k + 1 + ys.length by omega]; exact h3⟩
    unfold forL
    rw [if_pos c1, e1]
    show (match b env1 st1 with
      | .nx env2 st2 => forL g b chk ys env2 st2
      | .ct env2 st2 => forL g b chk ys env2 st2
      | .bk env2 st2 => .nx env2 st2
      | r => r) = _
    rw [e2]
    exact e3
theorem last_get (st : Store) (c : Cell) : (st ++ [c])[st.length]? = some c := by simp
theorem last_set (st : Store) (c c' : Cell) : (st ++ [c]).set st.length c' = st ++ [c'] := by simp
theorem kput_new {kvs : List (Key × W)} {k : Key} {w : W} (h : ∀ kv ∈ kvs, kv.1 ≠ k) : kput kvs k w = kvs ++ [(k, w)] := by
  unfold kput
  rw [if_neg]
  intro q
  rw [List.any_eq_true] at q
  obtain ⟨kv, h1, h2⟩ := q
  exact h kv h1 (of_decide_eq_true h2)
theorem kget_new {kvs : List (Key × W)} {k : Key} (h : ∀ kv ∈ kvs, kv.1 ≠ k) : kget kvs k = none := by
  unfold kget
  rw [List.find?_eq_none.mpr fun kv hk => by simpa using h kv hk]
  rfl
theorem forL_g {g : Ti} {b : Sd} {chk : Option (Nat × Cell)} {ys : List Itm} {env : Env} {st : Store} {r : Fl} (hr : forL g b chk ys env st = r) (P : Nat → Env → Store → Prop) (h0 : P 0 env st)
    (hs : ∀ (j : Nat) (y : Itm) (env : Env) (st : Store), ys[j]? = some y → P j env st → Chk chk st ∧ ∃ env1 st1 env2 st2, g y env st = some (env1, st1) ∧ b env1 st1 = .nx env2 st2 ∧ P (j + 1) env2 st2)
    (hc : ∀ env st, P ys.length env st → Chk chk st) : ∃ env' st', r = .nx env' st' ∧ P ys.length env' st' := by
  obtain ⟨env', st', e, h⟩ := forL_ind (g := g) (b := b) (chk := chk) P ys 0 env st h0 (fun j y env st hj hp => by rw [Nat.zero_add] at hp ⊢; exact hs j y env st hj hp) (fun env st hp => hc env st (by rwa [Nat.zero_add] at hp))
  exact ⟨env', st', hr.symm.trans e, by rwa [Nat.zero_add] at h⟩
/-! ### comprehensions whose parts change no cell of the caller's -/
theorem chk_app {chk : Option (Nat × Cell)} {st ex : Store} (h : Chk chk st) : Chk chk (st ++ ex) := by
  cases chk with
  | none => trivial
  | some q =>
    obtain ⟨n, c⟩ := q
    have h' : st[n]? = some c := h
    show (st ++ ex)[n]? = some c
    rw [List.getElem?_append_left (List.getElem?_eq_some_iff.mp h').1]
    exact h'
theorem lcL_v {g : Ti} {t : Tst} {e : Ev} {chk : Option (Nat × Cell)} {env : Env} {base : Store} {α : Type} (q : α → Itm) (p : α → Bool) (f : α → PyData) (hc : Chk chk base) : ∀ (ys : List α) (acc : List W) (gs : Store), acc.length + ys.length ≤ sizeLine →
    (∀ y ∈ ys, ∀ S : Store, (∃ ex, S = base ++ ex) → ∃ env1 ex1, g (q y) env S = some (env1, S) ∧ t env1 S = .ok (p y) (S ++ ex1) ∧ (p y = true → ∃ ex2, e env1 (S ++ ex1) = .ok (.d (f y)) (S ++ ex1 ++ ex2))) →
    ∃ gs', lcL g t e chk base.length env (ys.map q) (base ++ .lst acc :: gs) = .ok (.c base.length) (base ++ .lst (acc ++ (ys.filter p).map fun y => W.d (f y)) :: gs')
  | [], acc, gs, _, _ => ⟨gs, by rw [List.map_nil]; unfold lcL; rw [if_pos (chk_app hc)]; simp⟩
  | y :: ys, acc, gs, hl, h => by
    obtain ⟨env1, ex1, e1, e2, e3⟩ := h y List.mem_cons_self (base ++ .lst acc :: gs) ⟨_, rfl⟩
    have hr : ∀ z ∈ ys, _ := fun z hz => h z (List.mem_cons_of_mem _ hz)
    have hl' : acc.length + 1 + ys.length ≤ sizeLine := by rw [List.length_cons] at hl; omega
    cases hp : p y with
    | false =>
      rw [hp] at e2
      obtain ⟨gs', e4⟩ := lcL_v q p f hc ys acc (gs ++ ex1) (by omega) hr
      refine ⟨gs', ?_⟩
      rw [List.map_cons]
      unfold lcL
      rw [if_pos (chk_app hc), e1]
      simp only [e2, List.append_assoc, List.cons_append, e4, List.filter_cons, hp]
      rfl
    | true =>
      rw [hp] at e2
      obtain ⟨ex2, e3⟩ := e3 hp
      obtain ⟨gs', e4⟩ := lcL_v q p f hc ys (acc ++ [.d (f y)]) (gs ++ ex1 ++ ex2) (by rw [List.length_append, List.length_singleton]; exact hl') hr
      refine ⟨gs', ?_⟩
      have q1 : ∀ z : Store, (base ++ .lst acc :: z)[base.length]? = some (.lst acc) := fun z => by simp
      have q2 : ∀ (z : Store) (c : Cell), (base ++ .lst acc :: z).set base.length c = base ++ c :: z := fun z c => by simp
      have hla : acc.length < sizeLine := by omega
      rw [List.map_cons]
      unfold lcL
      rw [if_pos (chk_app hc), e1]
      simp only [List.append_assoc, List.cons_append, List.nil_append] at e2 e3 e4
      simp only [e2, e3, q1, q2, if_pos hla, e4, List.filter_cons, hp, if_true, List.map_cons]
theorem frz_last (st gs : Store) (ds : List PyData) (k : Nat) : frz st.length (st ++ .lst (ds.map W.d) :: gs) (k + 1) (.c st.length) = some (.list ds) := by
  have e : (ds.map W.d).mapM (frz st.length (st ++ .lst (ds.map W.d) :: gs) k) = some ds := by
    generalize st ++ .lst (ds.map W.d) :: gs = S
    induction ds with
    | nil => rfl
    | cons d ds ih => rw [List.map_cons, List.mapM_cons, frz_d, ih]; rfl
  unfold frz
  simp [e]
theorem expo_last (st gs : Store) (ds : List PyData) : expo st (.ok (.c st.length) (st ++ .lst (ds.map W.d) :: gs)) = .ok (.d (.list ds)) st := by
  unfold expo
  simp only [if_pos keeps_app, frz_last, List.take_left']
theorem expoC_last (st gs : Store) (ds : List PyData) : expoC st (.ok (.c st.length) (st ++ .lst (ds.map W.d) :: gs)) = .ok (.c st.length) (st ++ [.lst (ds.map W.d)]) := by
  unfold expoC
  have q1 : (st ++ Cell.lst (ds.map W.d) :: gs)[st.length]? = some (.lst (ds.map W.d)) := by simp
  simp only [if_pos (And.intro keeps_app (Nat.le_refl _)), q1, allD_map, List.take_left']
theorem expoC_lastK (st gs : Store) (kvs : List (Key × W)) (h : dOnly (.dct kvs) = true) : expoC st (.ok (.c st.length) (st ++ .dct kvs :: gs)) = .ok (.c st.length) (st ++ [.dct kvs]) := by
  unfold expoC
  have q1 : (st ++ Cell.dct kvs :: gs)[st.length]? = some (.dct kvs) := by simp
  simp only [if_pos (And.intro keeps_app (Nat.le_refl _)), q1, if_pos h, List.take_left']
section
variable {I : Iv} {g : Ti} {t : Tst} {e : Ev} {vs : List Nat} {env : Env} {st : Store} {α : Type} {ys : List α} {chk : Option (Nat × Cell)}
theorem lcD_v (q : α → Itm) (p : α → Bool) (f : α → PyData) (hi : I env st = .ok ⟨ys.map q, chk⟩ st) (hc : Chk chk st) (hl : ys.length ≤ sizeLine)
    (h : ∀ y ∈ ys, ∀ S : Store, (∃ ex, S = st ++ ex) → ∃ env1 ex1, g (q y) (wipeE env vs) S = some (env1, S) ∧ t env1 S = .ok (p y) (S ++ ex1) ∧ (p y = true → ∃ ex2, e env1 (S ++ ex1) = .ok (.d (f y)) (S ++ ex1 ++ ex2))) :
    lcD I g t e vs env st = .ok (.d (.list ((ys.filter p).map f))) st := by
  obtain ⟨gs', qq⟩ := lcL_v (g := g) (t := t) (e := e) q p f hc ys [] [] (by simpa using hl) h
  unfold lcD lcB
  rw [hi]
  show expo st (lcL g t e chk st.length (wipeE env vs) (ys.map q) (st ++ [.lst []])) = _
  rw [qq, List.nil_append]
  have := expo_last st gs' ((ys.filter p).map f)
  rwa [List.map_map] at this
theorem lcC_v (q : α → Itm) (p : α → Bool) (f : α → PyData) (hi : I env st = .ok ⟨ys.map q, chk⟩ st) (hc : Chk chk st) (hl : ys.length ≤ sizeLine)
    (h : ∀ y ∈ ys, ∀ S : Store, (∃ ex, S = st ++ ex) → ∃ env1 ex1, g (q y) (wipeE env vs) S = some (env1, S) ∧ t env1 S = .ok (p y) (S ++ ex1) ∧ (p y = true → ∃ ex2, e env1 (S ++ ex1) = .ok (.d (f y)) (S ++ ex1 ++ ex2))) :
    lcC I g t e vs env st = .ok (.c st.length) (st ++ [.lst (((ys.filter p).map f).map W.d)]) := by
  obtain ⟨gs', qq⟩ := lcL_v (g := g) (t := t) (e := e) q p f hc ys [] [] (by simpa using hl) h
  unfold lcC lcB
  rw [hi]
  show expoC st (lcL g t e chk st.length (wipeE env vs) (ys.map q) (st ++ [.lst []])) = _
  rw [qq, List.nil_append]
  have := expoC_last st gs' ((ys.filter p).map f)
  rwa [List.map_map] at this ⊢
end
end VS

set_option Elab.async false
set_option linter.all false
set_option maxRecDepth 100000
set_option maxHeartbeats 1000000
/-! VC2: what the common defs compute. -/
namespace VS
open PySem PySem.Spec PyProof.Rows L2

def isEnd (n v : Int) : Bool := decide (v ≠ 0) && (decide (-n ≤ v) && decide (v ≤ n))
theorem is_integer_v (n : Int) (st : Store) : CB.f_is_integer [.d (.int n)] st = .ok (.d (.bool true)) st := rfl
theorem is_end_v (n v : Int) (st : Store) : CB.f_is_end [.d (.int n), .d (.int v)] st = .ok (.d (.bool (isEnd n v))) st := by
  by_cases h1 : v = 0 <;> by_cases h2 : -n ≤ v <;> by_cases h3 : v ≤ n <;>
  simp [CB.f_is_end, CB.d_is_end, fnD, fin, ent, sq, skip, brk, cnt, drp, asg, ret, retN, ifS, par, asgG, asgT, Res.bind, Res.fl, bin, cst, vr, boo, tru, truW, tNotD, tAndD, tOrD, vAnd, vOr, vNot, vIf, vNeg, chn, aNil, aCons, cal, calC, calR, bcall, mth, lstD, lstC, tupD, dctC, fEqF_int, fEqT_int, fLt_int, fGt_int, fLe_int, fGe_int, fAdd_int, fSub_int, fIx_t0, fIx_t1, fLen_r, fLen_l, fLen_t, fAbs, fInt, fMax2, fMin2, fList, fListW, itmA, fTuple, itm, itmT, isiD, tyN, kitB, mkL, mkC, mkT, allD, allD_map, rdW_d, rdW_r, bind_ok, fl_ok, atI0, atI1, atI2, last_get, last_set, expo_d, expo_app, gN, gT, gS, gsNil, gsCons, tiW, tiT, tYesD, nev, Option.map_some, Bool.false_eq_true, if_true, if_false, decide_true, decide_false, List.map_cons, List.map_nil, List.length_cons, List.length_nil, List.replicate, List.cons_append, List.nil_append, List.getElem?_cons_zero, List.getElem?_cons_succ, List.set_cons_zero, List.set_cons_succ, is_integer_v, isEnd, h1, h2, h3]
/-! ### couplings, layouts -/
def pr (p : Int × Int) : PyData := .tuple [.int p.1, .int p.2]
def isCpl (n : Int) (p : Int × Int) : Bool := isEnd n p.1 && (isEnd n p.2 && decide (p.1 < p.2))
theorem fIx_pr0 (p : Int × Int) (st : Store) : fIx (.d (pr p)) (.d (.int 0)) st = .ok (.d (.int p.1)) st := fIx_t0 _ _ _
theorem fIx_pr1 (p : Int × Int) (st : Store) : fIx (.d (pr p)) (.d (.int 1)) st = .ok (.d (.int p.2)) st := fIx_t1 _ _ _ _
theorem is_coupling_v (n : Int) (p : Int × Int) (st : Store) : CB.f_is_coupling [.d (.int n), .d (pr p)] st = .ok (.d (.bool (isCpl n p))) st := by
  by_cases h1 : isEnd n p.1 = true <;> by_cases h2 : isEnd n p.2 = true <;> by_cases h3 : p.1 < p.2 <;>
  simp [CB.f_is_coupling, CB.d_is_coupling, fnD, fin, ent, sq, skip, brk, cnt, drp, asg, ret, retN, ifS, par, asgG, asgT, Res.bind, Res.fl, bin, cst, vr, boo, tru, truW, tNotD, tAndD, tOrD, vAnd, vOr, vNot, vIf, vNeg, chn, aNil, aCons, cal, calC, calR, bcall, mth, lstD, lstC, tupD, dctC, fEqF_int, fEqT_int, fLt_int, fGt_int, fLe_int, fGe_int, fAdd_int, fSub_int, fIx_t0, fIx_t1, fLen_r, fLen_l, fLen_t, fAbs, fInt, fMax2, fMin2, fList, fListW, itmA, fTuple, itm, itmT, isiD, tyN, kitB, mkL, mkC, mkT, allD, allD_map, rdW_d, rdW_r, bind_ok, fl_ok, atI0, atI1, atI2, last_get, last_set, expo_d, expo_app, gN, gT, gS, gsNil, gsCons, tiW, tiT, tYesD, nev, Option.map_some, Bool.false_eq_true, if_true, if_false, decide_true, decide_false, List.map_cons, List.map_nil, List.length_cons, List.length_nil, List.replicate, List.cons_append, List.nil_append, List.getElem?_cons_zero, List.getElem?_cons_succ, List.set_cons_zero, List.set_cons_succ, is_end_v, isCpl, pr, h1, h2, h3, atI0, atI1]
def ltP (p q : Int × Int) : Prop := p.1 < q.1 ∨ (p.1 = q.1 ∧ p.2 < q.2)
instance (p q : Int × Int) : Decidable (ltP p q) := by unfold ltP; exact inferInstance
def endsOf (L : List (Int × Int)) : List Int := L.flatMap fun p => [p.1, p.2]
structure Lay (n : Int) (L : List (Int × Int)) : Prop where
  cpl : ∀ p ∈ L, isCpl n p = true
  nd : (endsOf L).Nodup
  srt : L.Pairwise ltP
  len : L.length ≤ 100000
theorem okLt_pr (p q : Int × Int) : okLt (pr p) (pr q) = true := by
  simp [okLt, pr, PyData.depth, PyData.depthAll, PySem.W.alike, PySem.W.alikeAll, notNone]
theorem fLe_pr (p q : Int × Int) (st : Store) : fLe (.d (pr p)) (.d (pr q)) st = .ok (.d (.bool (!decide (ltP q p)))) st := by
  simp only [fLe, fOrd, rdW_d, okLt_pr, if_true]
  unfold pr
  rw [PySem.W.dataLt_ii]
  rfl
def usedK (L : List (Int × Int)) : List (Key × W) := (endsOf L).map fun e => (.inl e, .d (.bool true))
theorem endsOf_snoc (L : List (Int × Int)) (p : Int × Int) : endsOf (L ++ [p]) = endsOf L ++ [p.1, p.2] := by simp [endsOf]
theorem endsOf_len (L : List (Int × Int)) : (endsOf L).length = 2 * L.length := by
  induction L with
  | nil => rfl
  | cons p L ih => simp only [endsOf, List.flatMap_cons, List.length_append, List.length_cons, List.length_nil] at ih ⊢; omega
theorem endsOf_take {L : List (Int × Int)} {k : Nat} {p : Int × Int} (h : L[k]? = some p) : endsOf (L.take (k + 1)) = endsOf (L.take k) ++ [p.1, p.2] := by
  rw [List.take_add_one, h]
  exact endsOf_snoc _ _
theorem endsOf_nd {L : List (Int × Int)} (h : (endsOf L).Nodup) (k : Nat) : (endsOf (L.take k)).Nodup := by
  have e : endsOf L = endsOf (L.take k) ++ endsOf (L.drop k) := by
    unfold endsOf
    rw [← List.flatMap_append, List.take_append_drop]
  rw [e] at h
  exact (List.nodup_append.mp h).1
theorem usedK_ne {L : List (Int × Int)} {e : Int} (h : e ∉ endsOf L) : ∀ kv ∈ usedK L, kv.1 ≠ .inl e := by
  intro kv hk q
  obtain ⟨x, hx, rfl⟩ := List.mem_map.mp hk
  cases q
  exact h hx
theorem layout_fault_v {n : Int} {L : List (Int × Int)} (h : Lay n L) (st : Store) : expo st (CB.f_layout_fault [.d (.int n), .d (.list (L.map pr))] st) = .ok (.d (.tuple [])) st := by
  simp [CB.f_layout_fault, CB.d_layout_fault, fnD, fin, ent, sq, skip, brk, cnt, drp, asg, ret, retN, ifS, par, asgG, asgT, Res.bind, Res.fl, bin, cst, vr, boo, tru, truW, tNotD, tAndD, tOrD, vAnd, vOr, vNot, vIf, vNeg, chn, aNil, aCons, cal, calC, calR, bcall, mth, lstD, lstC, tupD, dctC, fEqF_int, fEqT_int, fLt_int, fGt_int, fLe_int, fGe_int, fAdd_int, fSub_int, fIx_t0, fIx_t1, fLen_r, fLen_l, fLen_t, fAbs, fInt, fMax2, fMin2, fList, fListW, itmA, fTuple, itm, itmT, isiD, tyN, kitB, mkL, mkC, mkT, allD, allD_map, rdW_d, rdW_r, bind_ok, fl_ok, atI0, atI1, atI2, last_get, last_set, expo_d, expo_app, gN, gT, gS, gsNil, gsCons, tiW, tiT, tYesD, nev, Option.map_some, Bool.false_eq_true, if_true, if_false, decide_true, decide_false, List.map_cons, List.map_nil, List.length_cons, List.length_nil, List.replicate, List.cons_append, List.nil_append, List.getElem?_cons_zero, List.getElem?_cons_succ, List.set_cons_zero, List.set_cons_succ, iEnu, forS]
  generalize hr : forL _ _ _ _ _ _ = r
  obtain ⟨env', st', rfl, a, b, rfl, rfl⟩ := forL_g hr (fun k env st' => ∃ a b, env = [some (.d (.int n)), some (.d (.list (L.map pr))), some (.c st.length), a, b] ∧ st' = st ++ [.dct (usedK (L.take k))]) ⟨none, none, rfl, rfl⟩ (fun j y env st2 hj hp => by
    obtain ⟨a, b, rfl, rfl⟩ := hp
    obtain ⟨w, hw, rfl⟩ := enumI_get hj
    rw [List.getElem?_map] at hw
    cases hL : L[j]? with
    | none => rw [hL] at hw; cases hw
    | some p =>
    rw [hL] at hw
    cases hw
    have hjl : j < L.length := (List.getElem?_eq_some_iff.mp hL).1
    have hn := endsOf_nd h.nd (j + 1)
    rw [endsOf_take hL, List.nodup_append] at hn
    obtain ⟨_, hn2, hn3⟩ := hn
    have ne12 : p.1 ≠ p.2 := by
      intro e
      rw [e] at hn2
      simp at hn2
    have n1 : p.1 ∉ endsOf (L.take j) := fun q => hn3 _ q p.1 (by simp) rfl
    have n2 : p.2 ∉ endsOf (L.take j) := fun q => hn3 _ q p.2 (by simp) rfl
    have g1 := kget_new (usedK_ne n1)
    have g2 := kget_new (usedK_ne n2)
    have c1 := h.cpl p (List.mem_of_getElem? hL)
    have k1 := kput_new (w := .d (.bool true)) (usedK_ne n1)
    have k2 : kput (usedK (L.take j) ++ [(.inl p.1, .d (.bool true))]) (.inl p.2) (.d (.bool true)) = usedK (L.take (j + 1)) := by
      rw [kput_new fun kv hk => ?_]
      · unfold usedK
        rw [endsOf_take hL]
        simp
      · rcases List.mem_append.mp hk with q | q
        · exact usedK_ne n2 kv q
        · rw [List.mem_singleton.mp q]
          exact fun e => ne12 (Sum.inl.inj e)
    have l1 : (usedK (L.take j)).length ≤ 200000 := by
      have h1 := h.len
      simp only [usedK, List.length_map, endsOf_len, List.length_take]
      omega
    have s1 : (usedK (L.take j)).length < sizeLine := Nat.lt_of_le_of_lt l1 (by decide)
    have s2 : (usedK (L.take j)).length + 1 < sizeLine := Nat.lt_of_le_of_lt (Nat.succ_le_succ l1) (by decide)
    refine ⟨trivial, _, _, [some (.d (.int n)), some (.d (.list (L.map pr))), some (.c st.length), some (.d (.int j)), some (.d (pr p))], st ++ [.dct (usedK (L.take (j + 1)))], rfl, ?_, ⟨_, _, rfl, rfl⟩⟩
    generalize usedK (L.take j) = U at k1 k2 g1 g2 s1 s2 ⊢
    generalize usedK (L.take (j + 1)) = U' at k1 k2 ⊢
    rcases Nat.eq_zero_or_pos j with e0 | e0
    · subst e0
      simp [fnD, fin, ent, sq, skip, brk, cnt, drp, asg, ret, retN, ifS, par, asgG, asgT, Res.bind, Res.fl, bin, cst, vr, boo, tru, truW, tNotD, tAndD, tOrD, vAnd, vOr, vNot, vIf, vNeg, chn, aNil, aCons, cal, calC, calR, bcall, mth, lstD, lstC, tupD, dctC, fEqF_int, fEqT_int, fLt_int, fGt_int, fLe_int, fGe_int, fAdd_int, fSub_int, fIx_t0, fIx_t1, fLen_r, fLen_l, fLen_t, fAbs, fInt, fMax2, fMin2, fList, fListW, itmA, fTuple, itm, itmT, isiD, tyN, kitB, mkL, mkC, mkT, allD, allD_map, rdW_d, rdW_r, bind_ok, fl_ok, atI0, atI1, atI2, last_get, last_set, expo_d, expo_app, gN, gT, gS, gsNil, gsCons, tiW, tiT, tYesD, nev, Option.map_some, Bool.false_eq_true, if_true, if_false, decide_true, decide_false, List.map_cons, List.map_nil, List.length_cons, List.length_nil, List.replicate, List.cons_append, List.nil_append, List.getElem?_cons_zero, List.getElem?_cons_succ, List.set_cons_zero, List.set_cons_succ, is_coupling_v, fIx_pr0, fIx_pr1, fIn_last, setW_last, c1, g1, g2, k1, k2, s1, s2]
    · have hpos : (0 : Int) < j := by omega
      obtain ⟨i, rfl⟩ : ∃ i, j = i + 1 := ⟨j - 1, by omega⟩
      have hi : i < L.length := by omega
      have hlt : ltP L[i] p := by
        have e1 := (List.getElem?_eq_some_iff.mp hL).2
        rw [← e1]
        exact List.pairwise_iff_getElem.mp h.srt i (i + 1) hi hjl (Nat.lt_succ_self i)
      have hat : atI (L.map pr) (((i + 1 : Nat) : Int) - 1) = some (pr L[i]) := by
        rw [show ((i + 1 : Nat) : Int) - 1 = (i : Int) by omega, atI_nat _ _ (by rw [List.length_map]; exact hi), List.getElem?_map, List.getElem?_eq_getElem hi]
        rfl
      rw [show ((i + 1 : Nat) : Int) - 1 = (i : Int) by omega] at hat
      have hix2 : ∀ z : Store, fIx (.d (.list (L.map pr))) (.d (.int (i : Int))) z = .ok (.d (pr L[i])) z := fun z => fIx_l hat z
      have hpos2 : (0 : Int) < (i : Int) + 1 := by omega
      have hle : ∀ z : Store, fLe (.d (pr p)) (.d (pr L[i])) z = .ok (.d (.bool false)) z := fun z => by rw [fLe_pr, decide_eq_true hlt]; rfl
      simp [fnD, fin, ent, sq, skip, brk, cnt, drp, asg, ret, retN, ifS, par, asgG, asgT, Res.bind, Res.fl, bin, cst, vr, boo, tru, truW, tNotD, tAndD, tOrD, vAnd, vOr, vNot, vIf, vNeg, chn, aNil, aCons, cal, calC, calR, bcall, mth, lstD, lstC, tupD, dctC, fEqF_int, fEqT_int, fLt_int, fGt_int, fLe_int, fGe_int, fAdd_int, fSub_int, fIx_t0, fIx_t1, fLen_r, fLen_l, fLen_t, fAbs, fInt, fMax2, fMin2, fList, fListW, itmA, fTuple, itm, itmT, isiD, tyN, kitB, mkL, mkC, mkT, allD, allD_map, rdW_d, rdW_r, bind_ok, fl_ok, atI0, atI1, atI2, last_get, last_set, expo_d, expo_app, gN, gT, gS, gsNil, gsCons, tiW, tiT, tYesD, nev, Option.map_some, Bool.false_eq_true, if_true, if_false, decide_true, decide_false, List.map_cons, List.map_nil, List.length_cons, List.length_nil, List.replicate, List.cons_append, List.nil_append, List.getElem?_cons_zero, List.getElem?_cons_succ, List.set_cons_zero, List.set_cons_succ, is_coupling_v, fIx_pr0, fIx_pr1, fIn_last, setW_last, c1, g1, g2, k1, k2, s1, s2, hix2, hle, hpos2]) (fun _ _ _ => trivial)
  exact expo_app _ _ _
theorem fEqT_nil (st : Store) : fEq true (.d (.tuple [])) (.d (.tuple [])) st = .ok (.d (.bool false)) st := by
  simp [fEq, rdW_d, okEq, PyData.depth, PyData.depthAll, PyData.eqv, PyData.eqvAll]
theorem require_pieces_v {n : Int} (h : 1 ≤ n ∧ n ≤ 60) (st : Store) : CB.f_require_pieces [.d (.int n)] st = .ok (.d .none) st := by
  simp [CB.f_require_pieces, CB.d_require_pieces, fnD, fin, ent, sq, skip, brk, cnt, drp, asg, ret, retN, ifS, par, asgG, asgT, Res.bind, Res.fl, bin, cst, vr, boo, tru, truW, tNotD, tAndD, tOrD, vAnd, vOr, vNot, vIf, vNeg, chn, aNil, aCons, cal, calC, calR, bcall, mth, lstD, lstC, tupD, dctC, fEqF_int, fEqT_int, fLt_int, fGt_int, fLe_int, fGe_int, fAdd_int, fSub_int, fIx_t0, fIx_t1, fLen_r, fLen_l, fLen_t, fAbs, fInt, fMax2, fMin2, fList, fListW, itmA, fTuple, itm, itmT, isiD, tyN, kitB, mkL, mkC, mkT, allD, allD_map, rdW_d, rdW_r, bind_ok, fl_ok, atI0, atI1, atI2, last_get, last_set, expo_d, expo_app, gN, gT, gS, gsNil, gsCons, tiW, tiT, tYesD, nev, Option.map_some, Bool.false_eq_true, if_true, if_false, decide_true, decide_false, List.map_cons, List.map_nil, List.length_cons, List.length_nil, List.replicate, List.cons_append, List.nil_append, List.getElem?_cons_zero, List.getElem?_cons_succ, List.set_cons_zero, List.set_cons_succ, is_integer_v, h.1, h.2]
theorem require_layout_v {n : Int} {L : List (Int × Int)} (h : Lay n L) (st : Store) : CB.f_require_layout [.d (.int n), .d (.list (L.map pr))] st = .ok (.d .none) st := by
  simp [CB.f_require_layout, CB.d_require_layout, fnD, fin, ent, sq, skip, brk, cnt, drp, asg, ret, retN, ifS, par, asgG, asgT, Res.bind, Res.fl, bin, cst, vr, boo, tru, truW, tNotD, tAndD, tOrD, vAnd, vOr, vNot, vIf, vNeg, chn, aNil, aCons, cal, calC, calR, bcall, mth, lstD, lstC, tupD, dctC, fEqF_int, fEqT_int, fLt_int, fGt_int, fLe_int, fGe_int, fAdd_int, fSub_int, fIx_t0, fIx_t1, fLen_r, fLen_l, fLen_t, fAbs, fInt, fMax2, fMin2, fList, fListW, itmA, fTuple, itm, itmT, isiD, tyN, kitB, mkL, mkC, mkT, allD, allD_map, rdW_d, rdW_r, bind_ok, fl_ok, atI0, atI1, atI2, last_get, last_set, expo_d, expo_app, gN, gT, gS, gsNil, gsCons, tiW, tiT, tYesD, nev, Option.map_some, Bool.false_eq_true, if_true, if_false, decide_true, decide_false, List.map_cons, List.map_nil, List.length_cons, List.length_nil, List.replicate, List.cons_append, List.nil_append, List.getElem?_cons_zero, List.getElem?_cons_succ, List.set_cons_zero, List.set_cons_succ, layout_fault_v h, fEqT_nil]
theorem require_one_v {n : Int} {L : List (Int × Int)} (hn : 1 ≤ n ∧ n ≤ 60) (h : Lay n L) (st : Store) : CB.f_require_one [.d (.int n), .d (.list (L.map pr))] st = .ok (.d .none) st := by
  simp [CB.f_require_one, CB.d_require_one, fnD, fin, ent, sq, skip, brk, cnt, drp, asg, ret, retN, ifS, par, asgG, asgT, Res.bind, Res.fl, bin, cst, vr, boo, tru, truW, tNotD, tAndD, tOrD, vAnd, vOr, vNot, vIf, vNeg, chn, aNil, aCons, cal, calC, calR, bcall, mth, lstD, lstC, tupD, dctC, fEqF_int, fEqT_int, fLt_int, fGt_int, fLe_int, fGe_int, fAdd_int, fSub_int, fIx_t0, fIx_t1, fLen_r, fLen_l, fLen_t, fAbs, fInt, fMax2, fMin2, fList, fListW, itmA, fTuple, itm, itmT, isiD, tyN, kitB, mkL, mkC, mkT, allD, allD_map, rdW_d, rdW_r, bind_ok, fl_ok, atI0, atI1, atI2, last_get, last_set, expo_d, expo_app, gN, gT, gS, gsNil, gsCons, tiW, tiT, tYesD, nev, Option.map_some, Bool.false_eq_true, if_true, if_false, decide_true, decide_false, List.map_cons, List.map_nil, List.length_cons, List.length_nil, List.replicate, List.cons_append, List.nil_append, List.getElem?_cons_zero, List.getElem?_cons_succ, List.set_cons_zero, List.set_cons_succ, require_layout_v h, require_pieces_v hn]
theorem require_end_v {n e : Int} (h : isEnd n e = true) (st : Store) : CB.f_require_end [.d (.int n), .d (.int e)] st = .ok (.d .none) st := by
  simp [CB.f_require_end, CB.d_require_end, fnD, fin, ent, sq, skip, brk, cnt, drp, asg, ret, retN, ifS, par, asgG, asgT, Res.bind, Res.fl, bin, cst, vr, boo, tru, truW, tNotD, tAndD, tOrD, vAnd, vOr, vNot, vIf, vNeg, chn, aNil, aCons, cal, calC, calR, bcall, mth, lstD, lstC, tupD, dctC, fEqF_int, fEqT_int, fLt_int, fGt_int, fLe_int, fGe_int, fAdd_int, fSub_int, fIx_t0, fIx_t1, fLen_r, fLen_l, fLen_t, fAbs, fInt, fMax2, fMin2, fList, fListW, itmA, fTuple, itm, itmT, isiD, tyN, kitB, mkL, mkC, mkT, allD, allD_map, rdW_d, rdW_r, bind_ok, fl_ok, atI0, atI1, atI2, last_get, last_set, expo_d, expo_app, gN, gT, gS, gsNil, gsCons, tiW, tiT, tYesD, nev, Option.map_some, Bool.false_eq_true, if_true, if_false, decide_true, decide_false, List.map_cons, List.map_nil, List.length_cons, List.length_nil, List.replicate, List.cons_append, List.nil_append, List.getElem?_cons_zero, List.getElem?_cons_succ, List.set_cons_zero, List.set_cons_succ, is_end_v, h]
/-! ### the ends -/
def rng (lo : Int) (k : Nat) : List Int := (List.range k).map fun (i : Nat) => lo + (i : Int)
def iI (v : Int) : Itm := .w (.d (.int v))
theorem rngI_eq (lo : Int) (k : Nat) : rngI lo k = (rng lo k).map iI := by
  unfold rngI rng
  rw [List.map_map]
  rfl
def endsN (n : Int) : List Int := (rng (-n) (2 * n + 1).toNat).filter fun v => decide (v ≠ 0)
theorem ends_of_v {n : Int} (h : 1 ≤ n ∧ n ≤ 60) (st : Store) : CB.f_ends_of [.d (.int n)] st = .ok (.d (.list ((endsN n).map .int))) st := by
  have e : lcD (iRg2 (aCons (vNeg (vr 0)) (aCons (bin fAdd (vr 0) (cst (.int 1))) aNil))) (tiW (gN 1)) (boo (bin (fEq true) (vr 1) (cst (.int 0)))) (vr 1) [1] [some (.d (.int n)), none] st = .ok (.d (.list ((endsN n).map .int))) st := by
    refine lcD_v (ys := rng (-n) (2 * n + 1).toNat) (chk := none) iI (fun v => decide (v ≠ 0)) .int ?_ trivial ?_ ?_
    · have h2 : -(2 ^ 62) ≤ -n ∧ -n < 2 ^ 62 ∧ -(2 ^ 62) ≤ n + 1 ∧ n + 1 < 2 ^ 62 := by omega
      simp only [iRg2, fnD, fin, ent, sq, skip, brk, cnt, drp, asg, ret, retN, ifS, par, asgG, asgT, Res.bind, Res.fl, bin, cst, vr, boo, tru, truW, tNotD, tAndD, tOrD, vAnd, vOr, vNot, vIf, vNeg, chn, aNil, aCons, cal, calC, calR, bcall, mth, lstD, lstC, tupD, dctC, fEqF_int, fEqT_int, fLt_int, fGt_int, fLe_int, fGe_int, fAdd_int, fSub_int, fIx_t0, fIx_t1, fLen_r, fLen_l, fLen_t, fAbs, fInt, fMax2, fMin2, fList, fListW, itmA, fTuple, itm, itmT, isiD, tyN, kitB, mkL, mkC, mkT, allD, allD_map, rdW_d, rdW_r, bind_ok, fl_ok, atI0, atI1, atI2, last_get, last_set, expo_d, expo_app, gN, gT, gS, gsNil, gsCons, tiW, tiT, tYesD, nev, Option.map_some, Bool.false_eq_true, if_true, if_false, decide_true, decide_false, List.map_cons, List.map_nil, List.length_cons, List.length_nil, List.replicate, List.cons_append, List.nil_append, List.getElem?_cons_zero, List.getElem?_cons_succ, List.set_cons_zero, List.set_cons_succ]
      rw [if_pos h2, rngI_eq, show (n + 1 - -n) = 2 * n + 1 by omega]
    · simp only [rng, List.length_map, List.length_range]
      have q : (2 * n + 1).toNat ≤ 121 := by omega
      exact Nat.le_trans q (by decide)
    · intro v hv S _
      refine ⟨[some (.d (.int n)), some (.d (.int v))], [], rfl, ?_, fun _ => ⟨[], ?_⟩⟩
      · simp [fnD, fin, ent, sq, skip, brk, cnt, drp, asg, ret, retN, ifS, par, asgG, asgT, Res.bind, Res.fl, bin, cst, vr, boo, tru, truW, tNotD, tAndD, tOrD, vAnd, vOr, vNot, vIf, vNeg, chn, aNil, aCons, cal, calC, calR, bcall, mth, lstD, lstC, tupD, dctC, fEqF_int, fEqT_int, fLt_int, fGt_int, fLe_int, fGe_int, fAdd_int, fSub_int, fIx_t0, fIx_t1, fLen_r, fLen_l, fLen_t, fAbs, fInt, fMax2, fMin2, fList, fListW, itmA, fTuple, itm, itmT, isiD, tyN, kitB, mkL, mkC, mkT, allD, allD_map, rdW_d, rdW_r, bind_ok, fl_ok, atI0, atI1, atI2, last_get, last_set, expo_d, expo_app, gN, gT, gS, gsNil, gsCons, tiW, tiT, tYesD, nev, Option.map_some, Bool.false_eq_true, if_true, if_false, decide_true, decide_false, List.map_cons, List.map_nil, List.length_cons, List.length_nil, List.replicate, List.cons_append, List.nil_append, List.getElem?_cons_zero, List.getElem?_cons_succ, List.set_cons_zero, List.set_cons_succ]
      · simp [fnD, fin, ent, sq, skip, brk, cnt, drp, asg, ret, retN, ifS, par, asgG, asgT, Res.bind, Res.fl, bin, cst, vr, boo, tru, truW, tNotD, tAndD, tOrD, vAnd, vOr, vNot, vIf, vNeg, chn, aNil, aCons, cal, calC, calR, bcall, mth, lstD, lstC, tupD, dctC, fEqF_int, fEqT_int, fLt_int, fGt_int, fLe_int, fGe_int, fAdd_int, fSub_int, fIx_t0, fIx_t1, fLen_r, fLen_l, fLen_t, fAbs, fInt, fMax2, fMin2, fList, fListW, itmA, fTuple, itm, itmT, isiD, tyN, kitB, mkL, mkC, mkT, allD, allD_map, rdW_d, rdW_r, bind_ok, fl_ok, atI0, atI1, atI2, last_get, last_set, expo_d, expo_app, gN, gT, gS, gsNil, gsCons, tiW, tiT, tYesD, nev, Option.map_some, Bool.false_eq_true, if_true, if_false, decide_true, decide_false, List.map_cons, List.map_nil, List.length_cons, List.length_nil, List.replicate, List.cons_append, List.nil_append, List.getElem?_cons_zero, List.getElem?_cons_succ, List.set_cons_zero, List.set_cons_succ]
  simp [CB.f_ends_of, CB.d_ends_of, fnD, fin, ent, sq, skip, brk, cnt, drp, asg, ret, retN, ifS, par, asgG, asgT, Res.bind, Res.fl, bin, cst, vr, boo, tru, truW, tNotD, tAndD, tOrD, vAnd, vOr, vNot, vIf, vNeg, chn, aNil, aCons, cal, calC, calR, bcall, mth, lstD, lstC, tupD, dctC, fEqF_int, fEqT_int, fLt_int, fGt_int, fLe_int, fGe_int, fAdd_int, fSub_int, fIx_t0, fIx_t1, fLen_r, fLen_l, fLen_t, fAbs, fInt, fMax2, fMin2, fList, fListW, itmA, fTuple, itm, itmT, isiD, tyN, kitB, mkL, mkC, mkT, allD, allD_map, rdW_d, rdW_r, bind_ok, fl_ok, atI0, atI1, atI2, last_get, last_set, expo_d, expo_app, gN, gT, gS, gsNil, gsCons, tiW, tiT, tYesD, nev, Option.map_some, Bool.false_eq_true, if_true, if_false, decide_true, decide_false, List.map_cons, List.map_nil, List.length_cons, List.length_nil, List.replicate, List.cons_append, List.nil_append, List.getElem?_cons_zero, List.getElem?_cons_succ, List.set_cons_zero, List.set_cons_succ, e]
end VS

set_option Elab.async false
set_option linter.all false
set_option maxRecDepth 100000
set_option maxHeartbeats 1000000
/-! VC3: partners, taps. -/
namespace VS
open PySem PySem.Spec PyProof.Rows L2
def partK (L : List (Int × Int)) : List (Key × W) := L.flatMap fun p => [(.inl p.1, .d (.int p.2)), (.inl p.2, .d (.int p.1))]
theorem partK_snoc (L : List (Int × Int)) (p : Int × Int) : partK (L ++ [p]) = partK L ++ [(.inl p.1, .d (.int p.2)), (.inl p.2, .d (.int p.1))] := by simp [partK]
theorem partK_key : ∀ {L : List (Int × Int)} {e : Int}, e ∉ endsOf L → ∀ kv ∈ partK L, kv.1 ≠ .inl e := by
  intro L e h kv hk q
  unfold partK at hk
  rw [List.mem_flatMap] at hk
  obtain ⟨p, hp, hk⟩ := hk
  apply h
  unfold endsOf
  rw [List.mem_flatMap]
  refine ⟨p, hp, ?_⟩
  simp only [List.mem_cons, List.not_mem_nil, or_false] at hk ⊢
  rcases hk with rfl | rfl
  · exact .inl (Sum.inl.inj q).symm
  · exact .inr (Sum.inl.inj q).symm
theorem partK_len (L : List (Int × Int)) : (partK L).length = 2 * L.length := by
  induction L with
  | nil => rfl
  | cons p L ih => simp only [partK, List.flatMap_cons, List.length_append, List.length_cons, List.length_nil] at ih ⊢; omega
theorem partK_d (L : List (Int × Int)) : dOnly (.dct (partK L)) = true := by
  unfold dOnly
  induction L with
  | nil => rfl
  | cons p L ih =>
    have e : (partK (p :: L)).map (·.2) = .d (.int p.2) :: .d (.int p.1) :: (partK L).map (·.2) := rfl
    show (allD ((partK (p :: L)).map (·.2))).isSome = true
    rw [e]
    simp only [allD]
    cases h : allD ((partK L).map (·.2)) with
    | none =>
      have ih' : (allD ((partK L).map (·.2))).isSome = true := ih
      rw [h] at ih'
      cases ih'
    | some x => rfl
/-- one step of the two loops -/
theorem part_step {n : Int} {L : List (Int × Int)} (h : Lay n L) {j : Nat} {p : Int × Int} (hL : L[j]? = some p) :
    kput (partK (L.take j)) (.inl p.1) (.d (.int p.2)) = partK (L.take j) ++ [(.inl p.1, .d (.int p.2))] ∧ kput (partK (L.take j) ++ [(.inl p.1, .d (.int p.2))]) (.inl p.2) (.d (.int p.1)) = partK (L.take (j + 1)) ∧ (partK (L.take j)).length < sizeLine ∧ (partK (L.take j)).length + 1 < sizeLine := by
  have hn := endsOf_nd h.nd (j + 1)
  rw [endsOf_take hL, List.nodup_append] at hn
  obtain ⟨_, hn2, hn3⟩ := hn
  have ne12 : p.1 ≠ p.2 := by
    intro e
    rw [e] at hn2
    simp at hn2
  have n1 : p.1 ∉ endsOf (L.take j) := fun q => hn3 _ q p.1 (by simp) rfl
  have n2 : p.2 ∉ endsOf (L.take j) := fun q => hn3 _ q p.2 (by simp) rfl
  have l1 : (partK (L.take j)).length ≤ 200000 := by
    have h1 := h.len
    rw [partK_len, List.length_take]
    omega
  refine ⟨kput_new (partK_key n1), ?_, Nat.lt_of_le_of_lt l1 (by decide), Nat.lt_of_le_of_lt (Nat.succ_le_succ l1) (by decide)⟩
  rw [kput_new fun kv hk => ?_]
  · rw [List.take_add_one, hL]
    show _ = partK (L.take j ++ [p])
    rw [partK_snoc]
    simp
  · rcases List.mem_append.mp hk with q | q
    · exact partK_key n2 kv q
    · rw [List.mem_singleton.mp q]
      exact fun e => ne12 (Sum.inl.inj e)
theorem itL_pr {L : List (Int × Int)} {j : Nat} {y : Itm} (hj : (itL (L.map (W.d ∘ pr)))[j]? = some y) : ∃ p, L[j]? = some p ∧ y = .w (.d (pr p)) := by
  obtain ⟨w, hw, rfl⟩ := itL_get hj
  rw [List.getElem?_map] at hw
  cases hL : L[j]? with
  | none => rw [hL] at hw; cases hw
  | some p =>
    rw [hL] at hw
    cases hw
    exact ⟨p, rfl, rfl⟩
theorem couples_v {n : Int} {L : List (Int × Int)} (h : Lay n L) (st : Store) : CB.f_couples [.d (.list (L.map pr))] st = .ok (.c st.length) (st ++ [.dct (partK L)]) := by
  simp [CB.f_couples, CB.d_couples, fnD, fin, ent, sq, skip, brk, cnt, drp, asg, ret, retN, ifS, par, asgG, asgT, Res.bind, Res.fl, bin, cst, vr, boo, tru, truW, tNotD, tAndD, tOrD, vAnd, vOr, vNot, vIf, vNeg, chn, aNil, aCons, cal, calC, calR, bcall, mth, lstD, lstC, tupD, dctC, fEqF_int, fEqT_int, fLt_int, fGt_int, fLe_int, fGe_int, fAdd_int, fSub_int, fIx_t0, fIx_t1, fLen_r, fLen_l, fLen_t, fAbs, fInt, fMax2, fMin2, fList, fListW, itmA, fTuple, itm, itmT, isiD, tyN, kitB, mkL, mkC, mkT, allD, allD_map, rdW_d, rdW_r, bind_ok, fl_ok, atI0, atI1, atI2, last_get, last_set, expo_d, expo_app, gN, gT, gS, gsNil, gsCons, tiW, tiT, tYesD, nev, Option.map_some, Bool.false_eq_true, if_true, if_false, decide_true, decide_false, List.map_cons, List.map_nil, List.length_cons, List.length_nil, List.replicate, List.cons_append, List.nil_append, List.getElem?_cons_zero, List.getElem?_cons_succ, List.set_cons_zero, List.set_cons_succ, iSeq, forS]
  generalize hr : forL _ _ _ _ _ _ = r
  obtain ⟨env', st', rfl, a, b, rfl, rfl⟩ := forL_g hr (fun k env st' => ∃ a b, env = [some (.d (.list (L.map pr))), some (.c st.length), a, b] ∧ st' = st ++ [.dct (partK (L.take k))]) ⟨none, none, rfl, rfl⟩ (fun j y env st2 hj hp => by
    obtain ⟨a, b, rfl, rfl⟩ := hp
    obtain ⟨p, hL, rfl⟩ := itL_pr hj
    obtain ⟨k1, k2, s1, s2⟩ := part_step h hL
    generalize partK (L.take j) = U at k1 k2 s1 s2 ⊢
    generalize partK (L.take (j + 1)) = U' at k1 k2 ⊢
    refine ⟨trivial, [some (.d (.list (L.map pr))), some (.c st.length), some (.d (.int p.1)), some (.d (.int p.2))], st ++ [.dct U], [some (.d (.list (L.map pr))), some (.c st.length), some (.d (.int p.1)), some (.d (.int p.2))], st ++ [.dct U'], ?_, ?_, ⟨_, _, rfl, rfl⟩⟩
    · simp [fnD, fin, ent, sq, skip, brk, cnt, drp, asg, ret, retN, ifS, par, asgG, asgT, Res.bind, Res.fl, bin, cst, vr, boo, tru, truW, tNotD, tAndD, tOrD, vAnd, vOr, vNot, vIf, vNeg, chn, aNil, aCons, cal, calC, calR, bcall, mth, lstD, lstC, tupD, dctC, fEqF_int, fEqT_int, fLt_int, fGt_int, fLe_int, fGe_int, fAdd_int, fSub_int, fIx_t0, fIx_t1, fLen_r, fLen_l, fLen_t, fAbs, fInt, fMax2, fMin2, fList, fListW, itmA, fTuple, itm, itmT, isiD, tyN, kitB, mkL, mkC, mkT, allD, allD_map, rdW_d, rdW_r, bind_ok, fl_ok, atI0, atI1, atI2, last_get, last_set, expo_d, expo_app, gN, gT, gS, gsNil, gsCons, tiW, tiT, tYesD, nev, Option.map_some, Bool.false_eq_true, if_true, if_false, decide_true, decide_false, List.map_cons, List.map_nil, List.length_cons, List.length_nil, List.replicate, List.cons_append, List.nil_append, List.getElem?_cons_zero, List.getElem?_cons_succ, List.set_cons_zero, List.set_cons_succ, pr]
    · simp [fnD, fin, ent, sq, skip, brk, cnt, drp, asg, ret, retN, ifS, par, asgG, asgT, Res.bind, Res.fl, bin, cst, vr, boo, tru, truW, tNotD, tAndD, tOrD, vAnd, vOr, vNot, vIf, vNeg, chn, aNil, aCons, cal, calC, calR, bcall, mth, lstD, lstC, tupD, dctC, fEqF_int, fEqT_int, fLt_int, fGt_int, fLe_int, fGe_int, fAdd_int, fSub_int, fIx_t0, fIx_t1, fLen_r, fLen_l, fLen_t, fAbs, fInt, fMax2, fMin2, fList, fListW, itmA, fTuple, itm, itmT, isiD, tyN, kitB, mkL, mkC, mkT, allD, allD_map, rdW_d, rdW_r, bind_ok, fl_ok, atI0, atI1, atI2, last_get, last_set, expo_d, expo_app, gN, gT, gS, gsNil, gsCons, tiW, tiT, tYesD, nev, Option.map_some, Bool.false_eq_true, if_true, if_false, decide_true, decide_false, List.map_cons, List.map_nil, List.length_cons, List.length_nil, List.replicate, List.cons_append, List.nil_append, List.getElem?_cons_zero, List.getElem?_cons_succ, List.set_cons_zero, List.set_cons_succ, setW_last, k1, k2, s1, s2]) (fun _ _ _ => trivial)
  have e : (itL (L.map (W.d ∘ pr))).length = L.length := by simp [itL]
  simp [e]
theorem law_partners_v {n : Int} {L : List (Int × Int)} (h : Lay n L) (st : Store) : CB.f_law_partners [.d (.list (L.map pr))] st = .ok (.c st.length) (st ++ [.dct (partK L)]) := by
  simp [CB.f_law_partners, CB.d_law_partners, fnD, fin, ent, sq, skip, brk, cnt, drp, asg, ret, retN, ifS, par, asgG, asgT, Res.bind, Res.fl, bin, cst, vr, boo, tru, truW, tNotD, tAndD, tOrD, vAnd, vOr, vNot, vIf, vNeg, chn, aNil, aCons, cal, calC, calR, bcall, mth, lstD, lstC, tupD, dctC, fEqF_int, fEqT_int, fLt_int, fGt_int, fLe_int, fGe_int, fAdd_int, fSub_int, fIx_t0, fIx_t1, fLen_r, fLen_l, fLen_t, fAbs, fInt, fMax2, fMin2, fList, fListW, itmA, fTuple, itm, itmT, isiD, tyN, kitB, mkL, mkC, mkT, allD, allD_map, rdW_d, rdW_r, bind_ok, fl_ok, atI0, atI1, atI2, last_get, last_set, expo_d, expo_app, gN, gT, gS, gsNil, gsCons, tiW, tiT, tYesD, nev, Option.map_some, Bool.false_eq_true, if_true, if_false, decide_true, decide_false, List.map_cons, List.map_nil, List.length_cons, List.length_nil, List.replicate, List.cons_append, List.nil_append, List.getElem?_cons_zero, List.getElem?_cons_succ, List.set_cons_zero, List.set_cons_succ, iSeq, forS]
  generalize hr : forL _ _ _ _ _ _ = r
  obtain ⟨env', st', rfl, a, b, rfl, rfl⟩ := forL_g hr (fun k env st' => ∃ a b, env = [some (.d (.list (L.map pr))), some (.c st.length), a, b] ∧ st' = st ++ [.dct (partK (L.take k))]) ⟨none, none, rfl, rfl⟩ (fun j y env st2 hj hp => by
    obtain ⟨a, b, rfl, rfl⟩ := hp
    obtain ⟨p, hL, rfl⟩ := itL_pr hj
    obtain ⟨k1, k2, s1, s2⟩ := part_step h hL
    generalize partK (L.take j) = U at k1 k2 s1 s2 ⊢
    generalize partK (L.take (j + 1)) = U' at k1 k2 ⊢
    refine ⟨trivial, [some (.d (.list (L.map pr))), some (.c st.length), some (.d (.int p.1)), some (.d (.int p.2))], st ++ [.dct U], [some (.d (.list (L.map pr))), some (.c st.length), some (.d (.int p.1)), some (.d (.int p.2))], st ++ [.dct U'], ?_, ?_, ⟨_, _, rfl, rfl⟩⟩
    · simp [fnD, fin, ent, sq, skip, brk, cnt, drp, asg, ret, retN, ifS, par, asgG, asgT, Res.bind, Res.fl, bin, cst, vr, boo, tru, truW, tNotD, tAndD, tOrD, vAnd, vOr, vNot, vIf, vNeg, chn, aNil, aCons, cal, calC, calR, bcall, mth, lstD, lstC, tupD, dctC, fEqF_int, fEqT_int, fLt_int, fGt_int, fLe_int, fGe_int, fAdd_int, fSub_int, fIx_t0, fIx_t1, fLen_r, fLen_l, fLen_t, fAbs, fInt, fMax2, fMin2, fList, fListW, itmA, fTuple, itm, itmT, isiD, tyN, kitB, mkL, mkC, mkT, allD, allD_map, rdW_d, rdW_r, bind_ok, fl_ok, atI0, atI1, atI2, last_get, last_set, expo_d, expo_app, gN, gT, gS, gsNil, gsCons, tiW, tiT, tYesD, nev, Option.map_some, Bool.false_eq_true, if_true, if_false, decide_true, decide_false, List.map_cons, List.map_nil, List.length_cons, List.length_nil, List.replicate, List.cons_append, List.nil_append, List.getElem?_cons_zero, List.getElem?_cons_succ, List.set_cons_zero, List.set_cons_succ, pr]
    · simp [fnD, fin, ent, sq, skip, brk, cnt, drp, asg, ret, retN, ifS, par, asgG, asgT, Res.bind, Res.fl, bin, cst, vr, boo, tru, truW, tNotD, tAndD, tOrD, vAnd, vOr, vNot, vIf, vNeg, chn, aNil, aCons, cal, calC, calR, bcall, mth, lstD, lstC, tupD, dctC, fEqF_int, fEqT_int, fLt_int, fGt_int, fLe_int, fGe_int, fAdd_int, fSub_int, fIx_t0, fIx_t1, fLen_r, fLen_l, fLen_t, fAbs, fInt, fMax2, fMin2, fList, fListW, itmA, fTuple, itm, itmT, isiD, tyN, kitB, mkL, mkC, mkT, allD, allD_map, rdW_d, rdW_r, bind_ok, fl_ok, atI0, atI1, atI2, last_get, last_set, expo_d, expo_app, gN, gT, gS, gsNil, gsCons, tiW, tiT, tYesD, nev, Option.map_some, Bool.false_eq_true, if_true, if_false, decide_true, decide_false, List.map_cons, List.map_nil, List.length_cons, List.length_nil, List.replicate, List.cons_append, List.nil_append, List.getElem?_cons_zero, List.getElem?_cons_succ, List.set_cons_zero, List.set_cons_succ, setW_last, k1, k2, s1, s2]) (fun _ _ _ => trivial)
  have e : (itL (L.map (W.d ∘ pr))).length = L.length := by simp [itL]
  simp [e]
theorem law_ends_v {n : Int} (h : 1 ≤ n ∧ n ≤ 60) (st : Store) : CB.f_law_ends [.d (.int n)] st = .ok (.c st.length) (st ++ [.lst (((endsN n).map .int).map W.d)]) := by
  have e : lcC (iRg2 (aCons (bin fSub (cst (.int 0)) (vr 0)) (aCons (bin fAdd (vr 0) (cst (.int 1))) aNil))) (tiW (gN 1)) (boo (bin (fEq true) (vr 1) (cst (.int 0)))) (vr 1) [1] [some (.d (.int n)), none] st = .ok (.c st.length) (st ++ [.lst (((endsN n).map .int).map W.d)]) := by
    refine lcC_v (ys := rng (-n) (2 * n + 1).toNat) (chk := none) iI (fun v => decide (v ≠ 0)) .int ?_ trivial ?_ ?_
    · have h2 : -(2 ^ 62) ≤ 0 - n ∧ 0 - n < 2 ^ 62 ∧ -(2 ^ 62) ≤ n + 1 ∧ n + 1 < 2 ^ 62 := by omega
      simp only [iRg2, fnD, fin, ent, sq, skip, brk, cnt, drp, asg, ret, retN, ifS, par, asgG, asgT, Res.bind, Res.fl, bin, cst, vr, boo, tru, truW, tNotD, tAndD, tOrD, vAnd, vOr, vNot, vIf, vNeg, chn, aNil, aCons, cal, calC, calR, bcall, mth, lstD, lstC, tupD, dctC, fEqF_int, fEqT_int, fLt_int, fGt_int, fLe_int, fGe_int, fAdd_int, fSub_int, fIx_t0, fIx_t1, fLen_r, fLen_l, fLen_t, fAbs, fInt, fMax2, fMin2, fList, fListW, itmA, fTuple, itm, itmT, isiD, tyN, kitB, mkL, mkC, mkT, allD, allD_map, rdW_d, rdW_r, bind_ok, fl_ok, atI0, atI1, atI2, last_get, last_set, expo_d, expo_app, gN, gT, gS, gsNil, gsCons, tiW, tiT, tYesD, nev, Option.map_some, Bool.false_eq_true, if_true, if_false, decide_true, decide_false, List.map_cons, List.map_nil, List.length_cons, List.length_nil, List.replicate, List.cons_append, List.nil_append, List.getElem?_cons_zero, List.getElem?_cons_succ, List.set_cons_zero, List.set_cons_succ]
      rw [if_pos h2, rngI_eq, show (n + 1 - (0 - n)) = 2 * n + 1 by omega, show 0 - n = -n by omega]
    · simp only [rng, List.length_map, List.length_range]
      have q : (2 * n + 1).toNat ≤ 121 := by omega
      exact Nat.le_trans q (by decide)
    · intro v hv S _
      refine ⟨[some (.d (.int n)), some (.d (.int v))], [], rfl, ?_, fun _ => ⟨[], ?_⟩⟩
      · simp [fnD, fin, ent, sq, skip, brk, cnt, drp, asg, ret, retN, ifS, par, asgG, asgT, Res.bind, Res.fl, bin, cst, vr, boo, tru, truW, tNotD, tAndD, tOrD, vAnd, vOr, vNot, vIf, vNeg, chn, aNil, aCons, cal, calC, calR, bcall, mth, lstD, lstC, tupD, dctC, fEqF_int, fEqT_int, fLt_int, fGt_int, fLe_int, fGe_int, fAdd_int, fSub_int, fIx_t0, fIx_t1, fLen_r, fLen_l, fLen_t, fAbs, fInt, fMax2, fMin2, fList, fListW, itmA, fTuple, itm, itmT, isiD, tyN, kitB, mkL, mkC, mkT, allD, allD_map, rdW_d, rdW_r, bind_ok, fl_ok, atI0, atI1, atI2, last_get, last_set, expo_d, expo_app, gN, gT, gS, gsNil, gsCons, tiW, tiT, tYesD, nev, Option.map_some, Bool.false_eq_true, if_true, if_false, decide_true, decide_false, List.map_cons, List.map_nil, List.length_cons, List.length_nil, List.replicate, List.cons_append, List.nil_append, List.getElem?_cons_zero, List.getElem?_cons_succ, List.set_cons_zero, List.set_cons_succ]
      · simp [fnD, fin, ent, sq, skip, brk, cnt, drp, asg, ret, retN, ifS, par, asgG, asgT, Res.bind, Res.fl, bin, cst, vr, boo, tru, truW, tNotD, tAndD, tOrD, vAnd, vOr, vNot, vIf, vNeg, chn, aNil, aCons, cal, calC, calR, bcall, mth, lstD, lstC, tupD, dctC, fEqF_int, fEqT_int, fLt_int, fGt_int, fLe_int, fGe_int, fAdd_int, fSub_int, fIx_t0, fIx_t1, fLen_r, fLen_l, fLen_t, fAbs, fInt, fMax2, fMin2, fList, fListW, itmA, fTuple, itm, itmT, isiD, tyN, kitB, mkL, mkC, mkT, allD, allD_map, rdW_d, rdW_r, bind_ok, fl_ok, atI0, atI1, atI2, last_get, last_set, expo_d, expo_app, gN, gT, gS, gsNil, gsCons, tiW, tiT, tYesD, nev, Option.map_some, Bool.false_eq_true, if_true, if_false, decide_true, decide_false, List.map_cons, List.map_nil, List.length_cons, List.length_nil, List.replicate, List.cons_append, List.nil_append, List.getElem?_cons_zero, List.getElem?_cons_succ, List.set_cons_zero, List.set_cons_succ]
  simp only [CB.f_law_ends, CB.d_law_ends, fnD, fin, ent, sq, skip, brk, cnt, drp, asg, ret, retN, ifS, par, asgG, asgT, Res.bind, Res.fl, bin, cst, vr, boo, tru, truW, tNotD, tAndD, tOrD, vAnd, vOr, vNot, vIf, vNeg, chn, aNil, aCons, cal, calC, calR, bcall, mth, lstD, lstC, tupD, dctC, fEqF_int, fEqT_int, fLt_int, fGt_int, fLe_int, fGe_int, fAdd_int, fSub_int, fIx_t0, fIx_t1, fLen_r, fLen_l, fLen_t, fAbs, fInt, fMax2, fMin2, fList, fListW, itmA, fTuple, itm, itmT, isiD, tyN, kitB, mkL, mkC, mkT, allD, allD_map, rdW_d, rdW_r, bind_ok, fl_ok, atI0, atI1, atI2, last_get, last_set, expo_d, expo_app, gN, gT, gS, gsNil, gsCons, tiW, tiT, tYesD, nev, Option.map_some, Bool.false_eq_true, if_true, if_false, decide_true, decide_false, List.map_cons, List.map_nil, List.length_cons, List.length_nil, List.replicate, List.cons_append, List.nil_append, List.getElem?_cons_zero, List.getElem?_cons_succ, List.set_cons_zero, List.set_cons_succ, e]
theorem law_pair_v (i j : Int) (st : Store) : CB.f_law_pair [.d (.int i), .d (.int j)] st = .ok (.d (pr (if j < i then j else i, if j > i then j else i))) st := by
  simp [CB.f_law_pair, CB.d_law_pair, fnD, fin, ent, sq, skip, brk, cnt, drp, asg, ret, retN, ifS, par, asgG, asgT, Res.bind, Res.fl, bin, cst, vr, boo, tru, truW, tNotD, tAndD, tOrD, vAnd, vOr, vNot, vIf, vNeg, chn, aNil, aCons, cal, calC, calR, bcall, mth, lstD, lstC, tupD, dctC, fEqF_int, fEqT_int, fLt_int, fGt_int, fLe_int, fGe_int, fAdd_int, fSub_int, fIx_t0, fIx_t1, fLen_r, fLen_l, fLen_t, fAbs, fInt, fMax2, fMin2, fList, fListW, itmA, fTuple, itm, itmT, isiD, tyN, kitB, mkL, mkC, mkT, allD, allD_map, rdW_d, rdW_r, bind_ok, fl_ok, atI0, atI1, atI2, last_get, last_set, expo_d, expo_app, gN, gT, gS, gsNil, gsCons, tiW, tiT, tYesD, nev, Option.map_some, Bool.false_eq_true, if_true, if_false, decide_true, decide_false, List.map_cons, List.map_nil, List.length_cons, List.length_nil, List.replicate, List.cons_append, List.nil_append, List.getElem?_cons_zero, List.getElem?_cons_succ, List.set_cons_zero, List.set_cons_succ, pr]
end VS

set_option Elab.async false
set_option linter.all false
set_option maxRecDepth 100000
set_option maxHeartbeats 1000000
/-! VC4: taps. -/
namespace VS
open PySem PySem.Spec PyProof.Rows L2
def tapC (a b c : Int) : Cell := .lst [.d (.int a), .d (.int b), .d (.int c)]
def tapOk (a b c : Int) : Prop := 0 ≤ a ∧ (0 ≤ b ∧ b < 2 ^ 40) ∧ (0 ≤ c ∧ c < 2 ^ 40)
/-- a tap's cell -/
def IsTap (x : Cell) : Prop := ∃ a b c, x = tapC a b c ∧ tapOk a b c
theorem IsTap.dOnly {x : Cell} (h : IsTap x) : dOnly x = true := by
  obtain ⟨a, b, c, rfl, _⟩ := h
  rfl
theorem law_tap_v (i k : Int) (hk : 0 ≤ k ∧ k < 1000000) (st : Store) : ∃ x, IsTap x ∧ CB.f_law_tap [.d (.int i), .d (.int k)] st = .ok (.c st.length) (st ++ [x]) := by
  have m1 : ∀ (j : Int) (st : Store), fMul (.d (.int 2)) (.d (.int j)) st = .ok (.d (.int (2 * j))) st := fun j st => fMul_int (okMul_l (by decide)) st
  have m2 : ∀ (j : Int) (st : Store), fMul (.d (.int 977)) (.d (.int j)) st = .ok (.d (.int (977 * j))) st := fun j st => fMul_int (okMul_l (by decide)) st
  have m3 : ∀ (j : Int) (st : Store), fMul (.d (.int 31)) (.d (.int j)) st = .ok (.d (.int (31 * j))) st := fun j st => fMul_int (okMul_l (by decide)) st
  have d1 : ∀ (j : Int) (st : Store), fMod (.d (.int j)) (.d (.int 4294967291)) st = .ok (.d (.int (j % 4294967291))) st := fun j st => fMod_int (by decide) st
  have d2 : ∀ (j : Int) (st : Store), fMod (.d (.int j)) (.d (.int 2147483587)) st = .ok (.d (.int (j % 2147483587))) st := fun j st => fMod_int (by decide) st
  generalize hw : (2 * (if i < 0 then -i else i) + (if i < 0 then 1 else 0) : Int) = w
  have w0 : 0 ≤ w := by
    rw [← hw]
    split <;> omega
  refine ⟨tapC w (w % 4294967291 + 977 * k + 1) (w % 2147483587 + 31 * k + 2), ⟨_, _, _, rfl, w0, ?_, ?_⟩, ?_⟩
  · omega
  · omega
  · simp [CB.f_law_tap, CB.d_law_tap, fnD, fin, ent, sq, skip, brk, cnt, drp, asg, ret, retN, ifS, par, asgG, asgT, Res.bind, Res.fl, bin, cst, vr, boo, tru, truW, tNotD, tAndD, tOrD, vAnd, vOr, vNot, vIf, vNeg, chn, aNil, aCons, cal, calC, calR, bcall, mth, lstD, lstC, tupD, dctC, fEqF_int, fEqT_int, fLt_int, fGt_int, fLe_int, fGe_int, fAdd_int, fSub_int, fIx_t0, fIx_t1, fLen_r, fLen_l, fLen_t, fAbs, fInt, fMax2, fMin2, fList, fListW, itmA, fTuple, itm, itmT, isiD, tyN, kitB, mkL, mkC, mkT, allD, allD_map, rdW_d, rdW_r, bind_ok, fl_ok, atI0, atI1, atI2, last_get, last_set, expo_d, expo_app, gN, gT, gS, gsNil, gsCons, tiW, tiT, tYesD, nev, Option.map_some, Bool.false_eq_true, if_true, if_false, decide_true, decide_false, List.map_cons, List.map_nil, List.length_cons, List.length_nil, List.replicate, List.cons_append, List.nil_append, List.getElem?_cons_zero, List.getElem?_cons_succ, List.set_cons_zero, List.set_cons_succ, m1, m2, m3, d1, d2, hw, tapC]
theorem setW_l {t : Nat} {ws : List W} {k : Int} {j : Nat} {w : W} {st : Store} (h : st[t]? = some (.lst ws)) (hk : ixN ws.length k = some j) : setW (.c t) (.d (.int k)) w st = some (st.set t (.lst (ws.set j w))) := by
  simp [setW, h, hk]
theorem pow_v (st : Store) : fPow (.d (.int 10)) (.d (.int 18)) st = .ok (.d (.int (10 ^ 18))) st := by
  show (if okPow 10 18 = true then Res.ok (W.d (.int ((10 : Int) ^ (18 : Int).toNat))) st else .bad) = _
  rw [if_pos (by decide +kernel)]
  rfl
theorem log_small {i : Int} (h : 0 < i ∧ i < 2 ^ 62) : i.natAbs.log2 < 9000 := by
  refine (Nat.log2_lt (by omega)).mpr (Nat.lt_of_lt_of_le (show i.natAbs < 2 ^ 62 by omega) (Nat.pow_le_pow_right (by decide) (by decide)))
theorem law_draw_v {st : Store} {t : Nat} {x : Cell} (ht : st[t]? = some x) (hx : IsTap x) {m : Int} (hm : 0 < m ∧ m < 2 ^ 62) : ∃ r x', 0 ≤ r ∧ r < m ∧ IsTap x' ∧ expo st (CB.f_law_draw [.c t, .d (.int m)] st) = .ok (.d (.int r)) (st.set t x') := by
  obtain ⟨a, b, c, rfl, ha, hb, hc⟩ := hx
  have htl : t < st.length := (List.getElem?_eq_some_iff.mp ht).1
  have g : ∀ y : Cell, (st.set t y)[t]? = some y := fun y => List.getElem?_set_self htl
  have s3 : ∀ (z1 z2 z3 w : W) (s : Store), s[t]? = some (.lst [z1, z2, z3]) → setW (.c t) (.d (.int 0)) w s = some (s.set t (.lst [w, z2, z3])) ∧ setW (.c t) (.d (.int 1)) w s = some (s.set t (.lst [z1, w, z3])) ∧ setW (.c t) (.d (.int 2)) w s = some (s.set t (.lst [z1, z2, w])) :=
    fun z1 z2 z3 w s h => ⟨setW_l (j := 0) h rfl, setW_l (j := 1) h rfl, setW_l (j := 2) h rfl⟩
  have i3 : ∀ (z1 z2 z3 : W) (s : Store), s[t]? = some (.lst [z1, z2, z3]) → fIx (.c t) (.d (.int 0)) s = .ok z1 s ∧ fIx (.c t) (.d (.int 1)) s = .ok z2 s ∧ fIx (.c t) (.d (.int 2)) s = .ok z3 s :=
    fun z1 z2 z3 s h => ⟨fIx_c h (atI0 _ _), fIx_c h (atI1 _ _ _), fIx_c h (atI2 _ _ _ _)⟩
  have dm : ∀ (j : Int) (st : Store), fMod (.d (.int j)) (.d (.int m)) st = .ok (.d (.int (j % m))) st := fun j st => fMod_int hm.1 st
  have dd : ∀ (j : Int) (st : Store), fDiv (.d (.int j)) (.d (.int m)) st = .ok (.d (.int (j / m))) st := fun j st => fDiv_int hm.1 (log_small hm) st
  by_cases h : (10 : Int) ^ 18 ≤ a
  · refine ⟨a % m, tapC (a / m) b c, Int.emod_nonneg _ (by omega), Int.emod_lt_of_pos _ hm.1, ⟨_, _, _, rfl, Int.ediv_nonneg ha (by omega), hb, hc⟩, ?_⟩
    have q := i3 _ _ _ st ht
    have q2 := fun w => (s3 _ _ _ w st ht).1
    have e : CB.f_law_draw [.c t, .d (.int m)] st = .ok (.d (.int (a % m))) (st.set t (tapC (a / m) b c)) := by
      simp only [CB.f_law_draw, CB.d_law_draw, fnD, fin, ent, sq, skip, brk, cnt, drp, asg, ret, retN, ifS, par, asgG, asgT, Res.bind, Res.fl, bin, cst, vr, boo, tru, truW, tNotD, tAndD, tOrD, vAnd, vOr, vNot, vIf, vNeg, chn, aNil, aCons, cal, calC, calR, bcall, mth, lstD, lstC, tupD, dctC, fEqF_int, fEqT_int, fLt_int, fGt_int, fLe_int, fGe_int, fAdd_int, fSub_int, fIx_t0, fIx_t1, fLen_r, fLen_l, fLen_t, fAbs, fInt, fMax2, fMin2, fList, fListW, itmA, fTuple, itm, itmT, isiD, tyN, kitB, mkL, mkC, mkT, allD, allD_map, rdW_d, rdW_r, bind_ok, fl_ok, atI0, atI1, atI2, last_get, last_set, expo_d, expo_app, gN, gT, gS, gsNil, gsCons, tiW, tiT, tYesD, nev, Option.map_some, Bool.false_eq_true, if_true, if_false, decide_true, decide_false, List.map_cons, List.map_nil, List.length_cons, List.length_nil, List.replicate, List.cons_append, List.nil_append, List.getElem?_cons_zero, List.getElem?_cons_succ, List.set_cons_zero, List.set_cons_succ, pow_v, q.1, q2, dm, dd, h, decide_true, if_true, Option.map_some, tapC]
    rw [e]
    exact expo_set0 _ _ _ _ rfl
  · generalize hb' : (b * 69069 + 40503) % 4294967291 = b'
    generalize hc' : (c * c + b') % 2147483587 = c'
    have b0 : 0 ≤ b' ∧ b' < 4294967291 := by omega
    have c0 : 0 ≤ c' ∧ c' < 2147483587 := by
      rw [← hc']
      exact ⟨Int.emod_nonneg _ (by decide), Int.emod_lt_of_pos _ (by decide)⟩
    refine ⟨(b' / 32 + c' / 16) % m, tapC a b' c', Int.emod_nonneg _ (by omega), Int.emod_lt_of_pos _ hm.1, ⟨_, _, _, rfl, ha, by omega, by omega⟩, ?_⟩
    have q := i3 _ _ _ st ht
    have q2 := fun w => (s3 _ _ _ w st ht).2.1
    have q3 := fun w => i3 _ _ _ (st.set t (.lst [.d (.int a), w, .d (.int c)])) (g _)
    have q4 := fun w w' => (s3 _ _ _ w' (st.set t (.lst [.d (.int a), w, .d (.int c)])) (g _)).2.2
    have q5 := fun w w' => i3 _ _ _ (st.set t (.lst [.d (.int a), w, w'])) (g _)
    have m1 : ∀ st : Store, fMul (.d (.int b)) (.d (.int 69069)) st = .ok (.d (.int (b * 69069))) st := fun st => fMul_int (okMul_r (by decide)) st
    have m2 : ∀ st : Store, fMul (.d (.int c)) (.d (.int c)) st = .ok (.d (.int (c * c))) st := fun st => fMul_int (okMul_l (by omega)) st
    have d1 : ∀ (j : Int) (st : Store), fMod (.d (.int j)) (.d (.int 4294967291)) st = .ok (.d (.int (j % 4294967291))) st := fun j st => fMod_int (by decide) st
    have d2 : ∀ (j : Int) (st : Store), fMod (.d (.int j)) (.d (.int 2147483587)) st = .ok (.d (.int (j % 2147483587))) st := fun j st => fMod_int (by decide) st
    have v1 : ∀ (j : Int) (st : Store), fDiv (.d (.int j)) (.d (.int 32)) st = .ok (.d (.int (j / 32))) st := fun j st => fDiv_int (by decide) (by decide) st
    have v2 : ∀ (j : Int) (st : Store), fDiv (.d (.int j)) (.d (.int 16)) st = .ok (.d (.int (j / 16))) st := fun j st => fDiv_int (by decide) (by decide) st
    have e : CB.f_law_draw [.c t, .d (.int m)] st = .ok (.d (.int ((b' / 32 + c' / 16) % m))) (st.set t (tapC a b' c')) := by
      simp only [CB.f_law_draw, CB.d_law_draw, fnD, fin, ent, sq, skip, brk, cnt, drp, asg, ret, retN, ifS, par, asgG, asgT, Res.bind, Res.fl, bin, cst, vr, boo, tru, truW, tNotD, tAndD, tOrD, vAnd, vOr, vNot, vIf, vNeg, chn, aNil, aCons, cal, calC, calR, bcall, mth, lstD, lstC, tupD, dctC, fEqF_int, fEqT_int, fLt_int, fGt_int, fLe_int, fGe_int, fAdd_int, fSub_int, fIx_t0, fIx_t1, fLen_r, fLen_l, fLen_t, fAbs, fInt, fMax2, fMin2, fList, fListW, itmA, fTuple, itm, itmT, isiD, tyN, kitB, mkL, mkC, mkT, allD, allD_map, rdW_d, rdW_r, bind_ok, fl_ok, atI0, atI1, atI2, last_get, last_set, expo_d, expo_app, gN, gT, gS, gsNil, gsCons, tiW, tiT, tYesD, nev, Option.map_some, Bool.false_eq_true, if_true, if_false, decide_true, decide_false, List.map_cons, List.map_nil, List.length_cons, List.length_nil, List.replicate, List.cons_append, List.nil_append, List.getElem?_cons_zero, List.getElem?_cons_succ, List.set_cons_zero, List.set_cons_succ, pow_v, q.1, q.2.1, q.2.2, q2, dm, dd, h, decide_false, if_false, Option.map_some, m1, d1, hb', (q3 _).1, (q3 _).2.1, (q3 _).2.2, m2, d2, hc', q4, List.set_set, (q5 _ _).1, (q5 _ _).2.1, (q5 _ _).2.2, v1, v2, tapC, Bool.false_eq_true]
    rw [e]
    exact expo_set0 _ _ _ _ rfl
end VS

set_option Elab.async false
set_option linter.all false
set_option maxRecDepth 100000
set_option maxHeartbeats 1000000
/-! VC5: while; the law's layouts. -/
namespace VS
open PySem PySem.Spec PyProof.Rows L2
theorem while_v {t : Tst} {b : Sd} (P : Nat → Env → Store → Prop) (Q : Env → Store → Prop)
    (hs : ∀ k env st, P k env st → (∃ st1, t env st = .ok false st1 ∧ Q env st1) ∨ ∃ st1 env2 st2 k', t env st = .ok true st1 ∧ b env st1 = .nx env2 st2 ∧ k' < k ∧ P k' env2 st2) (k : Nat) (env : Env) (st : Store) (h : P k env st) :
    ∃ env' st', whileS t b env st = .nx env' st' ∧ Q env' st' := by
  have main : ∀ k env st, P k env st → ∃ n env' st', whl t b n env st = some (.nx env' st') ∧ Q env' st' := by
    intro k
    induction k using Nat.strongRecOn with
    | ind k ih =>
      intro env st h
      rcases hs k env st h with ⟨st1, e, q⟩ | ⟨st1, env2, st2, k', e1, e2, hk, h2⟩
      · exact ⟨1, env, st1, by rw [whl_succ, e], q⟩
      · obtain ⟨n, env', st', e3, q⟩ := ih k' hk env2 st2 h2
        exact ⟨n + 1, env', st', by rw [whl_succ, e1]; simp only [e2]; exact e3, q⟩
  obtain ⟨n, env', st', e, q⟩ := main k env st h
  exact ⟨env', st', whileS_of e, q⟩
theorem law_cells_v {ns : List Int} (h : ns.length ≤ 63) {m : Nat} (hm : 1 ≤ m ∧ m ≤ 100) (st : Store) : ∃ cs : List Int, 1 ≤ cs.length ∧ cs.length ≤ m ∧ CB.f_law_cells [.r (ns.map .int), .d (.int m)] st = .ok (.d (.list (cs.map .int))) st := by
  have e1 : fAdd (.r (ns.map .int)) (.d (.list [.int 0])) st = .ok (.d (.list ((ns ++ [0]).map .int))) st := by
    have q : (ns.map PyData.int).length + 1 ≤ sizeLine := by
      rw [List.length_map]
      exact Nat.le_trans (show ns.length + 1 ≤ 64 by omega) (by decide)
    have q2 : allD (((ns.map PyData.int).map W.d) ++ [W.d (.int 0)]) = some ((ns ++ [0]).map .int) := by
      rw [show ((ns.map PyData.int).map W.d) ++ [W.d (.int 0)] = ((ns ++ [0]).map PyData.int).map W.d by simp]
      exact allD_map _
    simp [fAdd, itm, mkL, -List.map_append, -List.map_map] at q q2 ⊢
    rw [if_pos q, q2]
  generalize hk : (if (if (ns.length : Int) < m then (ns.length : Int) else m) > 1 then (if (ns.length : Int) < m then (ns.length : Int) else m) else 1) = k
  have hk1 : 1 ≤ k ∧ k ≤ m ∧ k ≤ ns.length + 1 := by
    rw [← hk]
    split <;> split <;> omega
  refine ⟨(ns ++ [0]).take k.toNat, ?_, ?_, ?_⟩
  · rw [List.length_take, List.length_append, List.length_singleton]
    omega
  · rw [List.length_take]
    omega
  · have e2 : fCut mkL (.d (.list ((ns ++ [0]).map .int))) none (some k) st = .ok (.d (.list (((ns ++ [0]).take k.toNat).map .int))) st := by
      have q : cutG (((ns ++ [0]).map PyData.int).map W.d) none (some k) = (((ns ++ [0]).take k.toNat).map PyData.int).map W.d := by
        unfold cutG
        rw [HT.sIx_none, show k = ((k.toNat : Nat) : Int) by omega, HT.sIx_nat]
        simp only [List.drop_zero, Nat.sub_zero, List.length_map, List.length_append, List.length_singleton, Int.toNat_natCast, List.map_take]
        rw [Nat.min_eq_left (by omega)]
      show (match itm st (.d (.list ((ns ++ [0]).map .int))) with
        | some xs => mkL (cutG xs none (some k)) st
        | none => .bad) = _
      simp only [itm, q, mkL, allD_map]
    have e3 : (W.r (ns.map PyData.int)) = W.r (ns.map .int) := rfl
    simp only [CB.f_law_cells, CB.d_law_cells, slc, noP, part, fnD, fin, ent, sq, skip, brk, cnt, drp, asg, ret, retN, ifS, par, asgG, asgT, Res.bind, Res.fl, bin, cst, vr, boo, tru, truW, tNotD, tAndD, tOrD, vAnd, vOr, vNot, vIf, vNeg, chn, aNil, aCons, cal, calC, calR, bcall, mth, lstD, lstC, tupD, dctC, fEqF_int, fEqT_int, fLt_int, fGt_int, fLe_int, fGe_int, fAdd_int, fSub_int, fIx_t0, fIx_t1, fLen_r, fLen_l, fLen_t, fAbs, fInt, fMax2, fMin2, fList, fListW, itmA, fTuple, itm, itmT, isiD, tyN, kitB, mkL, mkC, mkT, allD, allD_map, rdW_d, rdW_r, bind_ok, fl_ok, atI0, atI1, atI2, last_get, last_set, expo_d, expo_app, gN, gT, gS, gsNil, gsCons, tiW, tiT, tYesD, nev, Option.map_some, Bool.false_eq_true, if_true, if_false, decide_true, decide_false, List.map_cons, List.map_nil, List.length_cons, List.length_nil, List.replicate, List.cons_append, List.nil_append, List.getElem?_cons_zero, List.getElem?_cons_succ, List.set_cons_zero, List.set_cons_succ, e1, List.length_map, hk, e2]
/-! ### sorted pairs -/
def leP (p q : Int × Int) : Bool := !decide (ltP q p)
def sortP (F : List (Int × Int)) : List (Int × Int) := F.mergeSort leP
theorem leP_iff (a b : Int × Int) : leP a b = true ↔ a.1 < b.1 ∨ (a.1 = b.1 ∧ a.2 ≤ b.2) := by
  unfold leP
  rw [Bool.not_eq_true', decide_eq_false_iff_not]
  unfold ltP
  omega
theorem leP_trans (a b c : Int × Int) (h1 : leP a b = true) (h2 : leP b c = true) : leP a c = true := by
  rw [leP_iff] at h1 h2 ⊢
  omega
theorem leP_total (a b : Int × Int) : (leP a b || leP b a) = true := by
  rw [Bool.or_eq_true, leP_iff, leP_iff]
  omega
theorem srt_pr (F : List (Int × Int)) : srt (F.map pr) = (sortP F).map pr := by
  unfold srt sortP
  refine (List.map_mergeSort fun a _ b _ => ?_).symm
  rw [PySem.W.dataLe_eq]
  show leP a b = !PySem.W.dataLt (pr b) (pr a)
  unfold pr
  rw [PySem.W.dataLt_ii]
  rfl
theorem endsOf_perm {F G : List (Int × Int)} (h : F.Perm G) : (endsOf F).Perm (endsOf G) := h.flatMap_right _
theorem nodup_of_ends : ∀ {F : List (Int × Int)}, (endsOf F).Nodup → F.Nodup
  | [], _ => .nil
  | p :: F, h => by
    have e : endsOf (p :: F) = [p.1, p.2] ++ endsOf F := rfl
    rw [e, List.nodup_append] at h
    refine List.nodup_cons.mpr ⟨fun q => ?_, nodup_of_ends h.2.1⟩
    have : p.1 ∈ endsOf F := List.mem_flatMap.mpr ⟨p, q, by simp⟩
    exact h.2.2 p.1 (by simp) p.1 this rfl
theorem sortP_lay {n : Int} {F : List (Int × Int)} (h1 : ∀ p ∈ F, isCpl n p = true) (h2 : (endsOf F).Nodup) (h3 : F.length ≤ 100000) : Lay n (sortP F) := by
  have hp : (sortP F).Perm F := List.mergeSort_perm F leP
  have hn := (endsOf_perm hp).nodup_iff.mpr h2
  refine ⟨fun p q => h1 p (hp.mem_iff.mp q), hn, ?_, by rw [hp.length_eq]; exact h3⟩
  have s : (sortP F).Pairwise fun a b => leP a b = true := List.pairwise_mergeSort leP_trans leP_total F
  have d : (sortP F).Nodup := nodup_of_ends hn
  refine (List.Pairwise.and s d).imp fun {a b} q => ?_
  obtain ⟨q1, q2⟩ := q
  rw [leP_iff] at q1
  have q3 : ¬ (a.1 = b.1 ∧ a.2 = b.2) := fun z => q2 (Prod.ext z.1 z.2)
  show a.1 < b.1 ∨ (a.1 = b.1 ∧ a.2 < b.2)
  omega
theorem okSort_pr {F : List (Int × Int)} (h : F.length ≤ 100000) : OkSort (F.map pr) := by
  refine ⟨fun d hd d' hd' => ?_, .inl fun d hd => ?_, fun d hd => ?_, ?_⟩
  · obtain ⟨p, _, rfl⟩ := List.mem_map.mp hd
    obtain ⟨q, _, rfl⟩ := List.mem_map.mp hd'
    simp [pr, PySem.W.alike, PySem.W.alikeAll]
  · obtain ⟨p, _, rfl⟩ := List.mem_map.mp hd
    exact ⟨_, _, rfl⟩
  · obtain ⟨p, _, rfl⟩ := List.mem_map.mp hd
    simp [pr, PyData.depth, PyData.depthAll]
  · rw [List.length_map]
    exact Nat.le_trans h (by decide)
/-! ### the law's layout -/
structure Deal (n : Int) (left : List Int) (found : List (Int × Int)) : Prop where
  e : ∀ v ∈ left, isEnd n v = true
  c : ∀ p ∈ found, isCpl n p = true
  nd : (endsOf found ++ left).Nodup
  len : left.length + 2 * found.length ≤ 1000
theorem erase_perm {α : Type} : ∀ (l : List α) (i : Nat) (h : i < l.length), (l[i] :: l.eraseIdx i).Perm l
  | a :: l, 0, _ => .refl _
  | a :: l, i + 1, h => by
    have q := erase_perm l i (Nat.lt_of_succ_lt_succ h)
    exact (List.Perm.swap _ _ _).trans (q.cons a)
theorem erase_map {α β : Type} (f : α → β) : ∀ (l : List α) (i : Nat), (l.map f).eraseIdx i = (l.eraseIdx i).map f
  | [], _ => rfl
  | a :: l, 0 => rfl
  | a :: l, i + 1 => by
    show f a :: (l.map f).eraseIdx i = f a :: (l.eraseIdx i).map f
    rw [erase_map f l i]
theorem good_step {n : Int} {left : List Int} {found : List (Int × Int)} (h : Deal n left found) {i j : Nat} (hi : i < left.length) (hj : j < (left.eraseIdx i).length) :
    Deal n ((left.eraseIdx i).eraseIdx j) found ∧ ∀ p, p = (if (left.eraseIdx i)[j] < left[i] then (left.eraseIdx i)[j] else left[i], if (left.eraseIdx i)[j] > left[i] then (left.eraseIdx i)[j] else left[i]) → Deal n ((left.eraseIdx i).eraseIdx j) (found ++ [p]) := by
  generalize hb : (left.eraseIdx i)[j] = b
  generalize ha : left[i] = a
  have p1 : (a :: left.eraseIdx i).Perm left := by rw [← ha]; exact erase_perm _ _ hi
  have p2 : (b :: (left.eraseIdx i).eraseIdx j).Perm (left.eraseIdx i) := by rw [← hb]; exact erase_perm _ _ hj
  have p3 : (a :: b :: (left.eraseIdx i).eraseIdx j).Perm left := (p2.cons a).trans p1
  generalize (left.eraseIdx i).eraseIdx j = l2 at p3 ⊢
  have hl := p3.length_eq
  simp only [List.length_cons] at hl
  have e2 : ∀ v ∈ a :: b :: l2, isEnd n v = true := fun v hv => h.e v (p3.mem_iff.mp hv)
  have nd : (endsOf found ++ (a :: b :: l2)).Nodup := (p3.append_left _).nodup_iff.mpr h.nd
  have hlen := h.len
  refine ⟨⟨fun v hv => e2 v (by simp [hv]), h.c, ?_, by omega⟩, fun p hp => ?_⟩
  · refine nd.sublist (List.Sublist.append_left ?_ _)
    exact List.Sublist.cons _ (List.Sublist.cons _ (List.Sublist.refl _))
  · have ab : a ≠ b := by
      intro q
      rw [q] at nd
      have := (List.nodup_append.mp nd).2.1
      simp at this
    refine ⟨fun v hv => e2 v (by simp [hv]), fun q hq => ?_, ?_, ?_⟩
    · rcases List.mem_append.mp hq with z | z
      · exact h.c q z
      · rw [List.mem_singleton.mp z, hp]
        have ea := e2 a (by simp)
        have eb := e2 b (by simp)
        simp only [isCpl]
        rcases Int.lt_or_gt_of_ne ab with z | z
        · rw [if_neg (by omega), if_pos z, ea, eb]
          simp [z]
        · rw [if_pos z, if_neg (by omega), ea, eb]
          simp [z]
    · rw [endsOf_snoc]
      have pp : (endsOf found ++ [p.1, p.2] ++ l2).Perm (endsOf found ++ (a :: b :: l2)) := by
        rw [List.append_assoc]
        refine List.Perm.append_left _ ?_
        rw [hp]
        rcases Int.lt_or_gt_of_ne ab with z | z
        · rw [if_neg (by omega), if_pos z]
          exact .refl _
        · rw [if_pos z, if_neg (by omega)]
          exact .swap _ _ _
      exact pp.nodup_iff.mpr nd
    · rw [List.length_append, List.length_singleton]
      omega
theorem while_g {t : Tst} {b : Sd} {env : Env} {st : Store} {r : Fl} (hr : whileS t b env st = r) (P : Nat → Env → Store → Prop) (Q : Env → Store → Prop) (k : Nat) (h : P k env st)
    (hs : ∀ k env st, P k env st → (∃ st1, t env st = .ok false st1 ∧ Q env st1) ∨ ∃ st1 env2 st2 k', t env st = .ok true st1 ∧ b env st1 = .nx env2 st2 ∧ k' < k ∧ P k' env2 st2) : ∃ env' st', r = .nx env' st' ∧ Q env' st' := by
  obtain ⟨env', st', e, q⟩ := while_v P Q hs k env st h
  exact ⟨env', st', hr.symm.trans e, q⟩
def intW (l : List Int) : List W := l.map fun v => .d (.int v)
def prW (l : List (Int × Int)) : List W := l.map fun p => .d (pr p)
def twoC (st : Store) (t : Nat) (x : Cell) (l : List Int) (f : List (Int × Int)) : Store := st.set t x ++ [.lst (intW l), .lst (prW f)]
section
variable {st : Store} {t : Nat} (htl : t < st.length)
include htl
theorem two_t (x : Cell) (l : List Int) (f : List (Int × Int)) : (twoC st t x l f)[t]? = some x := by
  unfold twoC
  rw [List.getElem?_append_left (by rw [List.length_set]; exact htl), List.getElem?_set_self htl]
theorem two_st (x y : Cell) (l : List Int) (f : List (Int × Int)) : (twoC st t x l f).set t y = twoC st t y l f := by
  unfold twoC
  rw [List.set_append_left _ _ (by rw [List.length_set]; exact htl), List.set_set]
omit htl
theorem two_a (x : Cell) (l : List Int) (f : List (Int × Int)) : (twoC st t x l f)[st.length]? = some (.lst (intW l)) := by
  unfold twoC
  rw [List.getElem?_append_right (by rw [List.length_set]; exact Nat.le_refl _), List.length_set, Nat.sub_self]
  rfl
theorem two_b (x : Cell) (l : List Int) (f : List (Int × Int)) : (twoC st t x l f)[st.length + 1]? = some (.lst (prW f)) := by
  unfold twoC
  rw [List.getElem?_append_right (by rw [List.length_set]; omega), List.length_set, Nat.add_sub_cancel_left]
  rfl
theorem two_sa (x : Cell) (l m : List Int) (f : List (Int × Int)) : (twoC st t x l f).set st.length (.lst (intW m)) = twoC st t x m f := by
  unfold twoC
  rw [List.set_append_right _ _ (by rw [List.length_set]; exact Nat.le_refl _), List.length_set, Nat.sub_self]
  rfl
theorem two_sb (x : Cell) (l : List Int) (f g : List (Int × Int)) : (twoC st t x l f).set (st.length + 1) (.lst (prW g)) = twoC st t x l g := by
  unfold twoC
  rw [List.set_append_right _ _ (by rw [List.length_set]; omega), List.length_set, Nat.add_sub_cancel_left]
  rfl
include htl
theorem two_draw {x : Cell} (hx : IsTap x) (l : List Int) (f : List (Int × Int)) {m : Int} (hm : 0 < m ∧ m < 2 ^ 62) : ∃ r x', 0 ≤ r ∧ r < m ∧ IsTap x' ∧ expo (twoC st t x l f) (CB.f_law_draw [.c t, .d (.int m)] (twoC st t x l f)) = .ok (.d (.int r)) (twoC st t x' l f) := by
  obtain ⟨r, x', h0, h1, h2, h3⟩ := law_draw_v (two_t htl x l f) hx hm
  rw [two_st htl] at h3
  exact ⟨r, x', h0, h1, h2, h3⟩
omit htl
theorem two_len (x : Cell) (l : List Int) (f : List (Int × Int)) : fLen [.c st.length] (twoC st t x l f) = .ok (.d (.int l.length)) (twoC st t x l f) := by
  unfold fLen lenW
  simp only [two_a, intW, List.length_map]
theorem two_pop (x : Cell) (l : List Int) (f : List (Int × Int)) {r : Int} (h0 : 0 ≤ r) (h1 : r < l.length) (hz : l.length ≤ sizeLine) : ∃ h : r.toNat < l.length, fPopAt (.c st.length) [.d (.int r)] (twoC st t x l f) = .ok (.d (.int l[r.toNat])) (twoC st t x (l.eraseIdx r.toNat) f) := by
  have h : r.toNat < l.length := by omega
  refine ⟨h, ?_⟩
  have e1 : ixN (intW l).length r = some r.toNat := by
    unfold ixN intW
    rw [List.length_map, if_pos h0, if_pos h1]
  have e2 : (intW l)[r.toNat]? = some (.d (.int l[r.toNat])) := by
    unfold intW
    rw [List.getElem?_map, List.getElem?_eq_getElem h]
    rfl
  have e3 : (intW l).eraseIdx r.toNat = intW (l.eraseIdx r.toNat) := by
    unfold intW
    exact erase_map _ _ _
  have e4 : (intW l).length ≤ sizeLine := by
    unfold intW
    rw [List.length_map]
    exact hz
  unfold fPopAt
  simp only [two_a, if_pos e4, e1, e2, e3, two_sa]
theorem two_isTy (x : Cell) (l : List Int) (f : List (Int × Int)) : isTy "list" (twoC st t x l f) (.c st.length) = true := by
  unfold isTy
  simp only [two_a]
  rfl
theorem two_isTyb (x : Cell) (l : List Int) (f : List (Int × Int)) : isTy "list" (twoC st t x l f) (.c (st.length + 1)) = true := by
  unfold isTy
  simp only [two_b]
  rfl
theorem two_app (x : Cell) (l : List Int) (f : List (Int × Int)) (p : Int × Int) (hz : f.length < sizeLine) : fAppend (.c (st.length + 1)) [.d (pr p)] (twoC st t x l f) = .ok (.d .none) (twoC st t x l (f ++ [p])) := by
  have e1 : prW f ++ [.d (pr p)] = prW (f ++ [p]) := by simp [prW]
  have e2 : (prW f).length < sizeLine := by
    unfold prW
    rw [List.length_map]
    exact hz
  unfold fAppend
  simp only [two_b, if_pos e2, e1, two_sb]
end
theorem part5 {r : Int} (h0 : 0 ≤ r) (h1 : r < 5) : ∃ p, atI [PyData.int 0, .int 2, .int 6, .int 7, .int 8] r = some (.int p) := by
  have : r = 0 ∨ r = 1 ∨ r = 2 ∨ r = 3 ∨ r = 4 := by omega
  rcases this with rfl | rfl | rfl | rfl | rfl <;> exact ⟨_, rfl⟩
theorem endsN_good {n : Int} (h : 1 ≤ n ∧ n ≤ 60) : Deal n (endsN n) [] := by
  have hr : (rng (-n) (2 * n + 1).toNat).Nodup := by
    unfold rng
    refine (List.nodup_range).map _ fun a b q z => q ?_
    omega
  refine ⟨fun v hv => ?_, fun p hp => absurd hp (by simp), ?_, ?_⟩
  · unfold endsN rng at hv
    rw [List.mem_filter, List.mem_map] at hv
    obtain ⟨⟨i, hi, rfl⟩, h2⟩ := hv
    rw [List.mem_range] at hi
    simp only [isEnd, Bool.and_eq_true, decide_eq_true_eq] at h2 ⊢
    exact ⟨h2, by omega, by omega⟩
  · show (endsN n).Nodup
    exact hr.filter _
  · have q : (endsN n).length ≤ (rng (-n) (2 * n + 1).toNat).length := List.length_filter_le _ _
    simp only [rng, List.length_map, List.length_range, List.length_nil] at q ⊢
    omega
theorem law_layout_v {st : Store} {t : Nat} {x : Cell} {n : Int} (ht : st[t]? = some x) (hx : IsTap x) (hn : 1 ≤ n ∧ n ≤ 60) : ∃ L x', Lay n L ∧ IsTap x' ∧ expo st (CB.f_law_layout [.c t, .d (.int n)] st) = .ok (.d (.list (L.map pr))) (st.set t x') := by
  have htl : t < st.length := (List.getElem?_eq_some_iff.mp ht).1
  have e0 : st ++ [Cell.lst (((endsN n).map PyData.int).map W.d)] ++ [Cell.lst []] = twoC st t x (endsN n) [] := by
    have q : st.set t x = st := by
      apply List.ext_getElem?
      intro i
      by_cases hi : t = i
      · subst hi
        rw [List.getElem?_set_self htl, ht]
      · rw [List.getElem?_set_ne hi]
    unfold twoC intW prW
    rw [q]
    simp
  obtain ⟨r5, x5, h50, h51, hx5, e5⟩ := two_draw htl hx (endsN n) [] (m := 5) (by decide)
  obtain ⟨p5, e6⟩ := part5 h50 h51
  have e7 : expoC st (.ok (.c st.length) (st ++ [Cell.lst (((endsN n).map PyData.int).map W.d)])) = .ok (.c st.length) (st ++ [Cell.lst (((endsN n).map PyData.int).map W.d)]) := expoC_last st [] _
  have e8 : ∀ S : Store, fIx (.d (.list [PyData.int 0, .int 2, .int 6, .int 7, .int 8])) (.d (.int r5)) S = .ok (.d (.int p5)) S := fun S => fIx_l e6 S
  have e9 : (st ++ [Cell.lst (((endsN n).map PyData.int).map W.d)]).length = st.length + 1 := by simp
  simp only [CB.f_law_layout, CB.d_law_layout, fnD, fin, ent, sq, skip, brk, cnt, drp, asg, ret, retN, ifS, par, asgG, asgT, Res.bind, Res.fl, bin, cst, vr, boo, tru, truW, tNotD, tAndD, tOrD, vAnd, vOr, vNot, vIf, vNeg, chn, aNil, aCons, cal, calC, calR, bcall, mth, lstD, lstC, tupD, dctC, fEqF_int, fEqT_int, fLt_int, fGt_int, fLe_int, fGe_int, fAdd_int, fSub_int, fIx_t0, fIx_t1, fLen_r, fLen_l, fLen_t, fAbs, fInt, fMax2, fMin2, fList, fListW, itmA, fTuple, itm, itmT, isiD, tyN, kitB, mkL, mkC, mkT, allD, allD_map, rdW_d, rdW_r, bind_ok, fl_ok, atI0, atI1, atI2, last_get, last_set, expo_d, expo_app, gN, gT, gS, gsNil, gsCons, tiW, tiT, tYesD, nev, Option.map_some, Bool.false_eq_true, if_true, if_false, decide_true, decide_false, List.map_cons, List.map_nil, List.length_cons, List.length_nil, List.replicate, List.cons_append, List.nil_append, List.getElem?_cons_zero, List.getElem?_cons_succ, List.set_cons_zero, List.set_cons_succ, law_ends_v hn, e7, e9, e0, e5, e8]
  generalize hr : whileS _ _ _ _ = r
  obtain ⟨env', st', rfl, x', l, f, o1, o2, rfl, rfl, hx', hd⟩ := while_g hr
    (fun k env S => ∃ x l f o1 o2, k = l.length ∧ env = [some (.c t), some (.d (.int n)), some (.c st.length), some (.c (st.length + 1)), some (.d (.int p5)), o1, o2] ∧ S = twoC st t x l f ∧ IsTap x ∧ Deal n l f)
    (fun env S => ∃ x l f o1 o2, env = [some (.c t), some (.d (.int n)), some (.c st.length), some (.c (st.length + 1)), some (.d (.int p5)), o1, o2] ∧ S = twoC st t x l f ∧ IsTap x ∧ Deal n l f)
    (endsN n).length ⟨x5, endsN n, [], none, none, rfl, rfl, rfl, hx5, endsN_good hn⟩ (fun k env S hP => by
      obtain ⟨x, l, f, o1, o2, rfl, rfl, rfl, hx, hd⟩ := hP
      have hdl := hd.len
      by_cases hl : 1 < l.length
      · right
        have hz : l.length ≤ sizeLine := Nat.le_trans (show l.length ≤ 1000 by omega) (by decide)
        obtain ⟨r1, x1, a0, a1, hx1, d1⟩ := two_draw htl hx l f (m := l.length) (by omega)
        obtain ⟨q1, p1⟩ := two_pop (st := st) (t := t) x1 l f a0 a1 hz
        have hl1 : (l.eraseIdx r1.toNat).length = l.length - 1 := by rw [List.length_eraseIdx, if_pos q1]
        obtain ⟨r2, x2, b0, b1, hx2, d2⟩ := two_draw htl hx1 (l.eraseIdx r1.toNat) f (m := (l.eraseIdx r1.toNat).length) (by omega)
        obtain ⟨q2, p2⟩ := two_pop (st := st) (t := t) x2 (l.eraseIdx r1.toNat) f b0 b1 (by omega)
        obtain ⟨r3, x3, c0, c1, hx3, d3⟩ := two_draw htl hx2 ((l.eraseIdx r1.toNat).eraseIdx r2.toNat) f (m := 8) (by decide)
        obtain ⟨g1, g2⟩ := good_step hd q1 q2
        have hl2 : ((l.eraseIdx r1.toNat).eraseIdx r2.toNat).length < l.length := by
          rw [List.length_eraseIdx, if_pos q2]
          omega
        have hf : f.length < sizeLine := Nat.lt_of_le_of_lt (show f.length ≤ 1000 by omega) (by decide)
        have hl' : (1 : Int) < (l.length : Int) := by omega
        generalize (l.eraseIdx r1.toNat).eraseIdx r2.toNat = l2 at g1 g2 p2 d3 hl2
        generalize l[r1.toNat] = v1 at g2 p1
        generalize (l.eraseIdx r1.toNat)[r2.toNat] = v2 at g2 p2
        by_cases hp : r3 < p5
        · refine ⟨twoC st t x l f, [some (.c t), some (.d (.int n)), some (.c st.length), some (.c (st.length + 1)), some (.d (.int p5)), some (.d (.int v1)), some (.d (.int v2))], twoC st t x3 l2 (f ++ [(if v2 < v1 then v2 else v1, if v2 > v1 then v2 else v1)]), l2.length, ?_, ?_, hl2, x3, l2, _, _, _, rfl, rfl, rfl, hx3, g2 _ rfl⟩
          · simp only [fnD, fin, ent, sq, skip, brk, cnt, drp, asg, ret, retN, ifS, par, asgG, asgT, Res.bind, Res.fl, bin, cst, vr, boo, tru, truW, tNotD, tAndD, tOrD, vAnd, vOr, vNot, vIf, vNeg, chn, aNil, aCons, cal, calC, calR, bcall, mth, lstD, lstC, tupD, dctC, fEqF_int, fEqT_int, fLt_int, fGt_int, fLe_int, fGe_int, fAdd_int, fSub_int, fIx_t0, fIx_t1, fLen_r, fLen_l, fLen_t, fAbs, fInt, fMax2, fMin2, fList, fListW, itmA, fTuple, itm, itmT, isiD, tyN, kitB, mkL, mkC, mkT, allD, allD_map, rdW_d, rdW_r, bind_ok, fl_ok, atI0, atI1, atI2, last_get, last_set, expo_d, expo_app, gN, gT, gS, gsNil, gsCons, tiW, tiT, tYesD, nev, Option.map_some, Bool.false_eq_true, if_true, if_false, decide_true, decide_false, List.map_cons, List.map_nil, List.length_cons, List.length_nil, List.replicate, List.cons_append, List.nil_append, List.getElem?_cons_zero, List.getElem?_cons_succ, List.set_cons_zero, List.set_cons_succ, two_len, hl']
          · simp only [fnD, fin, ent, sq, skip, brk, cnt, drp, asg, ret, retN, ifS, par, asgG, asgT, Res.bind, Res.fl, bin, cst, vr, boo, tru, truW, tNotD, tAndD, tOrD, vAnd, vOr, vNot, vIf, vNeg, chn, aNil, aCons, cal, calC, calR, bcall, mth, lstD, lstC, tupD, dctC, fEqF_int, fEqT_int, fLt_int, fGt_int, fLe_int, fGe_int, fAdd_int, fSub_int, fIx_t0, fIx_t1, fLen_r, fLen_l, fLen_t, fAbs, fInt, fMax2, fMin2, fList, fListW, itmA, fTuple, itm, itmT, isiD, tyN, kitB, mkL, mkC, mkT, allD, allD_map, rdW_d, rdW_r, bind_ok, fl_ok, atI0, atI1, atI2, last_get, last_set, expo_d, expo_app, gN, gT, gS, gsNil, gsCons, tiW, tiT, tYesD, nev, Option.map_some, Bool.false_eq_true, if_true, if_false, decide_true, decide_false, List.map_cons, List.map_nil, List.length_cons, List.length_nil, List.replicate, List.cons_append, List.nil_append, List.getElem?_cons_zero, List.getElem?_cons_succ, List.set_cons_zero, List.set_cons_succ, two_len, d1, two_isTy, p1, d2, p2, d3, hp, law_pair_v, two_isTyb, two_app _ _ _ _ hf]
        · refine ⟨twoC st t x l f, [some (.c t), some (.d (.int n)), some (.c st.length), some (.c (st.length + 1)), some (.d (.int p5)), some (.d (.int v1)), some (.d (.int v2))], twoC st t x3 l2 f, l2.length, ?_, ?_, hl2, x3, l2, _, _, _, rfl, rfl, rfl, hx3, g1⟩
          · simp only [fnD, fin, ent, sq, skip, brk, cnt, drp, asg, ret, retN, ifS, par, asgG, asgT, Res.bind, Res.fl, bin, cst, vr, boo, tru, truW, tNotD, tAndD, tOrD, vAnd, vOr, vNot, vIf, vNeg, chn, aNil, aCons, cal, calC, calR, bcall, mth, lstD, lstC, tupD, dctC, fEqF_int, fEqT_int, fLt_int, fGt_int, fLe_int, fGe_int, fAdd_int, fSub_int, fIx_t0, fIx_t1, fLen_r, fLen_l, fLen_t, fAbs, fInt, fMax2, fMin2, fList, fListW, itmA, fTuple, itm, itmT, isiD, tyN, kitB, mkL, mkC, mkT, allD, allD_map, rdW_d, rdW_r, bind_ok, fl_ok, atI0, atI1, atI2, last_get, last_set, expo_d, expo_app, gN, gT, gS, gsNil, gsCons, tiW, tiT, tYesD, nev, Option.map_some, Bool.false_eq_true, if_true, if_false, decide_true, decide_false, List.map_cons, List.map_nil, List.length_cons, List.length_nil, List.replicate, List.cons_append, List.nil_append, List.getElem?_cons_zero, List.getElem?_cons_succ, List.set_cons_zero, List.set_cons_succ, two_len, hl']
          · simp only [fnD, fin, ent, sq, skip, brk, cnt, drp, asg, ret, retN, ifS, par, asgG, asgT, Res.bind, Res.fl, bin, cst, vr, boo, tru, truW, tNotD, tAndD, tOrD, vAnd, vOr, vNot, vIf, vNeg, chn, aNil, aCons, cal, calC, calR, bcall, mth, lstD, lstC, tupD, dctC, fEqF_int, fEqT_int, fLt_int, fGt_int, fLe_int, fGe_int, fAdd_int, fSub_int, fIx_t0, fIx_t1, fLen_r, fLen_l, fLen_t, fAbs, fInt, fMax2, fMin2, fList, fListW, itmA, fTuple, itm, itmT, isiD, tyN, kitB, mkL, mkC, mkT, allD, allD_map, rdW_d, rdW_r, bind_ok, fl_ok, atI0, atI1, atI2, last_get, last_set, expo_d, expo_app, gN, gT, gS, gsNil, gsCons, tiW, tiT, tYesD, nev, Option.map_some, Bool.false_eq_true, if_true, if_false, decide_true, decide_false, List.map_cons, List.map_nil, List.length_cons, List.length_nil, List.replicate, List.cons_append, List.nil_append, List.getElem?_cons_zero, List.getElem?_cons_succ, List.set_cons_zero, List.set_cons_succ, two_len, d1, two_isTy, p1, d2, p2, d3, hp]
      · left
        refine ⟨twoC st t x l f, ?_, x, l, f, o1, o2, rfl, rfl, hx, hd⟩
        have hl' : ¬ (1 : Int) < (l.length : Int) := by omega
        simp only [fnD, fin, ent, sq, skip, brk, cnt, drp, asg, ret, retN, ifS, par, asgG, asgT, Res.bind, Res.fl, bin, cst, vr, boo, tru, truW, tNotD, tAndD, tOrD, vAnd, vOr, vNot, vIf, vNeg, chn, aNil, aCons, cal, calC, calR, bcall, mth, lstD, lstC, tupD, dctC, fEqF_int, fEqT_int, fLt_int, fGt_int, fLe_int, fGe_int, fAdd_int, fSub_int, fIx_t0, fIx_t1, fLen_r, fLen_l, fLen_t, fAbs, fInt, fMax2, fMin2, fList, fListW, itmA, fTuple, itm, itmT, isiD, tyN, kitB, mkL, mkC, mkT, allD, allD_map, rdW_d, rdW_r, bind_ok, fl_ok, atI0, atI1, atI2, last_get, last_set, expo_d, expo_app, gN, gT, gS, gsNil, gsCons, tiW, tiT, tYesD, nev, Option.map_some, Bool.false_eq_true, if_true, if_false, decide_true, decide_false, List.map_cons, List.map_nil, List.length_cons, List.length_nil, List.replicate, List.cons_append, List.nil_append, List.getElem?_cons_zero, List.getElem?_cons_succ, List.set_cons_zero, List.set_cons_succ, two_len, hl'])
  have hdl := hd.len
  have hs : fSorted [.c (st.length + 1)] (twoC st t x' l f) = .ok (.d (.list ((sortP f).map pr))) (twoC st t x' l f) := by
    have q1 : allD (prW f) = some (f.map pr) := by
      rw [show prW f = (f.map pr).map W.d by simp [prW]]
      exact allD_map _
    unfold fSorted fSortedW
    simp only [itm, two_b, q1, if_pos (okSort_pr (show f.length ≤ 100000 by omega)), srt_pr, mkL, allD_map]
  refine ⟨sortP f, x', sortP_lay hd.c (List.nodup_append.mp hd.nd).1 (by omega), hx', ?_⟩
  simp only [fnD, fin, ent, sq, skip, brk, cnt, drp, asg, ret, retN, ifS, par, asgG, asgT, Res.bind, Res.fl, bin, cst, vr, boo, tru, truW, tNotD, tAndD, tOrD, vAnd, vOr, vNot, vIf, vNeg, chn, aNil, aCons, cal, calC, calR, bcall, mth, lstD, lstC, tupD, dctC, fEqF_int, fEqT_int, fLt_int, fGt_int, fLe_int, fGe_int, fAdd_int, fSub_int, fIx_t0, fIx_t1, fLen_r, fLen_l, fLen_t, fAbs, fInt, fMax2, fMin2, fList, fListW, itmA, fTuple, itm, itmT, isiD, tyN, kitB, mkL, mkC, mkT, allD, allD_map, rdW_d, rdW_r, bind_ok, fl_ok, atI0, atI1, atI2, last_get, last_set, expo_d, expo_app, gN, gT, gS, gsNil, gsCons, tiW, tiT, tYesD, nev, Option.map_some, Bool.false_eq_true, if_true, if_false, decide_true, decide_false, List.map_cons, List.map_nil, List.length_cons, List.length_nil, List.replicate, List.cons_append, List.nil_append, List.getElem?_cons_zero, List.getElem?_cons_succ, List.set_cons_zero, List.set_cons_succ, hs]
  exact expo_set _ _ _ _ _ hx'.dOnly
end VS

set_option Elab.async false
set_option linter.all false
set_option maxRecDepth 100000
set_option maxHeartbeats 1000000
/-! VC6: texts that are not too long; more plain laws. -/
namespace VS
open PySem PySem.Spec PyProof.Rows L2
structure Shw (d : PyData) (w k : Nat) : Prop where
  s : d.showable = true
  l : d.leavesShort 13 = true
  w : d.weight ≤ w
  d : d.depth ≤ k
theorem Shw.mono {d : PyData} {w k w' k' : Nat} (h : Shw d w k) (h1 : w ≤ w') (h2 : k ≤ k') : Shw d w' k' := ⟨h.s, h.l, Nat.le_trans h.w h1, Nat.le_trans h.d h2⟩
theorem okShow_of {d : PyData} {w k : Nat} (h : Shw d w k) (hw : w ≤ 1000000) (hk : k ≤ 60) : okShow d = true := by
  have q := PyData.shown_le 13 (by decide) d h.l
  have q1 := h.w
  have q2 := h.d
  unfold okShow
  rw [h.s, decide_eq_true (Nat.le_trans q2 hk), decide_eq_true (show d.shown.length ≤ sizeLine by rw [sizeLine_eq]; omega)]
  rfl
theorem shw_none : Shw .none 0 0 := ⟨rfl, rfl, Nat.le_refl _, Nat.le_refl _⟩
theorem shw_bool (b : Bool) : Shw (.bool b) 0 0 := ⟨rfl, rfl, Nat.le_refl _, Nat.le_refl _⟩
theorem log2_lt {n k : Nat} (h : n < 2 ^ k) (hk : 0 < k) : n.log2 < k := by
  by_cases h0 : n = 0
  · subst h0
    exact hk
  · exact (Nat.log2_lt h0).mpr h
theorem shw_int {v : Int} (h : v.natAbs < 10 ^ 9) : Shw (.int v) 30 0 := by
  have h2 : v.natAbs < 2 ^ 30 := Nat.lt_trans h (by decide)
  have h3 := log2_lt h2 (by decide)
  refine ⟨?_, ?_, ?_, Nat.le_refl _⟩
  · simp only [PyData.showable, decide_eq_true_eq]
    omega
  · have q := int_text_length_le10 (k := 9) (by decide) h
    have q2 : (PyData.shown (.int v)).length ≤ 13 := by
      show (Str.ofString (toString v)).length ≤ 13
      rw [PySem.ofString_length]
      omega
    simp only [PyData.leavesShort]
    exact decide_eq_true q2
  · simp only [PyData.weight]
    split <;> omega
theorem shw_all {w k : Nat} : ∀ {ds : List PyData}, (∀ d ∈ ds, Shw d w k) → PyData.showableAll ds = true ∧ PyData.leavesShortAll 13 ds = true ∧ PyData.weightAll ds ≤ ds.length * (w + 1) ∧ PyData.depthAll ds ≤ k
  | [], _ => ⟨rfl, rfl, Nat.zero_le _, Nat.zero_le _⟩
  | d :: ds, h => by
    obtain ⟨h1, h2, h3, h4⟩ := shw_all (ds := ds) fun x hx => h x (List.mem_cons_of_mem _ hx)
    have q := h d List.mem_cons_self
    refine ⟨?_, ?_, ?_, ?_⟩
    · simp only [PyData.showableAll, q.s, h1, Bool.and_self]
    · simp only [PyData.leavesShortAll, q.l, h2, Bool.and_self]
    · simp only [PyData.weightAll, List.length_cons, Nat.add_mul, Nat.one_mul]
      have := q.w
      omega
    · simp only [PyData.depthAll]
      have := q.d
      omega
theorem shw_list {ds : List PyData} {w k : Nat} (h : ∀ d ∈ ds, Shw d w k) : Shw (.list ds) (ds.length * (w + 1)) (k + 1) := by
  obtain ⟨h1, h2, h3, h4⟩ := shw_all h
  refine ⟨by simpa only [PyData.showable] using h1, by simpa only [PyData.leavesShort] using h2, by simpa only [PyData.weight] using h3, ?_⟩
  simp only [PyData.depth]
  omega
theorem shw_tuple {ds : List PyData} {w k : Nat} (h : ∀ d ∈ ds, Shw d w k) : Shw (.tuple ds) (ds.length * (w + 1)) (k + 1) := by
  obtain ⟨h1, h2, h3, h4⟩ := shw_all h
  refine ⟨by simpa only [PyData.showable] using h1, by simpa only [PyData.leavesShort] using h2, by simpa only [PyData.weight] using h3, ?_⟩
  simp only [PyData.depth]
  omega
theorem shw_ints {l : List Int} (h : ∀ v ∈ l, v.natAbs < 10 ^ 9) {m : Nat} (hm : l.length ≤ m) : Shw (.list (l.map .int)) (m * 31) 1 := by
  refine (shw_list (w := 30) (k := 0) fun d hd => ?_).mono (by rw [List.length_map]; exact Nat.mul_le_mul_right _ hm) (Nat.le_refl _)
  obtain ⟨v, hv, rfl⟩ := List.mem_map.mp hd
  exact shw_int (h v hv)
theorem fRepr_d {d : PyData} (h : okShow d = true) (st : Store) : fRepr [.d d] st = .ok (.d (.str d.shown)) st := by
  unfold fRepr
  simp only [rdW_d, if_pos h]
theorem fEq_str (neg : Bool) (x y : Str) (st : Store) : fEq neg (.d (.str x)) (.d (.str y)) st = .ok (.d (.bool (neg != decide (x = y)))) st := by
  have q : okEq (.str x) (.str y) = true := by simp [okEq, PyData.depth]
  have e : (x == y) = decide (x = y) := by
    rw [Bool.eq_iff_iff]
    simp
  simp [fEq, rdW_d, q, PyData.eqv, e]
theorem fEq_same (neg : Bool) {d : PyData} (hp : d.plain = true) (hd : d.depth ≤ 60) (st : Store) : fEq neg (.d d) (.d d) st = .ok (.d (.bool (neg != true))) st := by
  have q : okEq d d = true := by
    unfold okEq
    rw [Nat.min_self]
    exact decide_eq_true hd
  unfold fEq
  simp only [rdW_d, if_pos q, SeqAt.eqv_refl_plain d hp]
theorem plainAll_of {ds : List PyData} (h : ∀ d ∈ ds, d.plain = true) : PyData.plainAll ds = true := by
  induction ds with
  | nil => simp [PyData.plainAll]
  | cons d ds ih => simp [PyData.plainAll, h d List.mem_cons_self, ih fun x hx => h x (List.mem_cons_of_mem _ hx)]
theorem depthAll_le {ds : List PyData} {k : Nat} (h : ∀ d ∈ ds, d.depth ≤ k) : PyData.depthAll ds ≤ k := by
  induction ds with
  | nil => exact Nat.zero_le _
  | cons d ds ih =>
    have h1 := h d List.mem_cons_self
    have h2 := ih fun x hx => h x (List.mem_cons_of_mem _ hx)
    simp only [PyData.depthAll]
    omega
theorem fEq_lay (neg : Bool) (L : List (Int × Int)) (st : Store) : fEq neg (.d (.list (L.map pr))) (.d (.list (L.map pr))) st = .ok (.d (.bool (neg != true))) st := by
  refine fEq_same neg ?_ ?_ st
  · simp only [PyData.plain]
    refine plainAll_of fun d hd => ?_
    obtain ⟨p, _, rfl⟩ := List.mem_map.mp hd
    simp [pr, PyData.plain, PyData.plainAll]
  · simp only [PyData.depth]
    have : PyData.depthAll (L.map pr) ≤ 1 := depthAll_le fun d hd => by
      obtain ⟨p, _, rfl⟩ := List.mem_map.mp hd
      simp [pr, PyData.depth, PyData.depthAll]
    omega
theorem fIn_k (neg : Bool) (a : Int) {n : Nat} {st : Store} {kvs : List (Key × W)} (h : st[n]? = some (.dct kvs)) : fIn neg (.d (.int a)) (.c n) st = .ok (.d (.bool (neg != (kget kvs (.inl a)).isSome))) st := by
  simp [fIn, keyOf, h]
theorem expoC_at {st ex : Store} {n : Nat} {ds : List PyData} (h : (st ++ ex)[n]? = some (.lst (ds.map W.d))) (hn : st.length ≤ n) : expoC st (.ok (.c n) (st ++ ex)) = .ok (.c st.length) (st ++ [.lst (ds.map W.d)]) := by
  unfold expoC
  simp only [if_pos (And.intro keeps_app hn), h, allD_map, List.take_left']
theorem expo_at {st ex : Store} {n : Nat} {ds : List PyData} (h : (st ++ ex)[n]? = some (.lst (ds.map W.d))) (hn : st.length ≤ n) : expo st (.ok (.c n) (st ++ ex)) = .ok (.d (.list ds)) st := by
  have e : ∀ k, (ds.map W.d).mapM (frz st.length (st ++ ex) k) = some ds := fun k => by
    generalize st ++ ex = S
    clear h
    induction ds with
    | nil => rfl
    | cons d ds ih => rw [List.map_cons, List.mapM_cons, frz_d, ih]; rfl
  have q : frz st.length (st ++ ex) 6 (.c n) = some (.list ds) := by
    unfold frz
    rw [if_neg (by omega), h]
    simp only [e]
    rfl
  unfold expo
  simp only [if_pos keeps_app, q, List.take_left']
/-! ### what stands against an end -/
def pget (L : List (Int × Int)) (v : Int) : Option Int := (L.flatMap fun p => [(p.1, p.2), (p.2, p.1)]).lookup v
theorem kget_part (L : List (Int × Int)) (v : Int) : kget (partK L) (.inl v) = (pget L v).map fun x => .d (.int x) := by
  unfold kget pget partK
  induction L with
  | nil => rfl
  | cons p L ih =>
    have c : ∀ (kvs : List (Key × W)) (a : Int) (w : W), ((Sum.inl a, w) :: kvs).find? (fun kv => decide (kv.1 = (.inl v : Key))) = if a = v then some (Sum.inl a, w) else kvs.find? (fun kv => decide (kv.1 = (.inl v : Key))) := fun kvs a w => by
      rw [List.find?_cons]
      by_cases h : a = v
      · rw [if_pos h, decide_eq_true (by rw [h])]
      · rw [if_neg h, decide_eq_false (fun q => h (Sum.inl.inj q))]
    have d : ∀ (l : List (Int × Int)) (a b : Int), List.lookup v ((a, b) :: l) = if a = v then some b else List.lookup v l := fun l a b => by
      rw [List.lookup_cons]
      by_cases h : a = v
      · rw [if_pos h, h]
        simp
      · rw [if_neg h, beq_false_of_ne (fun q => h q.symm)]
    simp only [List.flatMap_cons, List.cons_append, List.nil_append, c, d]
    split
    · rfl
    · split
      · rfl
      · exact ih
end VS

set_option Elab.async false
set_option linter.all false
set_option maxRecDepth 100000
set_option maxHeartbeats 400000
namespace K02
open PySem VS
/-- _law_many(pieces): 0 pieces 1 total 2 ways 3 couplings 4 left -/
noncomputable def d_law_many : Sd :=
    (sq (asgT (tiT 2 (gsCons (gN 1) (gsCons (gN 2) gsNil))) (aCons (cst (.int 0)) (aCons (cst (.int 1)) aNil)))
    (sq (forS (iRg1 (aCons (bin fAdd (vr 0) (cst (.int 1))) aNil)) (tiW (gN 3)) (sq (asg 1 (bin fAdd (vr 1) (vr 2)))
    (sq (asg 4 (bin fSub (bin fMul (cst (.int 2)) (vr 0)) (bin fMul (cst (.int 2)) (vr 3))))
    (asg 2 (bin fDiv (bin fDiv (bin fMul (bin fMul (vr 2) (vr 4)) (bin fSub (vr 4) (cst (.int 1)))) (cst (.int 2))) (bin fAdd (vr 3) (cst (.int 1))))))))
    (ret (vr 1))))
noncomputable def f_law_many : Fn := fnD 5 d_law_many
/-- partner_list(pieces, layout): 0 pieces 1 layout 2 partners 3 end -/
noncomputable def d_partner_list : Sd :=
    (sq (asg 2 (calC CB.f_couples (aCons (vr 1) aNil)))
    (ret (lcC (iSeq (cal CB.f_ends_of (aCons (vr 0) aNil))) (tiW (gN 3)) tYesD (get2 (vr 2) (vr 3) (cst (.int 0))) [3])))
noncomputable def f_partner_list : Fn := fnD 4 d_partner_list
/-- open_ends(pieces, layout): 0 pieces 1 layout 2 partners 3 end -/
noncomputable def d_open_ends : Sd :=
    (sq (drp (cal CB.f_require_one (aCons (vr 0) (aCons (vr 1) aNil))))
    (sq (asg 2 (calC CB.f_couples (aCons (vr 1) aNil)))
    (ret (lcC (iSeq (cal CB.f_ends_of (aCons (vr 0) aNil))) (tiW (gN 3)) (boo (bin (fIn true) (vr 3) (vr 2))) (vr 3) [3]))))
noncomputable def f_open_ends : Fn := fnD 4 d_open_ends
/-- partners_of(pieces, layout): 0 pieces 1 layout -/
noncomputable def d_partners_of : Sd :=
    (sq (drp (cal CB.f_require_one (aCons (vr 0) (aCons (vr 1) aNil))))
    (ret (calC f_partner_list (aCons (vr 0) (aCons (vr 1) aNil)))))
noncomputable def f_partners_of : Fn := fnD 2 d_partners_of
/-- _law_right(tap): 0 tap 1 pieces 2 layout 3 given 4 known 5 ends 6 due 7 end 8 turn 9 told -/
noncomputable def d_law_right : Sd :=
    (sq (asg 1 (bin fAdd (cst (.int 1)) (cal CB.f_law_draw (aCons (vr 0) (aCons (bin fIx (lstD (aCons (cst (.int 5)) (aCons (cst (.int 60)) aNil))) (cal CB.f_law_draw (aCons (vr 0) (aCons (cst (.int 2)) aNil)))) aNil)))))
    (sq (asg 2 (cal CB.f_law_layout (aCons (vr 0) (aCons (vr 1) aNil))))
    (sq (asgT (tiT 2 (gsCons (gN 3) (gsCons (gN 4) gsNil))) (aCons (bcall fList (aCons (vr 2) aNil)) (aCons (calC CB.f_law_partners (aCons (vr 2) aNil)) aNil)))
    (sq (asg 5 (cal CB.f_law_ends (aCons (vr 1) aNil)))
    (sq (asg 6 (lstD (aCons (lcD (iSeq (vr 5)) (tiW (gN 7)) (boo (bin (fIn true) (vr 7) (vr 4))) (vr 7) [7]) (aCons (lcD (iSeq (vr 5)) (tiW (gN 7)) tYesD (get2 (vr 4) (vr 7) (cst (.int 0))) [7]) aNil))))
    (sq (forS (iRg1 (aCons (cst (.int 2)) aNil)) (tiW (gN 8)) (sq (asg 9 (lstC (aCons (calC f_open_ends (aCons (vr 1) (aCons (vr 3) aNil))) (aCons (calC f_partners_of (aCons (vr 1) (aCons (vr 3) aNil))) aNil))))
    (sq (ifS (tOrD (boo (bin (fEq true) (bcall fRepr (aCons (vr 9) aNil)) (bcall fRepr (aCons (vr 6) aNil)))) (boo (bin (fEq true) (vr 3) (vr 2)))) (ret (cst (.bool false))) skip)
    (sq (drp (mth "list" fAppend (bin fIx (vr 9) (cst (.int 0))) (aCons (cst (.int 0)) aNil)))
    (drp (mth "list" fClear (bin fIx (vr 9) (cst (.int 1))) aNil))))))
    (sq (ifS (boo (bin (fEq true) (bcall fRepr (aCons (lcD (iSeq (vr 5)) (tiW (gN 7)) tYesD (cal CB.f_partner_of (aCons (vr 1) (aCons (vr 3) (aCons (vr 7) aNil)))) [7]) aNil)) (bcall fRepr (aCons (lcD (iSeq (vr 5)) (tiW (gN 7)) tYesD (get1 (vr 4) (vr 7)) [7]) aNil)))) (ret (cst (.bool false))) skip)
    (ret (vAnd (bin (fEq false) (bcall fRepr (aCons (cal CB.f_count_layouts (aCons (vr 1) aNil)) aNil)) (bcall fRepr (aCons (cal f_law_many (aCons (vr 1) aNil)) aNil))) (bin (fEq false) (vr 3) (vr 2)))))))))))
noncomputable def f_law_right : Fn := fnD 10 d_law_right
/-- law(script): 0 script 1 cells 2 k -/
noncomputable def d_law : Sd :=
    (sq (asg 1 (cal CB.f_law_cells (aCons (vr 0) (aCons (cst (.int 6)) aNil))))
    (sq (ifS (boo (bin (fEq true) (lcD (iRg1 (aCons (bcall fLen (aCons (vr 1) aNil)) aNil)) (tiW (gN 2)) (tNotD (tru (cal f_law_right (aCons (calC CB.f_law_tap (aCons (bin fIx (vr 1) (vr 2)) (aCons (vr 2) aNil))) aNil)))) (vr 2) [2]) (lstD aNil))) (ret (cst (.bool false))) skip)
    (ret (bin (fEq false) (lstD (aCons (cal CB.f_count_layouts (aCons (cst (.int 1)) aNil)) (aCons (cal CB.f_count_layouts (aCons (cst (.int 2)) aNil)) (aCons (cal CB.f_count_layouts (aCons (cst (.int 3)) aNil)) (aCons (cal CB.f_count_layouts (aCons (cst (.int 60)) aNil)) aNil))))) (lstD (aCons (cst (.int 2)) (aCons (cst (.int 10)) (aCons (cst (.int 76)) (aCons (cal f_law_many (aCons (cst (.int 60)) aNil)) aNil)))))))))
noncomputable def f_law : Fn := fnD 3 d_law
end K02
namespace K02
open PySem PySem.Spec PyProof.Rows L2 VS
def topS (i : Nat) : Stmt := PySem.Challenge.pw_crosshitch_k02_ends_and_partners.main.body.getD i (.Pass ⟨0, 0, 0, 0⟩)
structure Bi (mg : Str → Option Value) : Prop where
  abs_ : mg "abs" = none
  bool_ : mg "bool" = none
  enumerate_ : mg "enumerate" = none
  int_ : mg "int" = none
  isinstance_ : mg "isinstance" = none
  len_ : mg "len" = none
  list_ : mg "list" = none
  max_ : mg "max" = none
  min_ : mg "min" = none
  range_ : mg "range" = none
  repr_ : mg "repr" = none
  sorted_ : mg "sorted" = none
  tuple_ : mg "tuple" = none
  MOST_PIECES_ : ∃ t, mg "MOST_PIECES" = some (.int 60 t)
section
variable {P : Program} {w : World} {K : Frg} {mg : Str → Option Value} {base : Heap} {CA : Nat → Addr}
theorem sc_is_integer : FnScope ["value"] ["value"] (defScope (topS 7)) := ⟨rfl, rfl, rfl, by decide +kernel, rfl, by decide +kernel, by decide +kernel⟩
theorem ok_is_integer (B : Bi mg) (T : DefT K mg "is_integer" (topS 7) ["value"])  : FnF P w K mg base CA "is_integer" 1 ["value"] CB.f_is_integer :=
  fnF_mk T sc_is_integer fun f cdv A out s H E ck hr => ((ss_one (ss_ret (se_and (se_isi (se_vr 0) B.isinstance_ B.int_) (se_one (se_not (se_isi (se_vr 0) B.isinstance_ B.bool_)))))))
theorem sc_ends_of : FnScope ["pieces", "end"] ["pieces"] (defScope (topS 17)) := ⟨rfl, rfl, rfl, by decide +kernel, rfl, by decide +kernel, by decide +kernel⟩
theorem ok_ends_of (B : Bi mg) (T : DefT K mg "ends_of" (topS 17) ["pieces"])  : FnF P w K mg base CA "ends_of" 1 ["pieces"] CB.f_ends_of :=
  fnF_mk T sc_ends_of fun f cdv A out s H E ck hr => ((ss_one (ss_ret (se_lc (own := [("end", 1)]) ck (si_rng2 (sa_cons (se_neg (se_vr 0)) (sa_cons (e_add (se_vr 0) se_int) sa_nil)) B.range_) (blkOk_by (N := ["pieces", "end"]) (sc := defScope (topS 17)) (own := [("end", 1)]) (by decide +kernel)) (blkG ck fun s H L cl fp ck1 => (sgc_name ck1.nd 1)) (blkT ck fun s H L cl fp ck1 => (sts_one (t_ne ck1 (se_vr 1) se_int))) (blkE ck fun s H L cl fp ck1 => (se_vr 1))))))
theorem sc_couples : FnScope ["layout", "found", "first", "second"] ["layout"] (defScope (topS 18)) := ⟨rfl, rfl, rfl, by decide +kernel, rfl, by decide +kernel, by decide +kernel⟩
theorem ok_couples (B : Bi mg) (T : DefT K mg "couples" (topS 18) ["layout"])  : FnF P w K mg base CA "couples" 1 ["layout"] CB.f_couples :=
  fnF_mk T sc_couples fun f cdv A out s H E ck hr => ((ss_cons (ss_asg ck.nd se_dct)
    (ss_cons (ss_for ck (si_seq (se_vr 0)) (sgi_tup ck.calm (sgs_cons (sg_name ck.nd 2) (sgs_cons (sg_name ck.nd 3) sgs_nil))) (ss_one (ss_tupG (sa_cons (se_vr 3) (sa_cons (se_vr 2) sa_nil)) (sgi_tup ck.calm (sgs_cons (sg_sub ck.hu (se_vr 1) (se_vr 2)) (sgs_cons (sg_sub ck.hu (se_vr 1) (se_vr 3)) sgs_nil))))))
    (ss_one (ss_ret (se_vr 1))))))
theorem sc_law_tap : FnScope ["cell", "turn", "whole"] ["cell", "turn"] (defScope (topS 24)) := ⟨rfl, rfl, rfl, by decide +kernel, rfl, by decide +kernel, by decide +kernel⟩
theorem ok_law_tap (B : Bi mg) (T : DefT K mg "_law_tap" (topS 24) ["cell", "turn"])  : FnF P w K mg base CA "_law_tap" 1 ["cell", "turn"] CB.f_law_tap :=
  fnF_mk T sc_law_tap fun f cdv A out s H E ck hr => ((ss_cons (ss_asg ck.nd (e_add (e_mul se_int (se_callB call_abs by_abs (sa_cons (se_vr 0) sa_nil) B.abs_)) (se_callTy call_int1 by_int (sa_cons (e_lt ck (se_vr 0) se_int) sa_nil) B.int_)))
    (ss_one (ss_ret (se_lstC (sa_cons (se_vr 2) (sa_cons (e_add (e_add (e_mod (se_callTy call_int1 by_int (sa_cons (se_vr 2) sa_nil) B.int_) se_int) (e_mul se_int (se_vr 1))) se_int) (sa_cons (e_add (e_add (e_mod (se_callTy call_int1 by_int (sa_cons (se_vr 2) sa_nil) B.int_) se_int) (e_mul se_int (se_vr 1))) se_int) sa_nil))))))))
theorem sc_law_draw : FnScope ["tap", "bound", "found"] ["tap", "bound"] (defScope (topS 25)) := ⟨rfl, rfl, rfl, by decide +kernel, rfl, by decide +kernel, by decide +kernel⟩
theorem ok_law_draw (B : Bi mg) (T : DefT K mg "_law_draw" (topS 25) ["tap", "bound"])  : FnF P w K mg base CA "_law_draw" 1 ["tap", "bound"] CB.f_law_draw :=
  fnF_mk T sc_law_draw fun f cdv A out s H E ck hr => ((ss_cons (ss_if (t_ge ck (e_ix ck (se_vr 0) se_int) (e_pow se_int se_int)) (ss_cons (ss_asg ck.nd (e_mod (se_callTy call_int1 by_int (sa_cons (e_ix ck (se_vr 0) se_int) sa_nil) B.int_) (se_vr 1)))
    (ss_cons (ss_asgG (e_div (e_ix ck (se_vr 0) se_int) (se_vr 1)) (sg_sub ck.hu (se_vr 0) se_int))
    (ss_one (ss_ret (se_vr 2))))) ss_nil)
    (ss_cons (ss_asgG (e_mod (se_callTy call_int1 by_int (sa_cons (e_add (e_mul (e_ix ck (se_vr 0) se_int) se_int) se_int) sa_nil) B.int_) se_int) (sg_sub ck.hu (se_vr 0) se_int))
    (ss_cons (ss_asgG (e_mod (se_callTy call_int1 by_int (sa_cons (e_add (e_mul (e_ix ck (se_vr 0) se_int) (e_ix ck (se_vr 0) se_int)) (e_ix ck (se_vr 0) se_int)) sa_nil) B.int_) se_int) (sg_sub ck.hu (se_vr 0) se_int))
    (ss_one (ss_ret (e_mod (se_callTy call_int1 by_int (sa_cons (e_add (e_div (e_ix ck (se_vr 0) se_int) se_int) (e_div (e_ix ck (se_vr 0) se_int) se_int)) sa_nil) B.int_) (se_vr 1))))))))
theorem sc_law_cells : FnScope ["script", "many"] ["script", "many"] (defScope (topS 26)) := ⟨rfl, rfl, rfl, by decide +kernel, rfl, by decide +kernel, by decide +kernel⟩
theorem ok_law_cells (B : Bi mg) (T : DefT K mg "_law_cells" (topS 26) ["script", "many"])  : FnF P w K mg base CA "_law_cells" 1 ["script", "many"] CB.f_law_cells :=
  fnF_mk T sc_law_cells fun f cdv A out s H E ck hr => ((ss_one (ss_ret (se_slc (e_add (se_vr 0) (se_lst (sa_cons se_int sa_nil))) so_none (so_some (se_callB (call_max2 ck.calm) by_max2 (sa_cons se_int (sa_cons (se_callB (call_min2 ck.calm) by_min2 (sa_cons (se_vr 1) (sa_cons (se_callB lenR by_len (sa_cons (se_vr 0) sa_nil) B.len_) sa_nil)) B.min_) sa_nil)) B.max_))))))
theorem sc_law_ends : FnScope ["pieces", "end"] ["pieces"] (defScope (topS 27)) := ⟨rfl, rfl, rfl, by decide +kernel, rfl, by decide +kernel, by decide +kernel⟩
theorem ok_law_ends (B : Bi mg) (T : DefT K mg "_law_ends" (topS 27) ["pieces"])  : FnF P w K mg base CA "_law_ends" 1 ["pieces"] CB.f_law_ends :=
  fnF_mk T sc_law_ends fun f cdv A out s H E ck hr => ((ss_one (ss_ret (se_lcC (own := [("end", 1)]) ck (si_rng2 (sa_cons (e_sub se_int (se_vr 0)) (sa_cons (e_add (se_vr 0) se_int) sa_nil)) B.range_) (blkOk_by (N := ["pieces", "end"]) (sc := defScope (topS 27)) (own := [("end", 1)]) (by decide +kernel)) (blkG ck fun s H L cl fp ck1 => (sgc_name ck1.nd 1)) (blkT ck fun s H L cl fp ck1 => (sts_one (t_ne ck1 (se_vr 1) se_int))) (blkE ck fun s H L cl fp ck1 => (se_vr 1))))))
theorem sc_law_pair : FnScope ["one", "other"] ["one", "other"] (defScope (topS 28)) := ⟨rfl, rfl, rfl, by decide +kernel, rfl, by decide +kernel, by decide +kernel⟩
theorem ok_law_pair (B : Bi mg) (T : DefT K mg "_law_pair" (topS 28) ["one", "other"])  : FnF P w K mg base CA "_law_pair" 1 ["one", "other"] CB.f_law_pair :=
  fnF_mk T sc_law_pair fun f cdv A out s H E ck hr => ((ss_one (ss_ret (se_tup (sa_cons (se_callB (call_min2 ck.calm) by_min2 (sa_cons (se_vr 0) (sa_cons (se_vr 1) sa_nil)) B.min_) (sa_cons (se_callB (call_max2 ck.calm) by_max2 (sa_cons (se_vr 0) (sa_cons (se_vr 1) sa_nil)) B.max_) sa_nil))))))
theorem sc_law_partners : FnScope ["layout", "found", "one", "other"] ["layout"] (defScope (topS 29)) := ⟨rfl, rfl, rfl, by decide +kernel, rfl, by decide +kernel, by decide +kernel⟩
theorem ok_law_partners (B : Bi mg) (T : DefT K mg "_law_partners" (topS 29) ["layout"])  : FnF P w K mg base CA "_law_partners" 1 ["layout"] CB.f_law_partners :=
  fnF_mk T sc_law_partners fun f cdv A out s H E ck hr => ((ss_cons (ss_asg ck.nd se_dct)
    (ss_cons (ss_for ck (si_seq (se_vr 0)) (sgi_tup ck.calm (sgs_cons (sg_name ck.nd 2) (sgs_cons (sg_name ck.nd 3) sgs_nil))) (ss_cons (ss_asgG (se_vr 3) (sg_sub ck.hu (se_vr 1) (se_vr 2)))
    (ss_one (ss_asgG (se_vr 2) (sg_sub ck.hu (se_vr 1) (se_vr 3))))))
    (ss_one (ss_ret (se_vr 1))))))
theorem sc_law_many : FnScope ["pieces", "total", "ways", "couplings", "left"] ["pieces"] (defScope (topS 31)) := ⟨rfl, rfl, rfl, by decide +kernel, rfl, by decide +kernel, by decide +kernel⟩
theorem ok_law_many (B : Bi mg) (T : DefT K mg "_law_many" (topS 31) ["pieces"])  : FnF P w K mg base CA "_law_many" 1 ["pieces"] f_law_many :=
  fnF_mk T sc_law_many fun f cdv A out s H E ck hr => ((ss_cons (ss_tupG (sa_cons se_int (sa_cons se_int sa_nil)) (sgi_tup ck.calm (sgs_cons (sg_name ck.nd 1) (sgs_cons (sg_name ck.nd 2) sgs_nil))))
    (ss_cons (ss_for ck (si_rng1 (sa_cons (e_add (se_vr 0) se_int) sa_nil) B.range_) (sgi_w (sg_name ck.nd 3)) (ss_cons (ss_asg ck.nd (e_add (se_vr 1) (se_vr 2)))
    (ss_cons (ss_asg ck.nd (e_sub (e_mul se_int (se_vr 0)) (e_mul se_int (se_vr 3))))
    (ss_one (ss_asg ck.nd (e_div (e_div (e_mul (e_mul (se_vr 2) (se_vr 4)) (e_sub (se_vr 4) se_int)) se_int) (e_add (se_vr 3) se_int)))))))
    (ss_one (ss_ret (se_vr 1))))))
theorem sc_is_end : FnScope ["pieces", "value"] ["pieces", "value"] (defScope (topS 8)) := ⟨rfl, rfl, rfl, by decide +kernel, rfl, by decide +kernel, by decide +kernel⟩
theorem ok_is_end (B : Bi mg) (T : DefT K mg "is_end" (topS 8) ["pieces", "value"]) (F_is_integer : FnF P w K mg base CA "is_integer" 1 ["value"] CB.f_is_integer) : FnF P w K mg base CA "is_end" 2 ["pieces", "value"] CB.f_is_end :=
  fnF_mk T sc_is_end fun f cdv A out s H E ck hr => ((ss_one (ss_ret (se_and (se_cal ck F_is_integer hr (sa_cons (se_vr 1) sa_nil)) (se_and (e_ne ck (se_vr 1) se_int) (se_one (e_ch ck (o_le ck) (o_le ck) (se_neg (se_vr 0)) (se_vr 1) (se_vr 0))))))))
theorem sc_require_pieces : FnScope ["pieces"] ["pieces"] (defScope (topS 11)) := ⟨rfl, rfl, rfl, by decide +kernel, rfl, by decide +kernel, by decide +kernel⟩
theorem ok_require_pieces (B : Bi mg) (T : DefT K mg "require_pieces" (topS 11) ["pieces"]) (F_is_integer : FnF P w K mg base CA "is_integer" 1 ["value"] CB.f_is_integer) : FnF P w K mg base CA "require_pieces" 2 ["pieces"] CB.f_require_pieces :=
  fnF_mk T sc_require_pieces fun f cdv A out s H E ck hr => ((ss_one (ss_if (SW.pt (sw_or (st_not (st_tru (se_cal ck F_is_integer hr (sa_cons (se_vr 0) sa_nil)))) (sw_or1 (st_not (t_ch ck (o_le ck) (o_le ck) se_int (se_vr 0) (se_globI B.MOST_PIECES_)))))) (ss_one ss_never) ss_nil)))
theorem sc_partner_list : FnScope ["pieces", "layout", "partners", "end"] ["pieces", "layout"] (defScope (topS 21)) := ⟨rfl, rfl, rfl, by decide +kernel, rfl, by decide +kernel, by decide +kernel⟩
theorem ok_partner_list (B : Bi mg) (T : DefT K mg "partner_list" (topS 21) ["pieces", "layout"]) (F_couples : FnF P w K mg base CA "couples" 1 ["layout"] CB.f_couples) (F_ends_of : FnF P w K mg base CA "ends_of" 1 ["pieces"] CB.f_ends_of) : FnF P w K mg base CA "partner_list" 2 ["pieces", "layout"] f_partner_list :=
  fnF_mk T sc_partner_list fun f cdv A out s H E ck hr => ((ss_cons (ss_asg ck.nd (se_calC ck F_couples hr (sa_cons (se_vr 1) sa_nil)))
    (ss_one (ss_ret (se_lcC (own := [("end", 3)]) ck (si_seq (se_cal ck F_ends_of hr (sa_cons (se_vr 0) sa_nil))) (blkOk_by (N := ["pieces", "layout", "partners", "end"]) (sc := defScope (topS 21)) (own := [("end", 3)]) (by decide +kernel)) (blkG ck fun s H L cl fp ck1 => (sgc_name ck1.nd 3)) (blkT ck fun s H L cl fp ck1 => sts_nil) (blkE ck fun s H L cl fp ck1 => (se_get2 ck1 (se_vr 2) (se_vr 3) se_int)))))))
theorem sc_law_layout : FnScope ["tap", "pieces", "left", "found", "part", "one", "other"] ["tap", "pieces"] (defScope (topS 30)) := ⟨rfl, rfl, rfl, by decide +kernel, rfl, by decide +kernel, by decide +kernel⟩
theorem ok_law_layout (B : Bi mg) (T : DefT K mg "_law_layout" (topS 30) ["tap", "pieces"]) (F_law_ends : FnF P w K mg base CA "_law_ends" 1 ["pieces"] CB.f_law_ends) (F_law_draw : FnF P w K mg base CA "_law_draw" 1 ["tap", "bound"] CB.f_law_draw) (F_law_pair : FnF P w K mg base CA "_law_pair" 1 ["one", "other"] CB.f_law_pair) : FnF P w K mg base CA "_law_layout" 2 ["tap", "pieces"] CB.f_law_layout :=
  fnF_mk T sc_law_layout fun f cdv A out s H E ck hr => ((ss_cons (ss_par ck.calm ck.nd (sa_cons (se_calC ck F_law_ends hr (sa_cons (se_vr 1) sa_nil)) (sa_cons (se_lstC sa_nil) sa_nil)))
    (ss_cons (ss_asg ck.nd (e_ix ck (se_lst (sa_cons se_int (sa_cons se_int (sa_cons se_int (sa_cons se_int (sa_cons se_int sa_nil)))))) (se_cal ck F_law_draw hr (sa_cons (se_vr 0) (sa_cons se_int sa_nil)))))
    (ss_cons (ss_while ck (t_gt ck (se_callB lenR by_len (sa_cons (se_vr 2) sa_nil) B.len_) se_int) (ss_cons (ss_asg ck.nd (se_bm PySem.F.plainAttrs_list PySem.F.slot_list_pop PySem.F.type_list_pop mt_popAt by_popAt (se_vr 2) (sa_cons (se_cal ck F_law_draw hr (sa_cons (se_vr 0) (sa_cons (se_callB lenR by_len (sa_cons (se_vr 2) sa_nil) B.len_) sa_nil))) sa_nil)))
    (ss_cons (ss_asg ck.nd (se_bm PySem.F.plainAttrs_list PySem.F.slot_list_pop PySem.F.type_list_pop mt_popAt by_popAt (se_vr 2) (sa_cons (se_cal ck F_law_draw hr (sa_cons (se_vr 0) (sa_cons (se_callB lenR by_len (sa_cons (se_vr 2) sa_nil) B.len_) sa_nil))) sa_nil)))
    (ss_one (ss_if (t_lt ck (se_cal ck F_law_draw hr (sa_cons (se_vr 0) (sa_cons se_int sa_nil))) (se_vr 4)) (ss_one (ss_drp (e_app ck (se_vr 3) (se_cal ck F_law_pair hr (sa_cons (se_vr 5) (sa_cons (se_vr 6) sa_nil)))))) ss_nil)))))
    (ss_one (ss_ret (se_callB (sortedR ck.hu) by_sorted (sa_cons (se_vr 3) sa_nil) B.sorted_)))))))
theorem sc_is_coupling : FnScope ["pieces", "value"] ["pieces", "value"] (defScope (topS 9)) := ⟨rfl, rfl, rfl, by decide +kernel, rfl, by decide +kernel, by decide +kernel⟩
theorem ok_is_coupling (B : Bi mg) (T : DefT K mg "is_coupling" (topS 9) ["pieces", "value"]) (F_is_end : FnF P w K mg base CA "is_end" 2 ["pieces", "value"] CB.f_is_end) : FnF P w K mg base CA "is_coupling" 3 ["pieces", "value"] CB.f_is_coupling :=
  fnF_mk T sc_is_coupling fun f cdv A out s H E ck hr => ((ss_cons (ss_if (SW.pt (sw_or (st_not (st_tru (se_isi (se_vr 1) B.isinstance_ B.tuple_))) (sw_or1 (t_ne ck (se_callB lenR by_len (sa_cons (se_vr 1) sa_nil) B.len_) se_int)))) (ss_one (ss_ret se_bl)) ss_nil)
    (ss_one (ss_ret (se_and (se_cal ck F_is_end hr (sa_cons (se_vr 0) (sa_cons (e_ix ck (se_vr 1) se_int) sa_nil))) (se_and (se_cal ck F_is_end hr (sa_cons (se_vr 0) (sa_cons (e_ix ck (se_vr 1) se_int) sa_nil))) (se_one (e_lt ck (e_ix ck (se_vr 1) se_int) (e_ix ck (se_vr 1) se_int)))))))))
theorem sc_require_end : FnScope ["pieces", "end"] ["pieces", "end"] (defScope (topS 14)) := ⟨rfl, rfl, rfl, by decide +kernel, rfl, by decide +kernel, by decide +kernel⟩
theorem ok_require_end (B : Bi mg) (T : DefT K mg "require_end" (topS 14) ["pieces", "end"]) (F_is_end : FnF P w K mg base CA "is_end" 2 ["pieces", "value"] CB.f_is_end) : FnF P w K mg base CA "require_end" 3 ["pieces", "end"] CB.f_require_end :=
  fnF_mk T sc_require_end fun f cdv A out s H E ck hr => ((ss_one (ss_if (st_not (st_tru (se_cal ck F_is_end hr (sa_cons (se_vr 0) (sa_cons (se_vr 1) sa_nil))))) (ss_one ss_never) ss_nil)))
theorem sc_count_layouts : FnScope ["pieces", "less", "more", "ends"] ["pieces"] (defScope (topS 16)) := ⟨rfl, rfl, rfl, by decide +kernel, rfl, by decide +kernel, by decide +kernel⟩
theorem ok_count_layouts (B : Bi mg) (T : DefT K mg "count_layouts" (topS 16) ["pieces"]) (F_require_pieces : FnF P w K mg base CA "require_pieces" 2 ["pieces"] CB.f_require_pieces) : FnF P w K mg base CA "count_layouts" 3 ["pieces"] CB.f_count_layouts :=
  fnF_mk T sc_count_layouts fun f cdv A out s H E ck hr => ((ss_cons (ss_drp (se_cal ck F_require_pieces hr (sa_cons (se_vr 0) sa_nil)))
    (ss_cons (ss_tupG (sa_cons se_int (sa_cons se_int sa_nil)) (sgi_tup ck.calm (sgs_cons (sg_name ck.nd 1) (sgs_cons (sg_name ck.nd 2) sgs_nil))))
    (ss_cons (ss_for ck (si_rng2 (sa_cons se_int (sa_cons (e_add (e_mul se_int (se_vr 0)) se_int) sa_nil)) B.range_) (sgi_w (sg_name ck.nd 3)) (ss_one (ss_par ck.calm ck.nd (sa_cons (se_vr 2) (sa_cons (e_add (se_vr 2) (e_mul (e_sub (se_vr 3) se_int) (se_vr 1))) sa_nil)))))
    (ss_one (ss_ret (se_vr 2)))))))
theorem sc_layout_fault : FnScope ["pieces", "value", "used", "index", "item"] ["pieces", "value"] (defScope (topS 10)) := ⟨rfl, rfl, rfl, by decide +kernel, rfl, by decide +kernel, by decide +kernel⟩
theorem ok_layout_fault (B : Bi mg) (T : DefT K mg "layout_fault" (topS 10) ["pieces", "value"]) (F_is_coupling : FnF P w K mg base CA "is_coupling" 3 ["pieces", "value"] CB.f_is_coupling) : FnF P w K mg base CA "layout_fault" 4 ["pieces", "value"] CB.f_layout_fault :=
  fnF_mk T sc_layout_fault fun f cdv A out s H E ck hr => ((ss_cons (ss_if (st_not (st_tru (se_isi (se_vr 1) B.isinstance_ B.list_))) (ss_one (ss_ret (se_tup (sa_cons se_non sa_nil)))) ss_nil)
    (ss_cons (ss_asg ck.nd se_dct)
    (ss_cons (ss_for ck (si_enu (se_vr 1) B.enumerate_) (sgi_tup ck.calm (sgs_cons (sg_name ck.nd 3) (sgs_cons (sg_name ck.nd 4) sgs_nil))) (ss_cons (ss_if (SW.pt (sw_or (st_not (st_tru (se_cal ck F_is_coupling hr (sa_cons (se_vr 0) (sa_cons (se_vr 4) sa_nil))))) (sw_or (t_in ck (e_ix ck (se_vr 4) se_int) (se_vr 2)) (sw_or1 (t_in ck (e_ix ck (se_vr 4) se_int) (se_vr 2)))))) (ss_one (ss_ret (se_tup (sa_cons (se_vr 3) sa_nil)))) ss_nil)
    (ss_cons (ss_if (SW.pt (sw_and (t_gt ck (se_vr 3) se_int) (sw_and1 (t_le ck (se_vr 4) (e_ix ck (se_vr 1) (e_sub (se_vr 3) se_int)))))) (ss_one (ss_ret (se_tup (sa_cons (se_vr 3) sa_nil)))) ss_nil)
    (ss_one (ss_tupG (sa_cons se_bl (sa_cons se_bl sa_nil)) (sgi_tup ck.calm (sgs_cons (sg_sub ck.hu (se_vr 2) (e_ix ck (se_vr 4) se_int)) (sgs_cons (sg_sub ck.hu (se_vr 2) (e_ix ck (se_vr 4) se_int)) sgs_nil))))))))
    (ss_one (ss_ret (se_tup sa_nil)))))))
theorem sc_require_layout : FnScope ["pieces", "layout", "fault"] ["pieces", "layout"] (defScope (topS 12)) := ⟨rfl, rfl, rfl, by decide +kernel, rfl, by decide +kernel, by decide +kernel⟩
theorem ok_require_layout (B : Bi mg) (T : DefT K mg "require_layout" (topS 12) ["pieces", "layout"]) (F_layout_fault : FnF P w K mg base CA "layout_fault" 4 ["pieces", "value"] CB.f_layout_fault) : FnF P w K mg base CA "require_layout" 5 ["pieces", "layout"] CB.f_require_layout :=
  fnF_mk T sc_require_layout fun f cdv A out s H E ck hr => ((ss_cons (ss_asg ck.nd (se_cal ck F_layout_fault hr (sa_cons (se_vr 0) (sa_cons (se_vr 1) sa_nil))))
    (ss_one (ss_if (t_ne ck (se_vr 2) (se_tup sa_nil)) (ss_one ss_never) ss_nil))))
theorem sc_require_one : FnScope ["pieces", "layout"] ["pieces", "layout"] (defScope (topS 13)) := ⟨rfl, rfl, rfl, by decide +kernel, rfl, by decide +kernel, by decide +kernel⟩
theorem ok_require_one (B : Bi mg) (T : DefT K mg "require_one" (topS 13) ["pieces", "layout"]) (F_require_pieces : FnF P w K mg base CA "require_pieces" 2 ["pieces"] CB.f_require_pieces) (F_require_layout : FnF P w K mg base CA "require_layout" 5 ["pieces", "layout"] CB.f_require_layout) : FnF P w K mg base CA "require_one" 6 ["pieces", "layout"] CB.f_require_one :=
  fnF_mk T sc_require_one fun f cdv A out s H E ck hr => ((ss_cons (ss_drp (se_cal ck F_require_pieces hr (sa_cons (se_vr 0) sa_nil)))
    (ss_one (ss_drp (se_cal ck F_require_layout hr (sa_cons (se_vr 0) (sa_cons (se_vr 1) sa_nil)))))))
theorem sc_open_ends : FnScope ["pieces", "layout", "partners", "end"] ["pieces", "layout"] (defScope (topS 19)) := ⟨rfl, rfl, rfl, by decide +kernel, rfl, by decide +kernel, by decide +kernel⟩
theorem ok_open_ends (B : Bi mg) (T : DefT K mg "open_ends" (topS 19) ["pieces", "layout"]) (F_require_one : FnF P w K mg base CA "require_one" 6 ["pieces", "layout"] CB.f_require_one) (F_couples : FnF P w K mg base CA "couples" 1 ["layout"] CB.f_couples) (F_ends_of : FnF P w K mg base CA "ends_of" 1 ["pieces"] CB.f_ends_of) : FnF P w K mg base CA "open_ends" 7 ["pieces", "layout"] f_open_ends :=
  fnF_mk T sc_open_ends fun f cdv A out s H E ck hr => ((ss_cons (ss_drp (se_cal ck F_require_one hr (sa_cons (se_vr 0) (sa_cons (se_vr 1) sa_nil))))
    (ss_cons (ss_asg ck.nd (se_calC ck F_couples hr (sa_cons (se_vr 1) sa_nil)))
    (ss_one (ss_ret (se_lcC (own := [("end", 3)]) ck (si_seq (se_cal ck F_ends_of hr (sa_cons (se_vr 0) sa_nil))) (blkOk_by (N := ["pieces", "layout", "partners", "end"]) (sc := defScope (topS 19)) (own := [("end", 3)]) (by decide +kernel)) (blkG ck fun s H L cl fp ck1 => (sgc_name ck1.nd 3)) (blkT ck fun s H L cl fp ck1 => (sts_one (t_nin ck1 (se_vr 3) (se_vr 2)))) (blkE ck fun s H L cl fp ck1 => (se_vr 3))))))))
theorem sc_partner_of : FnScope ["pieces", "layout", "end"] ["pieces", "layout", "end"] (defScope (topS 20)) := ⟨rfl, rfl, rfl, by decide +kernel, rfl, by decide +kernel, by decide +kernel⟩
theorem ok_partner_of (B : Bi mg) (T : DefT K mg "partner_of" (topS 20) ["pieces", "layout", "end"]) (F_require_one : FnF P w K mg base CA "require_one" 6 ["pieces", "layout"] CB.f_require_one) (F_require_end : FnF P w K mg base CA "require_end" 3 ["pieces", "end"] CB.f_require_end) (F_couples : FnF P w K mg base CA "couples" 1 ["layout"] CB.f_couples) : FnF P w K mg base CA "partner_of" 7 ["pieces", "layout", "end"] CB.f_partner_of :=
  fnF_mk T sc_partner_of fun f cdv A out s H E ck hr => ((ss_cons (ss_drp (se_cal ck F_require_one hr (sa_cons (se_vr 0) (sa_cons (se_vr 1) sa_nil))))
    (ss_cons (ss_drp (se_cal ck F_require_end hr (sa_cons (se_vr 0) (sa_cons (se_vr 2) sa_nil))))
    (ss_one (ss_ret (se_get1 ck (se_calC ck F_couples hr (sa_cons (se_vr 1) sa_nil)) (se_vr 2)))))))
theorem sc_partners_of : FnScope ["pieces", "layout"] ["pieces", "layout"] (defScope (topS 22)) := ⟨rfl, rfl, rfl, by decide +kernel, rfl, by decide +kernel, by decide +kernel⟩
theorem ok_partners_of (B : Bi mg) (T : DefT K mg "partners_of" (topS 22) ["pieces", "layout"]) (F_require_one : FnF P w K mg base CA "require_one" 6 ["pieces", "layout"] CB.f_require_one) (F_partner_list : FnF P w K mg base CA "partner_list" 2 ["pieces", "layout"] f_partner_list) : FnF P w K mg base CA "partners_of" 7 ["pieces", "layout"] f_partners_of :=
  fnF_mk T sc_partners_of fun f cdv A out s H E ck hr => ((ss_cons (ss_drp (se_cal ck F_require_one hr (sa_cons (se_vr 0) (sa_cons (se_vr 1) sa_nil))))
    (ss_one (ss_ret (se_calC ck F_partner_list hr (sa_cons (se_vr 0) (sa_cons (se_vr 1) sa_nil)))))))
theorem sc_law_right : FnScope ["tap", "pieces", "layout", "given", "known", "ends", "due", "end", "turn", "told"] ["tap"] (defScope (topS 32)) := ⟨rfl, rfl, rfl, by decide +kernel, rfl, by decide +kernel, by decide +kernel⟩
theorem ok_law_right (B : Bi mg) (T : DefT K mg "_law_right" (topS 32) ["tap"]) (F_law_draw : FnF P w K mg base CA "_law_draw" 1 ["tap", "bound"] CB.f_law_draw) (F_law_layout : FnF P w K mg base CA "_law_layout" 2 ["tap", "pieces"] CB.f_law_layout) (F_law_partners : FnF P w K mg base CA "_law_partners" 1 ["layout"] CB.f_law_partners) (F_law_ends : FnF P w K mg base CA "_law_ends" 1 ["pieces"] CB.f_law_ends) (F_partners_of : FnF P w K mg base CA "partners_of" 7 ["pieces", "layout"] f_partners_of) (F_open_ends : FnF P w K mg base CA "open_ends" 7 ["pieces", "layout"] f_open_ends) (F_partner_of : FnF P w K mg base CA "partner_of" 7 ["pieces", "layout", "end"] CB.f_partner_of) (F_count_layouts : FnF P w K mg base CA "count_layouts" 3 ["pieces"] CB.f_count_layouts) (F_law_many : FnF P w K mg base CA "_law_many" 1 ["pieces"] f_law_many) : FnF P w K mg base CA "_law_right" 8 ["tap"] f_law_right :=
  fnF_mk T sc_law_right fun f cdv A out s H E ck hr => ((ss_cons (ss_asg ck.nd (e_add se_int (se_cal ck F_law_draw hr (sa_cons (se_vr 0) (sa_cons (e_ix ck (se_lst (sa_cons se_int (sa_cons se_int sa_nil))) (se_cal ck F_law_draw hr (sa_cons (se_vr 0) (sa_cons se_int sa_nil)))) sa_nil)))))
    (ss_cons (ss_asg ck.nd (se_cal ck F_law_layout hr (sa_cons (se_vr 0) (sa_cons (se_vr 1) sa_nil))))
    (ss_cons (ss_tupG (sa_cons (se_callTy call_list_of by_list (sa_cons (se_vr 2) sa_nil) B.list_) (sa_cons (se_calC ck F_law_partners hr (sa_cons (se_vr 2) sa_nil)) sa_nil)) (sgi_tup ck.calm (sgs_cons (sg_name ck.nd 3) (sgs_cons (sg_name ck.nd 4) sgs_nil))))
    (ss_cons (ss_asg ck.nd (se_cal ck F_law_ends hr (sa_cons (se_vr 1) sa_nil)))
    (ss_cons (ss_asg ck.nd (se_lst (sa_cons (se_lc (own := [("end", 7)]) ck (si_seq (se_vr 5)) (blkOk_by (N := ["tap", "pieces", "layout", "given", "known", "ends", "due", "end", "turn", "told"]) (sc := defScope (topS 32)) (own := [("end", 7)]) (by decide +kernel)) (blkG ck fun s H L cl fp ck1 => (sgc_name ck1.nd 7)) (blkT ck fun s H L cl fp ck1 => (sts_one (t_nin ck1 (se_vr 7) (se_vr 4)))) (blkE ck fun s H L cl fp ck1 => (se_vr 7))) (sa_cons (se_lc (own := [("end", 7)]) ck (si_seq (se_vr 5)) (blkOk_by (N := ["tap", "pieces", "layout", "given", "known", "ends", "due", "end", "turn", "told"]) (sc := defScope (topS 32)) (own := [("end", 7)]) (by decide +kernel)) (blkG ck fun s H L cl fp ck1 => (sgc_name ck1.nd 7)) (blkT ck fun s H L cl fp ck1 => sts_nil) (blkE ck fun s H L cl fp ck1 => (se_get2 ck1 (se_vr 4) (se_vr 7) se_int))) sa_nil))))
    (ss_cons (ss_for ck (si_rng1 (sa_cons se_int sa_nil) B.range_) (sgi_w (sg_name ck.nd 8)) (ss_cons (ss_asg ck.nd (se_lstC (sa_cons (se_calC ck F_open_ends hr (sa_cons (se_vr 1) (sa_cons (se_vr 3) sa_nil))) (sa_cons (se_calC ck F_partners_of hr (sa_cons (se_vr 1) (sa_cons (se_vr 3) sa_nil))) sa_nil))))
    (ss_cons (ss_if (SW.pt (sw_or (t_ne ck (se_callB (reprR ck) by_repr (sa_cons (se_vr 9) sa_nil) B.repr_) (se_callB (reprR ck) by_repr (sa_cons (se_vr 6) sa_nil) B.repr_)) (sw_or1 (t_ne ck (se_vr 3) (se_vr 2))))) (ss_one (ss_ret se_bl)) ss_nil)
    (ss_cons (ss_drp (e_app ck (e_ix ck (se_vr 9) se_int) se_int))
    (ss_one (ss_drp (se_bm0 PySem.F.plainAttrs_list PySem.F.slot_list_clear PySem.F.type_list_clear mt_clear by_clear (e_ix ck (se_vr 9) se_int))))))))
    (ss_cons (ss_if (t_ne ck (se_callB (reprR ck) by_repr (sa_cons (se_lc (own := [("end", 7)]) ck (si_seq (se_vr 5)) (blkOk_by (N := ["tap", "pieces", "layout", "given", "known", "ends", "due", "end", "turn", "told"]) (sc := defScope (topS 32)) (own := [("end", 7)]) (by decide +kernel)) (blkG ck fun s H L cl fp ck1 => (sgc_name ck1.nd 7)) (blkT ck fun s H L cl fp ck1 => sts_nil) (blkE ck fun s H L cl fp ck1 => (se_cal ck1 F_partner_of hr (sa_cons (se_vr 1) (sa_cons (se_vr 3) (sa_cons (se_vr 7) sa_nil)))))) sa_nil) B.repr_) (se_callB (reprR ck) by_repr (sa_cons (se_lc (own := [("end", 7)]) ck (si_seq (se_vr 5)) (blkOk_by (N := ["tap", "pieces", "layout", "given", "known", "ends", "due", "end", "turn", "told"]) (sc := defScope (topS 32)) (own := [("end", 7)]) (by decide +kernel)) (blkG ck fun s H L cl fp ck1 => (sgc_name ck1.nd 7)) (blkT ck fun s H L cl fp ck1 => sts_nil) (blkE ck fun s H L cl fp ck1 => (se_get1 ck1 (se_vr 4) (se_vr 7)))) sa_nil) B.repr_)) (ss_one (ss_ret se_bl)) ss_nil)
    (ss_one (ss_ret (se_and (e_eq ck (se_callB (reprR ck) by_repr (sa_cons (se_cal ck F_count_layouts hr (sa_cons (se_vr 1) sa_nil)) sa_nil) B.repr_) (se_callB (reprR ck) by_repr (sa_cons (se_cal ck F_law_many hr (sa_cons (se_vr 1) sa_nil)) sa_nil) B.repr_)) (se_one (e_eq ck (se_vr 3) (se_vr 2))))))))))))))
theorem sc_law : FnScope ["script", "cells", "k"] ["script"] (defScope (topS 33)) := ⟨rfl, rfl, rfl, by decide +kernel, rfl, by decide +kernel, by decide +kernel⟩
theorem ok_law (B : Bi mg) {f : Addr} {fd : FuncData} (T : L2.Fun K "law" "law" (topS 33) f fd) (F_law_cells : FnF P w K mg base CA "_law_cells" 1 ["script", "many"] CB.f_law_cells) (F_law_right : FnF P w K mg base CA "_law_right" 8 ["tap"] f_law_right) (F_law_tap : FnF P w K mg base CA "_law_tap" 1 ["cell", "turn"] CB.f_law_tap) (F_count_layouts : FnF P w K mg base CA "count_layouts" 3 ["pieces"] CB.f_count_layouts) (F_law_many : FnF P w K mg base CA "_law_many" 1 ["pieces"] f_law_many) : FnG P w K mg base 9 f fd ["script"] (spF K CA 1 f_law) :=
  fn_ok T sc_law fun cdv A out s H E gd hr => by
    have ck := defC_ok (P := P) (w := w) (K := K) (mg := mg) (base := base) (CA := CA) (f := f) (cdv := cdv) (outer := out) (H := H) (E := E) gd hr sc_law
    exact ((ss_cons (ss_asg ck.nd (se_cal ck F_law_cells hr (sa_cons (se_vr 0) (sa_cons se_int sa_nil))))
    (ss_cons (ss_if (t_ne ck (se_lc (own := [("k", 2)]) ck (si_rng1 (sa_cons (se_callB lenR by_len (sa_cons (se_vr 1) sa_nil) B.len_) sa_nil) B.range_) (blkOk_by (N := ["script", "cells", "k"]) (sc := defScope (topS 33)) (own := [("k", 2)]) (by decide +kernel)) (blkG ck fun s H L cl fp ck1 => (sgc_name ck1.nd 2)) (blkT ck fun s H L cl fp ck1 => (sts_one (st_not (st_tru (se_cal ck1 F_law_right hr (sa_cons (se_calC ck1 F_law_tap hr (sa_cons (e_ix ck1 (se_vr 1) (se_vr 2)) (sa_cons (se_vr 2) sa_nil))) sa_nil)))))) (blkE ck fun s H L cl fp ck1 => (se_vr 2))) (se_lst sa_nil)) (ss_one (ss_ret se_bl)) ss_nil)
    (ss_one (ss_ret (e_eq ck (se_lst (sa_cons (se_cal ck F_count_layouts hr (sa_cons se_int sa_nil)) (sa_cons (se_cal ck F_count_layouts hr (sa_cons se_int sa_nil)) (sa_cons (se_cal ck F_count_layouts hr (sa_cons se_int sa_nil)) (sa_cons (se_cal ck F_count_layouts hr (sa_cons se_int sa_nil)) sa_nil))))) (se_lst (sa_cons se_int (sa_cons se_int (sa_cons se_int (sa_cons (se_cal ck F_law_many hr (sa_cons se_int sa_nil)) sa_nil)))))))))))
end
end K02
namespace K02
open PySem PySem.Spec PyProof.Rows L2 VS
section
variable {P : Program} {w : World} {K : Frg} {h : Heap} {mg : Str → Option Value} {CA : Nat → Addr}
theorem end_all (B : Bi mg) (D_is_integer : DefT K mg "is_integer" (topS 7) ["value"]) (D_ends_of : DefT K mg "ends_of" (topS 17) ["pieces"]) (D_couples : DefT K mg "couples" (topS 18) ["layout"]) (D_law_tap : DefT K mg "_law_tap" (topS 24) ["cell", "turn"]) (D_law_draw : DefT K mg "_law_draw" (topS 25) ["tap", "bound"]) (D_law_cells : DefT K mg "_law_cells" (topS 26) ["script", "many"]) (D_law_ends : DefT K mg "_law_ends" (topS 27) ["pieces"]) (D_law_pair : DefT K mg "_law_pair" (topS 28) ["one", "other"]) (D_law_partners : DefT K mg "_law_partners" (topS 29) ["layout"]) (D_law_many : DefT K mg "_law_many" (topS 31) ["pieces"]) (D_is_end : DefT K mg "is_end" (topS 8) ["pieces", "value"]) (D_require_pieces : DefT K mg "require_pieces" (topS 11) ["pieces"]) (D_partner_list : DefT K mg "partner_list" (topS 21) ["pieces", "layout"]) (D_law_layout : DefT K mg "_law_layout" (topS 30) ["tap", "pieces"]) (D_is_coupling : DefT K mg "is_coupling" (topS 9) ["pieces", "value"]) (D_require_end : DefT K mg "require_end" (topS 14) ["pieces", "end"]) (D_count_layouts : DefT K mg "count_layouts" (topS 16) ["pieces"]) (D_layout_fault : DefT K mg "layout_fault" (topS 10) ["pieces", "value"]) (D_require_layout : DefT K mg "require_layout" (topS 12) ["pieces", "layout"]) (D_require_one : DefT K mg "require_one" (topS 13) ["pieces", "layout"]) (D_open_ends : DefT K mg "open_ends" (topS 19) ["pieces", "layout"]) (D_partner_of : DefT K mg "partner_of" (topS 20) ["pieces", "layout", "end"]) (D_partners_of : DefT K mg "partners_of" (topS 22) ["pieces", "layout"]) (D_law_right : DefT K mg "_law_right" (topS 32) ["tap"]) (L : DefL K mg (topS 33)) : DefL K mg (topS 33) ∧
    ∀ (f : Addr) (fd : FuncData) (base : Heap), K.In base → base.Ns mainGlobals mg → L2.Fun K "law" "law" (topS 33) f fd → FnG P w K mg base 9 f fd ["script"] (spF K CA 1 f_law) := by
  refine ⟨L, fun f fd base _ _ T => ?_⟩
  have F_is_integer := ok_is_integer (P := P) (w := w) (base := base) (CA := CA) B D_is_integer 
  have F_ends_of := ok_ends_of (P := P) (w := w) (base := base) (CA := CA) B D_ends_of 
  have F_couples := ok_couples (P := P) (w := w) (base := base) (CA := CA) B D_couples 
  have F_law_tap := ok_law_tap (P := P) (w := w) (base := base) (CA := CA) B D_law_tap 
  have F_law_draw := ok_law_draw (P := P) (w := w) (base := base) (CA := CA) B D_law_draw 
  have F_law_cells := ok_law_cells (P := P) (w := w) (base := base) (CA := CA) B D_law_cells 
  have F_law_ends := ok_law_ends (P := P) (w := w) (base := base) (CA := CA) B D_law_ends 
  have F_law_pair := ok_law_pair (P := P) (w := w) (base := base) (CA := CA) B D_law_pair 
  have F_law_partners := ok_law_partners (P := P) (w := w) (base := base) (CA := CA) B D_law_partners 
  have F_law_many := ok_law_many (P := P) (w := w) (base := base) (CA := CA) B D_law_many 
  have F_is_end := ok_is_end (P := P) (w := w) (base := base) (CA := CA) B D_is_end F_is_integer
  have F_require_pieces := ok_require_pieces (P := P) (w := w) (base := base) (CA := CA) B D_require_pieces F_is_integer
  have F_partner_list := ok_partner_list (P := P) (w := w) (base := base) (CA := CA) B D_partner_list F_couples F_ends_of
  have F_law_layout := ok_law_layout (P := P) (w := w) (base := base) (CA := CA) B D_law_layout F_law_ends F_law_draw F_law_pair
  have F_is_coupling := ok_is_coupling (P := P) (w := w) (base := base) (CA := CA) B D_is_coupling F_is_end
  have F_require_end := ok_require_end (P := P) (w := w) (base := base) (CA := CA) B D_require_end F_is_end
  have F_count_layouts := ok_count_layouts (P := P) (w := w) (base := base) (CA := CA) B D_count_layouts F_require_pieces
  have F_layout_fault := ok_layout_fault (P := P) (w := w) (base := base) (CA := CA) B D_layout_fault F_is_coupling
  have F_require_layout := ok_require_layout (P := P) (w := w) (base := base) (CA := CA) B D_require_layout F_layout_fault
  have F_require_one := ok_require_one (P := P) (w := w) (base := base) (CA := CA) B D_require_one F_require_pieces F_require_layout
  have F_open_ends := ok_open_ends (P := P) (w := w) (base := base) (CA := CA) B D_open_ends F_require_one F_couples F_ends_of
  have F_partner_of := ok_partner_of (P := P) (w := w) (base := base) (CA := CA) B D_partner_of F_require_one F_require_end F_couples
  have F_partners_of := ok_partners_of (P := P) (w := w) (base := base) (CA := CA) B D_partners_of F_require_one F_partner_list
  have F_law_right := ok_law_right (P := P) (w := w) (base := base) (CA := CA) B D_law_right F_law_draw F_law_layout F_law_partners F_law_ends F_partners_of F_open_ends F_partner_of F_count_layouts F_law_many
  exact ok_law B T F_law_cells F_law_right F_law_tap F_count_layouts F_law_many
end
end K02

set_option Elab.async false
set_option linter.all false
set_option maxRecDepth 100000
set_option maxHeartbeats 1000000
/-! P02: the plain law of k02. -/
namespace VS.P02
open PySem PySem.Spec PyProof.Rows L2 K02
def openL (n : Int) (L : List (Int × Int)) : List Int := (endsN n).filter fun v => !(pget L v).isSome
def partL (n : Int) (L : List (Int × Int)) : List Int := (endsN n).map fun v => (pget L v).getD 0
theorem ends_small {n : Int} (h : 1 ≤ n ∧ n ≤ 60) : (endsN n).length ≤ 1000 := by
  have := (endsN_good h).len
  simp only [List.length_nil] at this
  omega
theorem open_ends_v {n : Int} {L : List (Int × Int)} (hn : 1 ≤ n ∧ n ≤ 60) (h : Lay n L) (st : Store) : expoC st (f_open_ends [.d (.int n), .d (.list (L.map pr))] st) = .ok (.c st.length) (st ++ [.lst (((openL n L).map .int).map W.d)]) := by
  have e : lcC (iSeq (cal CB.f_ends_of (aCons (vr 0) aNil))) (tiW (gN 3)) (boo (bin (fIn true) (vr 3) (vr 2))) (vr 3) [3] [some (.d (.int n)), some (.d (.list (L.map pr))), some (.c st.length), none] (st ++ [.dct (partK L)]) = .ok (.c (st ++ [Cell.dct (partK L)]).length) ((st ++ [.dct (partK L)]) ++ [.lst (((openL n L).map .int).map W.d)]) := by
    refine lcC_v (ys := endsN n) (chk := none) iI (fun v => !(pget L v).isSome) .int ?_ trivial (Nat.le_trans (ends_small hn) (by decide)) ?_
    · simp only [iSeq, fnD, fin, ent, sq, skip, brk, cnt, drp, asg, ret, retN, ifS, par, asgG, asgT, Res.bind, Res.fl, bin, cst, vr, boo, tru, truW, tNotD, tAndD, tOrD, vAnd, vOr, vNot, vIf, vNeg, chn, aNil, aCons, cal, calC, calR, bcall, mth, lstD, lstC, tupD, dctC, fEqF_int, fEqT_int, fLt_int, fGt_int, fLe_int, fGe_int, fAdd_int, fSub_int, fIx_t0, fIx_t1, fLen_r, fLen_l, fLen_t, fAbs, fInt, fMax2, fMin2, fList, fListW, itmA, fTuple, itm, itmT, isiD, tyN, kitB, mkL, mkC, mkT, allD, allD_map, rdW_d, rdW_r, bind_ok, fl_ok, atI0, atI1, atI2, last_get, last_set, expo_d, expo_app, gN, gT, gS, gsNil, gsCons, tiW, tiT, tYesD, nev, Option.map_some, Bool.false_eq_true, if_true, if_false, decide_true, decide_false, List.map_cons, List.map_nil, List.length_cons, List.length_nil, List.replicate, List.cons_append, List.nil_append, List.getElem?_cons_zero, List.getElem?_cons_succ, List.set_cons_zero, List.set_cons_succ, ends_of_v hn]
      rw [show itL (((endsN n).map PyData.int).map W.d) = (endsN n).map iI by simp [itL, iI]]
    · rintro v hv S ⟨ex, rfl⟩
      have hg : (st ++ [Cell.dct (partK L)] ++ ex)[st.length]? = some (.dct (partK L)) := by simp
      refine ⟨[some (.d (.int n)), some (.d (.list (L.map pr))), some (.c st.length), some (.d (.int v))], [], rfl, ?_, fun _ => ⟨[], ?_⟩⟩
      · simp only [fnD, fin, ent, sq, skip, brk, cnt, drp, asg, ret, retN, ifS, par, asgG, asgT, Res.bind, Res.fl, bin, cst, vr, boo, tru, truW, tNotD, tAndD, tOrD, vAnd, vOr, vNot, vIf, vNeg, chn, aNil, aCons, cal, calC, calR, bcall, mth, lstD, lstC, tupD, dctC, fEqF_int, fEqT_int, fLt_int, fGt_int, fLe_int, fGe_int, fAdd_int, fSub_int, fIx_t0, fIx_t1, fLen_r, fLen_l, fLen_t, fAbs, fInt, fMax2, fMin2, fList, fListW, itmA, fTuple, itm, itmT, isiD, tyN, kitB, mkL, mkC, mkT, allD, allD_map, rdW_d, rdW_r, bind_ok, fl_ok, atI0, atI1, atI2, last_get, last_set, expo_d, expo_app, gN, gT, gS, gsNil, gsCons, tiW, tiT, tYesD, nev, Option.map_some, Bool.false_eq_true, if_true, if_false, decide_true, decide_false, List.map_cons, List.map_nil, List.length_cons, List.length_nil, List.replicate, List.cons_append, List.nil_append, List.getElem?_cons_zero, List.getElem?_cons_succ, List.set_cons_zero, List.set_cons_succ, fIn_k true v hg, kget_part, Option.isSome_map, List.append_nil, Bool.true_bne]
      · simp [fnD, fin, ent, sq, skip, brk, cnt, drp, asg, ret, retN, ifS, par, asgG, asgT, Res.bind, Res.fl, bin, cst, vr, boo, tru, truW, tNotD, tAndD, tOrD, vAnd, vOr, vNot, vIf, vNeg, chn, aNil, aCons, cal, calC, calR, bcall, mth, lstD, lstC, tupD, dctC, fEqF_int, fEqT_int, fLt_int, fGt_int, fLe_int, fGe_int, fAdd_int, fSub_int, fIx_t0, fIx_t1, fLen_r, fLen_l, fLen_t, fAbs, fInt, fMax2, fMin2, fList, fListW, itmA, fTuple, itm, itmT, isiD, tyN, kitB, mkL, mkC, mkT, allD, allD_map, rdW_d, rdW_r, bind_ok, fl_ok, atI0, atI1, atI2, last_get, last_set, expo_d, expo_app, gN, gT, gS, gsNil, gsCons, tiW, tiT, tYesD, nev, Option.map_some, Bool.false_eq_true, if_true, if_false, decide_true, decide_false, List.map_cons, List.map_nil, List.length_cons, List.length_nil, List.replicate, List.cons_append, List.nil_append, List.getElem?_cons_zero, List.getElem?_cons_succ, List.set_cons_zero, List.set_cons_succ]
  have q : expoC st (.ok (.c st.length) (st ++ [.dct (partK L)])) = .ok (.c st.length) (st ++ [.dct (partK L)]) := expoC_lastK st [] _ (partK_d L)
  simp only [f_open_ends, d_open_ends, fnD, fin, ent, sq, skip, brk, cnt, drp, asg, ret, retN, ifS, par, asgG, asgT, Res.bind, Res.fl, bin, cst, vr, boo, tru, truW, tNotD, tAndD, tOrD, vAnd, vOr, vNot, vIf, vNeg, chn, aNil, aCons, cal, calC, calR, bcall, mth, lstD, lstC, tupD, dctC, fEqF_int, fEqT_int, fLt_int, fGt_int, fLe_int, fGe_int, fAdd_int, fSub_int, fIx_t0, fIx_t1, fLen_r, fLen_l, fLen_t, fAbs, fInt, fMax2, fMin2, fList, fListW, itmA, fTuple, itm, itmT, isiD, tyN, kitB, mkL, mkC, mkT, allD, allD_map, rdW_d, rdW_r, bind_ok, fl_ok, atI0, atI1, atI2, last_get, last_set, expo_d, expo_app, gN, gT, gS, gsNil, gsCons, tiW, tiT, tYesD, nev, Option.map_some, Bool.false_eq_true, if_true, if_false, decide_true, decide_false, List.map_cons, List.map_nil, List.length_cons, List.length_nil, List.replicate, List.cons_append, List.nil_append, List.getElem?_cons_zero, List.getElem?_cons_succ, List.set_cons_zero, List.set_cons_succ, require_one_v hn h, couples_v h, q, e]
  rw [List.append_assoc]
  exact expoC_at (by simp) (by simp)
theorem get2_v {n : Nat} {v : Int} {L : List (Int × Int)} {env : VS.Env} {S : Store} {i j : Nat} (h1 : env[i]? = some (some (.c n))) (h2 : env[j]? = some (some (.d (.int v)))) (h : S[n]? = some (.dct (partK L))) (z : PyData) : get2 (vr i) (vr j) (cst z) env S = .ok (.d (match pget L v with | some x => .int x | none => z)) S := by
  unfold get2
  simp only [vr, h1, h2, Res.bind, cst, dctAt, h, keyOf, kget_part]
  cases pget L v <;> rfl
theorem get1_v {n : Nat} {v : Int} {L : List (Int × Int)} {env : VS.Env} {S : Store} {i j : Nat} (h1 : env[i]? = some (some (.c n))) (h2 : env[j]? = some (some (.d (.int v)))) (h : S[n]? = some (.dct (partK L))) : get1 (vr i) (vr j) env S = .ok (.d (match pget L v with | some x => .int x | none => .none)) S := by
  unfold get1
  simp only [vr, h1, h2, Res.bind, cst, dctAt, h, keyOf, kget_part]
  cases pget L v <;> rfl
theorem partL_map (n : Int) (L : List (Int × Int)) : ((endsN n).filter fun _ => true).map (fun v => match pget L v with | some x => PyData.int x | none => .int 0) = (partL n L).map .int := by
  unfold partL
  rw [List.filter_eq_self.mpr (fun _ _ => rfl), List.map_map]
  refine List.map_congr_left fun v _ => ?_
  show _ = PyData.int ((pget L v).getD 0)
  cases pget L v <;> rfl
theorem partner_list_v {n : Int} {L : List (Int × Int)} (hn : 1 ≤ n ∧ n ≤ 60) (h : Lay n L) (st : Store) : expoC st (f_partner_list [.d (.int n), .d (.list (L.map pr))] st) = .ok (.c st.length) (st ++ [.lst (((partL n L).map .int).map W.d)]) := by
  have e : lcC (iSeq (cal CB.f_ends_of (aCons (vr 0) aNil))) (tiW (gN 3)) tYesD (get2 (vr 2) (vr 3) (cst (.int 0))) [3] [some (.d (.int n)), some (.d (.list (L.map pr))), some (.c st.length), none] (st ++ [.dct (partK L)]) = .ok (.c (st ++ [Cell.dct (partK L)]).length) ((st ++ [.dct (partK L)]) ++ [.lst (((partL n L).map .int).map W.d)]) := by
    rw [← partL_map]
    refine lcC_v (ys := endsN n) (chk := none) iI (fun v => true) (fun v => match pget L v with | some x => PyData.int x | none => .int 0) ?_ trivial (Nat.le_trans (ends_small hn) (by decide)) ?_
    · simp only [iSeq, fnD, fin, ent, sq, skip, brk, cnt, drp, asg, ret, retN, ifS, par, asgG, asgT, Res.bind, Res.fl, bin, cst, vr, boo, tru, truW, tNotD, tAndD, tOrD, vAnd, vOr, vNot, vIf, vNeg, chn, aNil, aCons, cal, calC, calR, bcall, mth, lstD, lstC, tupD, dctC, fEqF_int, fEqT_int, fLt_int, fGt_int, fLe_int, fGe_int, fAdd_int, fSub_int, fIx_t0, fIx_t1, fLen_r, fLen_l, fLen_t, fAbs, fInt, fMax2, fMin2, fList, fListW, itmA, fTuple, itm, itmT, isiD, tyN, kitB, mkL, mkC, mkT, allD, allD_map, rdW_d, rdW_r, bind_ok, fl_ok, atI0, atI1, atI2, last_get, last_set, expo_d, expo_app, gN, gT, gS, gsNil, gsCons, tiW, tiT, tYesD, nev, Option.map_some, Bool.false_eq_true, if_true, if_false, decide_true, decide_false, List.map_cons, List.map_nil, List.length_cons, List.length_nil, List.replicate, List.cons_append, List.nil_append, List.getElem?_cons_zero, List.getElem?_cons_succ, List.set_cons_zero, List.set_cons_succ, ends_of_v hn]
      rw [show itL (((endsN n).map PyData.int).map W.d) = (endsN n).map iI by simp [itL, iI]]
    · rintro v hv S ⟨ex, rfl⟩
      have hg : (st ++ [Cell.dct (partK L)] ++ ex)[st.length]? = some (.dct (partK L)) := by simp
      refine ⟨[some (.d (.int n)), some (.d (.list (L.map pr))), some (.c st.length), some (.d (.int v))], [], rfl, ?_, fun _ => ⟨[], ?_⟩⟩
      · simp [tYesD]
      · rw [List.append_nil, List.append_nil]
        exact get2_v rfl rfl hg _
  have q : expoC st (.ok (.c st.length) (st ++ [.dct (partK L)])) = .ok (.c st.length) (st ++ [.dct (partK L)]) := expoC_lastK st [] _ (partK_d L)
  simp only [f_partner_list, d_partner_list, fnD, fin, ent, sq, skip, brk, cnt, drp, asg, ret, retN, ifS, par, asgG, asgT, Res.bind, Res.fl, bin, cst, vr, boo, tru, truW, tNotD, tAndD, tOrD, vAnd, vOr, vNot, vIf, vNeg, chn, aNil, aCons, cal, calC, calR, bcall, mth, lstD, lstC, tupD, dctC, fEqF_int, fEqT_int, fLt_int, fGt_int, fLe_int, fGe_int, fAdd_int, fSub_int, fIx_t0, fIx_t1, fLen_r, fLen_l, fLen_t, fAbs, fInt, fMax2, fMin2, fList, fListW, itmA, fTuple, itm, itmT, isiD, tyN, kitB, mkL, mkC, mkT, allD, allD_map, rdW_d, rdW_r, bind_ok, fl_ok, atI0, atI1, atI2, last_get, last_set, expo_d, expo_app, gN, gT, gS, gsNil, gsCons, tiW, tiT, tYesD, nev, Option.map_some, Bool.false_eq_true, if_true, if_false, decide_true, decide_false, List.map_cons, List.map_nil, List.length_cons, List.length_nil, List.replicate, List.cons_append, List.nil_append, List.getElem?_cons_zero, List.getElem?_cons_succ, List.set_cons_zero, List.set_cons_succ, couples_v h, q, e]
  rw [List.append_assoc]
  exact expoC_at (by simp) (by simp)
theorem partners_of_v {n : Int} {L : List (Int × Int)} (hn : 1 ≤ n ∧ n ≤ 60) (h : Lay n L) (st : Store) : expoC st (f_partners_of [.d (.int n), .d (.list (L.map pr))] st) = .ok (.c st.length) (st ++ [.lst (((partL n L).map .int).map W.d)]) := by
  simp only [f_partners_of, d_partners_of, fnD, fin, ent, sq, skip, brk, cnt, drp, asg, ret, retN, ifS, par, asgG, asgT, Res.bind, Res.fl, bin, cst, vr, boo, tru, truW, tNotD, tAndD, tOrD, vAnd, vOr, vNot, vIf, vNeg, chn, aNil, aCons, cal, calC, calR, bcall, mth, lstD, lstC, tupD, dctC, fEqF_int, fEqT_int, fLt_int, fGt_int, fLe_int, fGe_int, fAdd_int, fSub_int, fIx_t0, fIx_t1, fLen_r, fLen_l, fLen_t, fAbs, fInt, fMax2, fMin2, fList, fListW, itmA, fTuple, itm, itmT, isiD, tyN, kitB, mkL, mkC, mkT, allD, allD_map, rdW_d, rdW_r, bind_ok, fl_ok, atI0, atI1, atI2, last_get, last_set, expo_d, expo_app, gN, gT, gS, gsNil, gsCons, tiW, tiT, tYesD, nev, Option.map_some, Bool.false_eq_true, if_true, if_false, decide_true, decide_false, List.map_cons, List.map_nil, List.length_cons, List.length_nil, List.replicate, List.cons_append, List.nil_append, List.getElem?_cons_zero, List.getElem?_cons_succ, List.set_cons_zero, List.set_cons_succ, require_one_v hn h, partner_list_v hn h]
  exact expoC_last st [] _
def partO (L : List (Int × Int)) (v : Int) : PyData := match pget L v with | some x => .int x | none => .none
theorem partner_of_v {n v : Int} {L : List (Int × Int)} (hn : 1 ≤ n ∧ n ≤ 60) (h : Lay n L) (hv : isEnd n v = true) (st : Store) : expo st (CB.f_partner_of [.d (.int n), .d (.list (L.map pr)), .d (.int v)] st) = .ok (.d (partO L v)) st := by
  have q : expoC st (.ok (.c st.length) (st ++ [.dct (partK L)])) = .ok (.c st.length) (st ++ [.dct (partK L)]) := expoC_lastK st [] _ (partK_d L)
  have hg : (st ++ [Cell.dct (partK L)])[st.length]? = some (.dct (partK L)) := by simp
  simp only [CB.f_partner_of, CB.d_partner_of, fnD, fin, ent, sq, skip, brk, cnt, drp, asg, ret, retN, ifS, par, asgG, asgT, Res.bind, Res.fl, bin, cst, vr, boo, tru, truW, tNotD, tAndD, tOrD, vAnd, vOr, vNot, vIf, vNeg, chn, aNil, aCons, cal, calC, calR, bcall, mth, lstD, lstC, tupD, dctC, fEqF_int, fEqT_int, fLt_int, fGt_int, fLe_int, fGe_int, fAdd_int, fSub_int, fIx_t0, fIx_t1, fLen_r, fLen_l, fLen_t, fAbs, fInt, fMax2, fMin2, fList, fListW, itmA, fTuple, itm, itmT, isiD, tyN, kitB, mkL, mkC, mkT, allD, allD_map, rdW_d, rdW_r, bind_ok, fl_ok, atI0, atI1, atI2, last_get, last_set, expo_d, expo_app, gN, gT, gS, gsNil, gsCons, tiW, tiT, tYesD, nev, Option.map_some, Bool.false_eq_true, if_true, if_false, decide_true, decide_false, List.map_cons, List.map_nil, List.length_cons, List.length_nil, List.replicate, List.cons_append, List.nil_append, List.getElem?_cons_zero, List.getElem?_cons_succ, List.set_cons_zero, List.set_cons_succ, require_one_v hn h, require_end_v hv, get1, couples_v h, q, dctAt, keyOf, kget_part]
  unfold partO
  cases pget L v with
  | none => exact expo_app _ _ _
  | some x => exact expo_app _ _ _
/-! ### how many layouts -/
def cntN : Nat → Int × Int
  | 0 => (1, 1)
  | k + 1 => ((cntN k).2, (cntN k).2 + (2 + (k : Int) - 1) * (cntN k).1)
theorem rngI_at {lo : Int} {k j : Nat} {y : Itm} (h : (rngI lo k)[j]? = some y) : y = .w (.d (.int (lo + (j : Int)))) ∧ j < k := by
  rw [rngI, List.getElem?_map] at h
  by_cases hj : j < k
  · rw [List.getElem?_range hj] at h
    exact ⟨(Option.some.inj h).symm, hj⟩
  · rw [List.getElem?_eq_none (by rw [List.length_range]; omega)] at h
    cases h
theorem count_layouts_v {n : Int} (hn : 1 ≤ n ∧ n ≤ 60) (st : Store) : CB.f_count_layouts [.d (.int n)] st = .ok (.d (.int (cntN (2 * n - 1).toNat).2)) st := by
  have m1 : ∀ (st : Store), fMul (.d (.int 2)) (.d (.int n)) st = .ok (.d (.int (2 * n))) st := fun st => fMul_int (okMul_l (by decide)) st
  have h2 : -(2 ^ 62) ≤ (2 : Int) ∧ (2 : Int) < 2 ^ 62 ∧ -(2 ^ 62) ≤ 2 * n + 1 ∧ 2 * n + 1 < 2 ^ 62 := by omega
  simp only [CB.f_count_layouts, CB.d_count_layouts, fnD, fin, ent, sq, skip, brk, cnt, drp, asg, ret, retN, ifS, par, asgG, asgT, Res.bind, Res.fl, bin, cst, vr, boo, tru, truW, tNotD, tAndD, tOrD, vAnd, vOr, vNot, vIf, vNeg, chn, aNil, aCons, cal, calC, calR, bcall, mth, lstD, lstC, tupD, dctC, fEqF_int, fEqT_int, fLt_int, fGt_int, fLe_int, fGe_int, fAdd_int, fSub_int, fIx_t0, fIx_t1, fLen_r, fLen_l, fLen_t, fAbs, fInt, fMax2, fMin2, fList, fListW, itmA, fTuple, itm, itmT, isiD, tyN, kitB, mkL, mkC, mkT, allD, allD_map, rdW_d, rdW_r, bind_ok, fl_ok, atI0, atI1, atI2, last_get, last_set, expo_d, expo_app, gN, gT, gS, gsNil, gsCons, tiW, tiT, tYesD, nev, Option.map_some, Bool.false_eq_true, if_true, if_false, decide_true, decide_false, List.map_cons, List.map_nil, List.length_cons, List.length_nil, List.replicate, List.cons_append, List.nil_append, List.getElem?_cons_zero, List.getElem?_cons_succ, List.set_cons_zero, List.set_cons_succ, require_pieces_v hn, forS, iRg2, m1, if_pos h2]
  generalize hr : forL _ _ _ _ _ _ = r
  obtain ⟨env', st', rfl, o, rfl, rfl⟩ := forL_g hr (fun k env st' => ∃ o, env = [some (.d (.int n)), some (.d (.int (cntN k).1)), some (.d (.int (cntN k).2)), o] ∧ st' = st) ⟨none, rfl, rfl⟩ (fun j y env st2 hj hp => by
    obtain ⟨o, rfl, rfl⟩ := hp
    obtain ⟨rfl, hj2⟩ := rngI_at hj
    refine ⟨trivial, _, _, [some (.d (.int n)), some (.d (.int (cntN (j + 1)).1)), some (.d (.int (cntN (j + 1)).2)), some (.d (.int (2 + j)))], st2, rfl, ?_, ⟨_, rfl, rfl⟩⟩
    have m2 : ∀ (x : Int) (st : Store), fMul (.d (.int (2 + (j : Int) - 1))) (.d (.int x)) st = .ok (.d (.int ((2 + (j : Int) - 1) * x))) st := fun x st => fMul_int (okMul_l (by omega)) st
    simp only [fnD, fin, ent, sq, skip, brk, cnt, drp, asg, ret, retN, ifS, par, asgG, asgT, Res.bind, Res.fl, bin, cst, vr, boo, tru, truW, tNotD, tAndD, tOrD, vAnd, vOr, vNot, vIf, vNeg, chn, aNil, aCons, cal, calC, calR, bcall, mth, lstD, lstC, tupD, dctC, fEqF_int, fEqT_int, fLt_int, fGt_int, fLe_int, fGe_int, fAdd_int, fSub_int, fIx_t0, fIx_t1, fLen_r, fLen_l, fLen_t, fAbs, fInt, fMax2, fMin2, fList, fListW, itmA, fTuple, itm, itmT, isiD, tyN, kitB, mkL, mkC, mkT, allD, allD_map, rdW_d, rdW_r, bind_ok, fl_ok, atI0, atI1, atI2, last_get, last_set, expo_d, expo_app, gN, gT, gS, gsNil, gsCons, tiW, tiT, tYesD, nev, Option.map_some, Bool.false_eq_true, if_true, if_false, decide_true, decide_false, List.map_cons, List.map_nil, List.length_cons, List.length_nil, List.replicate, List.cons_append, List.nil_append, List.getElem?_cons_zero, List.getElem?_cons_succ, List.set_cons_zero, List.set_cons_succ, m2, cntN]) (fun _ _ _ => trivial)
  have e : (rngI 2 (2 * n + 1 - 2).toNat).length = (2 * n - 1).toNat := by
    rw [rngI, List.length_map, List.length_range]
    omega
  simp only [e, fnD, fin, ent, sq, skip, brk, cnt, drp, asg, ret, retN, ifS, par, asgG, asgT, Res.bind, Res.fl, bin, cst, vr, boo, tru, truW, tNotD, tAndD, tOrD, vAnd, vOr, vNot, vIf, vNeg, chn, aNil, aCons, cal, calC, calR, bcall, mth, lstD, lstC, tupD, dctC, fEqF_int, fEqT_int, fLt_int, fGt_int, fLe_int, fGe_int, fAdd_int, fSub_int, fIx_t0, fIx_t1, fLen_r, fLen_l, fLen_t, fAbs, fInt, fMax2, fMin2, fList, fListW, itmA, fTuple, itm, itmT, isiD, tyN, kitB, mkL, mkC, mkT, allD, allD_map, rdW_d, rdW_r, bind_ok, fl_ok, atI0, atI1, atI2, last_get, last_set, expo_d, expo_app, gN, gT, gS, gsNil, gsCons, tiW, tiT, tYesD, nev, Option.map_some, Bool.false_eq_true, if_true, if_false, decide_true, decide_false, List.map_cons, List.map_nil, List.length_cons, List.length_nil, List.replicate, List.cons_append, List.nil_append, List.getElem?_cons_zero, List.getElem?_cons_succ, List.set_cons_zero, List.set_cons_succ]
def manyN (n : Int) : Nat → Int × Int
  | 0 => (0, 1)
  | k + 1 => ((manyN n k).1 + (manyN n k).2, (manyN n k).2 * (2 * n - 2 * (k : Int)) * (2 * n - 2 * (k : Int) - 1) / 2 / ((k : Int) + 1))
theorem law_many_v {n : Int} (hn : 1 ≤ n ∧ n ≤ 60) (st : Store) : f_law_many [.d (.int n)] st = .ok (.d (.int (manyN n (n + 1).toNat).1)) st := by
  have m1 : ∀ (x : Int) (st : Store), fMul (.d (.int 2)) (.d (.int x)) st = .ok (.d (.int (2 * x))) st := fun x st => fMul_int (okMul_l (by decide)) st
  have h2 : -(2 ^ 62) ≤ n + 1 ∧ n + 1 < 2 ^ 62 := by omega
  simp only [f_law_many, d_law_many, fnD, fin, ent, sq, skip, brk, cnt, drp, asg, ret, retN, ifS, par, asgG, asgT, Res.bind, Res.fl, bin, cst, vr, boo, tru, truW, tNotD, tAndD, tOrD, vAnd, vOr, vNot, vIf, vNeg, chn, aNil, aCons, cal, calC, calR, bcall, mth, lstD, lstC, tupD, dctC, fEqF_int, fEqT_int, fLt_int, fGt_int, fLe_int, fGe_int, fAdd_int, fSub_int, fIx_t0, fIx_t1, fLen_r, fLen_l, fLen_t, fAbs, fInt, fMax2, fMin2, fList, fListW, itmA, fTuple, itm, itmT, isiD, tyN, kitB, mkL, mkC, mkT, allD, allD_map, rdW_d, rdW_r, bind_ok, fl_ok, atI0, atI1, atI2, last_get, last_set, expo_d, expo_app, gN, gT, gS, gsNil, gsCons, tiW, tiT, tYesD, nev, Option.map_some, Bool.false_eq_true, if_true, if_false, decide_true, decide_false, List.map_cons, List.map_nil, List.length_cons, List.length_nil, List.replicate, List.cons_append, List.nil_append, List.getElem?_cons_zero, List.getElem?_cons_succ, List.set_cons_zero, List.set_cons_succ, forS, iRg1, m1, if_pos h2]
  generalize hr : forL _ _ _ _ _ _ = r
  obtain ⟨env', st', rfl, o1, o2, rfl, rfl⟩ := forL_g hr (fun k env st' => ∃ o1 o2, env = [some (.d (.int n)), some (.d (.int (manyN n k).1)), some (.d (.int (manyN n k).2)), o1, o2] ∧ st' = st) ⟨none, none, rfl, rfl⟩ (fun j y env st2 hj hp => by
    obtain ⟨o1, o2, rfl, rfl⟩ := hp
    obtain ⟨rfl, hj2⟩ := rngI_at hj
    refine ⟨trivial, [some (.d (.int n)), some (.d (.int (manyN n j).1)), some (.d (.int (manyN n j).2)), some (.d (.int j)), o2], st2, [some (.d (.int n)), some (.d (.int (manyN n (j + 1)).1)), some (.d (.int (manyN n (j + 1)).2)), some (.d (.int j)), some (.d (.int (2 * n - 2 * (j : Int))))], st2, ?_, ?_, ⟨_, _, rfl, rfl⟩⟩
    · simp [fnD, fin, ent, sq, skip, brk, cnt, drp, asg, ret, retN, ifS, par, asgG, asgT, Res.bind, Res.fl, bin, cst, vr, boo, tru, truW, tNotD, tAndD, tOrD, vAnd, vOr, vNot, vIf, vNeg, chn, aNil, aCons, cal, calC, calR, bcall, mth, lstD, lstC, tupD, dctC, fEqF_int, fEqT_int, fLt_int, fGt_int, fLe_int, fGe_int, fAdd_int, fSub_int, fIx_t0, fIx_t1, fLen_r, fLen_l, fLen_t, fAbs, fInt, fMax2, fMin2, fList, fListW, itmA, fTuple, itm, itmT, isiD, tyN, kitB, mkL, mkC, mkT, allD, allD_map, rdW_d, rdW_r, bind_ok, fl_ok, atI0, atI1, atI2, last_get, last_set, expo_d, expo_app, gN, gT, gS, gsNil, gsCons, tiW, tiT, tYesD, nev, Option.map_some, Bool.false_eq_true, if_true, if_false, decide_true, decide_false, List.map_cons, List.map_nil, List.length_cons, List.length_nil, List.replicate, List.cons_append, List.nil_append, List.getElem?_cons_zero, List.getElem?_cons_succ, List.set_cons_zero, List.set_cons_succ]
    · have m2 : ∀ (x : Int) (st : Store), fMul (.d (.int x)) (.d (.int (2 * n - 2 * (j : Int)))) st = .ok (.d (.int (x * (2 * n - 2 * (j : Int))))) st := fun x st => fMul_int (okMul_r (by omega)) st
      have m3 : ∀ (x : Int) (st : Store), fMul (.d (.int x)) (.d (.int (2 * n - 2 * (j : Int) - 1))) st = .ok (.d (.int (x * (2 * n - 2 * (j : Int) - 1)))) st := fun x st => fMul_int (okMul_r (by omega)) st
      have d1 : ∀ (x : Int) (st : Store), fDiv (.d (.int x)) (.d (.int 2)) st = .ok (.d (.int (x / 2))) st := fun x st => fDiv_int (by decide) (by decide) st
      have d2 : ∀ (x : Int) (st : Store), fDiv (.d (.int x)) (.d (.int ((j : Int) + 1))) st = .ok (.d (.int (x / ((j : Int) + 1)))) st := fun x st => fDiv_int (by omega) (log_small (by omega)) st
      simp only [fnD, fin, ent, sq, skip, brk, cnt, drp, asg, ret, retN, ifS, par, asgG, asgT, Res.bind, Res.fl, bin, cst, vr, boo, tru, truW, tNotD, tAndD, tOrD, vAnd, vOr, vNot, vIf, vNeg, chn, aNil, aCons, cal, calC, calR, bcall, mth, lstD, lstC, tupD, dctC, fEqF_int, fEqT_int, fLt_int, fGt_int, fLe_int, fGe_int, fAdd_int, fSub_int, fIx_t0, fIx_t1, fLen_r, fLen_l, fLen_t, fAbs, fInt, fMax2, fMin2, fList, fListW, itmA, fTuple, itm, itmT, isiD, tyN, kitB, mkL, mkC, mkT, allD, allD_map, rdW_d, rdW_r, bind_ok, fl_ok, atI0, atI1, atI2, last_get, last_set, expo_d, expo_app, gN, gT, gS, gsNil, gsCons, tiW, tiT, tYesD, nev, Option.map_some, Bool.false_eq_true, if_true, if_false, decide_true, decide_false, List.map_cons, List.map_nil, List.length_cons, List.length_nil, List.replicate, List.cons_append, List.nil_append, List.getElem?_cons_zero, List.getElem?_cons_succ, List.set_cons_zero, List.set_cons_succ, m1, m2, m3, d1, d2, manyN]) (fun _ _ _ => trivial)
  have e : (rngI 0 (n + 1).toNat).length = (n + 1).toNat := by
    rw [rngI, List.length_map, List.length_range]
  simp only [e, fnD, fin, ent, sq, skip, brk, cnt, drp, asg, ret, retN, ifS, par, asgG, asgT, Res.bind, Res.fl, bin, cst, vr, boo, tru, truW, tNotD, tAndD, tOrD, vAnd, vOr, vNot, vIf, vNeg, chn, aNil, aCons, cal, calC, calR, bcall, mth, lstD, lstC, tupD, dctC, fEqF_int, fEqT_int, fLt_int, fGt_int, fLe_int, fGe_int, fAdd_int, fSub_int, fIx_t0, fIx_t1, fLen_r, fLen_l, fLen_t, fAbs, fInt, fMax2, fMin2, fList, fListW, itmA, fTuple, itm, itmT, isiD, tyN, kitB, mkL, mkC, mkT, allD, allD_map, rdW_d, rdW_r, bind_ok, fl_ok, atI0, atI1, atI2, last_get, last_set, expo_d, expo_app, gN, gT, gS, gsNil, gsCons, tiW, tiT, tYesD, nev, Option.map_some, Bool.false_eq_true, if_true, if_false, decide_true, decide_false, List.map_cons, List.map_nil, List.length_cons, List.length_nil, List.replicate, List.cons_append, List.nil_append, List.getElem?_cons_zero, List.getElem?_cons_succ, List.set_cons_zero, List.set_cons_succ]
theorem counts : ∀ k : Nat, k < 61 → 1 ≤ k → (cntN (2 * (k : Int) - 1).toNat).2 = (manyN k ((k : Int) + 1).toNat).1 ∧ (cntN (2 * (k : Int) - 1).toNat).2.natAbs < 2 ^ 1000 := by
  decide +kernel
end VS.P02

set_option Elab.async false
set_option linter.all false
set_option maxRecDepth 100000
set_option maxHeartbeats 1000000
/-! P02b: the plain law of k02, its end. -/
namespace VS.P02
open PySem PySem.Spec PyProof.Rows L2 K02
theorem set_get_same {st : Store} {t : Nat} (htl : t < st.length) (x : Cell) : (st.set t x)[t]? = some x := List.getElem?_set_self htl
theorem three0 (S : Store) (a b c : Cell) : (S ++ [a, b, c])[S.length]? = some a := by simp
theorem three1 (S : Store) (a b c : Cell) : (S ++ [a, b, c])[S.length + 1]? = some b := by
  rw [List.getElem?_append_right (by omega), Nat.add_sub_cancel_left]
  rfl
theorem three2 (S : Store) (a b c : Cell) : (S ++ [a, b, c])[S.length + 2]? = some c := by
  rw [List.getElem?_append_right (by omega), Nat.add_sub_cancel_left]
  rfl
theorem three_s0 (S : Store) (a b c z : Cell) : (S ++ [a, b, c]).set S.length z = S ++ [z, b, c] := by simp
theorem three_s1 (S : Store) (a b c z : Cell) : (S ++ [a, b, c]).set (S.length + 1) z = S ++ [a, z, c] := by
  rw [List.set_append_right _ _ (by omega), Nat.add_sub_cancel_left]
  rfl
theorem rdW_list {T : Store} {n k : Nat} {ds : List PyData} (h : T[n]? = some (.lst (ds.map W.d))) : rdW T (k + 1) (.c n) = some (.list ds) := by
  have e : (ds.map W.d).mapM (rdW T k) = some ds := by
    clear h
    induction ds with
    | nil => rfl
    | cons d ds ih => rw [List.map_cons, List.mapM_cons, rdW_d, ih]; rfl
  unfold rdW
  rw [h]
  simp only [e]
  rfl
theorem rdW_two {T : Store} {n a b k : Nat} {ds es : List PyData} (h : T[n]? = some (.lst [.c a, .c b])) (ha : T[a]? = some (.lst (ds.map W.d))) (hb : T[b]? = some (.lst (es.map W.d))) : rdW T (k + 2) (.c n) = some (.list [.list ds, .list es]) := by
  have e : [W.c a, W.c b].mapM (rdW T (k + 1)) = some [.list ds, .list es] := by
    rw [List.mapM_cons, List.mapM_cons, rdW_list ha, rdW_list hb]
    rfl
  unfold rdW
  rw [h]
  simp only [e]
  rfl
def dueD (n : Int) (L : List (Int × Int)) : PyData := .list [.list ((openL n L).map .int), .list ((partL n L).map .int)]
theorem ends_abs {n v : Int} (hn : 1 ≤ n ∧ n ≤ 60) (h : v ∈ endsN n) : v.natAbs < 10 ^ 9 := by
  have := (endsN_good hn).e v h
  simp only [isEnd, Bool.and_eq_true, decide_eq_true_eq] at this
  omega
theorem pget_abs {n v x : Int} {L : List (Int × Int)} (hn : 1 ≤ n ∧ n ≤ 60) (h : Lay n L) (e : pget L v = some x) : x.natAbs < 10 ^ 9 := by
  unfold pget at e
  have hm : (v, x) ∈ L.flatMap fun p => [(p.1, p.2), (p.2, p.1)] := by
    generalize (L.flatMap fun p => [(p.1, p.2), (p.2, p.1)]) = M at e
    induction M with
    | nil => cases e
    | cons q M ih =>
      obtain ⟨a, b⟩ := q
      rw [List.lookup_cons] at e
      by_cases z : v = a
      · subst z
        simp at e
        subst e
        exact List.mem_cons_self
      · rw [beq_false_of_ne z] at e
        exact List.mem_cons_of_mem _ (ih e)
  rw [List.mem_flatMap] at hm
  obtain ⟨p, hp, hm⟩ := hm
  have hc := h.cpl p hp
  simp only [isCpl, isEnd, Bool.and_eq_true, decide_eq_true_eq] at hc
  simp only [List.mem_cons, List.not_mem_nil, or_false, Prod.mk.injEq] at hm
  rcases hm with ⟨rfl, rfl⟩ | ⟨rfl, rfl⟩ <;> omega
theorem shw_due {n : Int} {L : List (Int × Int)} (hn : 1 ≤ n ∧ n ≤ 60) (h : Lay n L) : okShow (dueD n L) = true := by
  refine okShow_of (w := 2 * 31001) (k := 2) (shw_list (w := 31000) (k := 1) fun d hd => ?_) (by decide) (by decide)
  simp only [List.mem_cons, List.not_mem_nil, or_false] at hd
  have hl := ends_small hn
  rcases hd with rfl | rfl
  · refine shw_ints (m := 1000) (fun v hv => ends_abs hn ((List.mem_filter.mp hv).1)) ?_
    exact Nat.le_trans (List.length_filter_le _ _) hl
  · refine shw_ints (m := 1000) (fun v hv => ?_) (by unfold partL; rw [List.length_map]; exact hl)
    unfold partL at hv
    obtain ⟨w, hw, rfl⟩ := List.mem_map.mp hv
    cases e : pget L w with
    | none => show (0 : Int).natAbs < _; decide
    | some x => exact pget_abs hn h e
theorem shw_partO {n : Int} {L : List (Int × Int)} (hn : 1 ≤ n ∧ n ≤ 60) (h : Lay n L) : okShow (.list ((endsN n).map (partO L))) = true := by
  have hl := ends_small hn
  refine okShow_of (w := 31000) (k := 1) ((shw_list (w := 30) (k := 0) fun d hd => ?_).mono ?_ (Nat.le_refl _)) (by decide) (by decide)
  · obtain ⟨v, _, rfl⟩ := List.mem_map.mp hd
    unfold partO
    cases e : pget L v with
    | none => exact shw_none.mono (by decide) (by decide)
    | some x => exact shw_int (pget_abs hn h e)
  · rw [List.length_map]
    omega
theorem okShow_int {x : Int} (h : x.natAbs < 2 ^ 1000) : okShow (.int x) = true := by
  have h3 := log2_lt h (by decide)
  have q := int_text_length_le (k := 1000) (by decide) h3
  have q2 : (PyData.shown (.int x)).length ≤ sizeLine := by
    show (Str.ofString (toString x)).length ≤ sizeLine
    rw [PySem.ofString_length, sizeLine_eq]
    omega
  unfold okShow
  rw [decide_eq_true q2]
  have h4 : x.natAbs.log2 < 1920 := by omega
  have e : PyData.showable (.int x) = true := by
    simp only [PyData.showable]
    exact decide_eq_true h4
  rw [e]
  rfl
theorem two60 {r : Int} (h0 : 0 ≤ r) (h1 : r < 2) : ∃ m : Int, atI [PyData.int 5, .int 60] r = some (.int m) ∧ 0 < m ∧ m ≤ 60 := by
  have : r = 0 ∨ r = 1 := by omega
  rcases this with rfl | rfl
  · exact ⟨5, rfl, by decide, by decide⟩
  · exact ⟨60, rfl, by decide, by decide⟩
section
variable {n : Int} {L : List (Int × Int)} (hn : 1 ≤ n ∧ n ≤ 60) (h : Lay n L) {N : Nat} {S : Store} (hS : S[N]? = some (.dct (partK L))) (e0 e1 e2 e3 e6 e7 e8 e9 : Option W)
include hn hS
theorem lc_open : lcD (iSeq (vr 5)) (tiW (gN 7)) (boo (bin (fIn true) (vr 7) (vr 4))) (vr 7) [7] [e0, e1, e2, e3, some (.c N), some (.d (.list ((endsN n).map .int))), e6, e7, e8, e9] S = .ok (.d (.list ((openL n L).map .int))) S := by
  refine lcD_v (ys := endsN n) (chk := none) iI (fun v => !(pget L v).isSome) .int ?_ trivial (Nat.le_trans (ends_small hn) (by decide)) ?_
  · simp only [iSeq, fnD, fin, ent, sq, skip, brk, cnt, drp, asg, ret, retN, ifS, par, asgG, asgT, Res.bind, Res.fl, bin, cst, vr, boo, tru, truW, tNotD, tAndD, tOrD, vAnd, vOr, vNot, vIf, vNeg, chn, aNil, aCons, cal, calC, calR, bcall, mth, lstD, lstC, tupD, dctC, fEqF_int, fEqT_int, fLt_int, fGt_int, fLe_int, fGe_int, fAdd_int, fSub_int, fIx_t0, fIx_t1, fLen_r, fLen_l, fLen_t, fAbs, fInt, fMax2, fMin2, fList, fListW, itmA, fTuple, itm, itmT, isiD, tyN, kitB, mkL, mkC, mkT, allD, allD_map, rdW_d, rdW_r, bind_ok, fl_ok, atI0, atI1, atI2, last_get, last_set, expo_d, expo_app, gN, gT, gS, gsNil, gsCons, tiW, tiT, tYesD, nev, Option.map_some, Bool.false_eq_true, if_true, if_false, decide_true, decide_false, List.map_cons, List.map_nil, List.length_cons, List.length_nil, List.replicate, List.cons_append, List.nil_append, List.getElem?_cons_zero, List.getElem?_cons_succ, List.set_cons_zero, List.set_cons_succ]
    rw [show itL (((endsN n).map PyData.int).map W.d) = (endsN n).map iI by simp [itL, iI]]
  · rintro v hv T ⟨ex, rfl⟩
    have hg : (S ++ ex)[N]? = some (.dct (partK L)) := by
      rw [List.getElem?_append_left (List.getElem?_eq_some_iff.mp hS).1]
      exact hS
    refine ⟨[e0, e1, e2, e3, some (.c N), some (.d (.list ((endsN n).map .int))), e6, some (.d (.int v)), e8, e9], [], rfl, ?_, fun _ => ⟨[], ?_⟩⟩
    · simp only [fnD, fin, ent, sq, skip, brk, cnt, drp, asg, ret, retN, ifS, par, asgG, asgT, Res.bind, Res.fl, bin, cst, vr, boo, tru, truW, tNotD, tAndD, tOrD, vAnd, vOr, vNot, vIf, vNeg, chn, aNil, aCons, cal, calC, calR, bcall, mth, lstD, lstC, tupD, dctC, fEqF_int, fEqT_int, fLt_int, fGt_int, fLe_int, fGe_int, fAdd_int, fSub_int, fIx_t0, fIx_t1, fLen_r, fLen_l, fLen_t, fAbs, fInt, fMax2, fMin2, fList, fListW, itmA, fTuple, itm, itmT, isiD, tyN, kitB, mkL, mkC, mkT, allD, allD_map, rdW_d, rdW_r, bind_ok, fl_ok, atI0, atI1, atI2, last_get, last_set, expo_d, expo_app, gN, gT, gS, gsNil, gsCons, tiW, tiT, tYesD, nev, Option.map_some, Bool.false_eq_true, if_true, if_false, decide_true, decide_false, List.map_cons, List.map_nil, List.length_cons, List.length_nil, List.replicate, List.cons_append, List.nil_append, List.getElem?_cons_zero, List.getElem?_cons_succ, List.set_cons_zero, List.set_cons_succ, fIn_k true v hg, kget_part, Option.isSome_map, List.append_nil, Bool.true_bne]
    · simp [fnD, fin, ent, sq, skip, brk, cnt, drp, asg, ret, retN, ifS, par, asgG, asgT, Res.bind, Res.fl, bin, cst, vr, boo, tru, truW, tNotD, tAndD, tOrD, vAnd, vOr, vNot, vIf, vNeg, chn, aNil, aCons, cal, calC, calR, bcall, mth, lstD, lstC, tupD, dctC, fEqF_int, fEqT_int, fLt_int, fGt_int, fLe_int, fGe_int, fAdd_int, fSub_int, fIx_t0, fIx_t1, fLen_r, fLen_l, fLen_t, fAbs, fInt, fMax2, fMin2, fList, fListW, itmA, fTuple, itm, itmT, isiD, tyN, kitB, mkL, mkC, mkT, allD, allD_map, rdW_d, rdW_r, bind_ok, fl_ok, atI0, atI1, atI2, last_get, last_set, expo_d, expo_app, gN, gT, gS, gsNil, gsCons, tiW, tiT, tYesD, nev, Option.map_some, Bool.false_eq_true, if_true, if_false, decide_true, decide_false, List.map_cons, List.map_nil, List.length_cons, List.length_nil, List.replicate, List.cons_append, List.nil_append, List.getElem?_cons_zero, List.getElem?_cons_succ, List.set_cons_zero, List.set_cons_succ]
theorem lc_part : lcD (iSeq (vr 5)) (tiW (gN 7)) tYesD (get2 (vr 4) (vr 7) (cst (.int 0))) [7] [e0, e1, e2, e3, some (.c N), some (.d (.list ((endsN n).map .int))), e6, e7, e8, e9] S = .ok (.d (.list ((partL n L).map .int))) S := by
  rw [← partL_map]
  refine lcD_v (ys := endsN n) (chk := none) iI (fun v => true) (fun v => match pget L v with | some x => PyData.int x | none => .int 0) ?_ trivial (Nat.le_trans (ends_small hn) (by decide)) ?_
  · simp only [iSeq, fnD, fin, ent, sq, skip, brk, cnt, drp, asg, ret, retN, ifS, par, asgG, asgT, Res.bind, Res.fl, bin, cst, vr, boo, tru, truW, tNotD, tAndD, tOrD, vAnd, vOr, vNot, vIf, vNeg, chn, aNil, aCons, cal, calC, calR, bcall, mth, lstD, lstC, tupD, dctC, fEqF_int, fEqT_int, fLt_int, fGt_int, fLe_int, fGe_int, fAdd_int, fSub_int, fIx_t0, fIx_t1, fLen_r, fLen_l, fLen_t, fAbs, fInt, fMax2, fMin2, fList, fListW, itmA, fTuple, itm, itmT, isiD, tyN, kitB, mkL, mkC, mkT, allD, allD_map, rdW_d, rdW_r, bind_ok, fl_ok, atI0, atI1, atI2, last_get, last_set, expo_d, expo_app, gN, gT, gS, gsNil, gsCons, tiW, tiT, tYesD, nev, Option.map_some, Bool.false_eq_true, if_true, if_false, decide_true, decide_false, List.map_cons, List.map_nil, List.length_cons, List.length_nil, List.replicate, List.cons_append, List.nil_append, List.getElem?_cons_zero, List.getElem?_cons_succ, List.set_cons_zero, List.set_cons_succ]
    rw [show itL (((endsN n).map PyData.int).map W.d) = (endsN n).map iI by simp [itL, iI]]
  · rintro v hv T ⟨ex, rfl⟩
    have hg : (S ++ ex)[N]? = some (.dct (partK L)) := by
      rw [List.getElem?_append_left (List.getElem?_eq_some_iff.mp hS).1]
      exact hS
    refine ⟨[e0, e1, e2, e3, some (.c N), some (.d (.list ((endsN n).map .int))), e6, some (.d (.int v)), e8, e9], [], rfl, ?_, fun _ => ⟨[], ?_⟩⟩
    · simp [tYesD]
    · rw [List.append_nil, List.append_nil]
      exact get2_v rfl rfl hg _
theorem lc_get : lcD (iSeq (vr 5)) (tiW (gN 7)) tYesD (get1 (vr 4) (vr 7)) [7] [e0, e1, e2, e3, some (.c N), some (.d (.list ((endsN n).map .int))), e6, e7, e8, e9] S = .ok (.d (.list ((endsN n).map (partO L)))) S := by
  have q : ((endsN n).filter fun _ => true).map (partO L) = (endsN n).map (partO L) := by rw [List.filter_eq_self.mpr (fun _ _ => rfl)]
  rw [← q]
  refine lcD_v (ys := endsN n) (chk := none) iI (fun v => true) (partO L) ?_ trivial (Nat.le_trans (ends_small hn) (by decide)) ?_
  · simp only [iSeq, fnD, fin, ent, sq, skip, brk, cnt, drp, asg, ret, retN, ifS, par, asgG, asgT, Res.bind, Res.fl, bin, cst, vr, boo, tru, truW, tNotD, tAndD, tOrD, vAnd, vOr, vNot, vIf, vNeg, chn, aNil, aCons, cal, calC, calR, bcall, mth, lstD, lstC, tupD, dctC, fEqF_int, fEqT_int, fLt_int, fGt_int, fLe_int, fGe_int, fAdd_int, fSub_int, fIx_t0, fIx_t1, fLen_r, fLen_l, fLen_t, fAbs, fInt, fMax2, fMin2, fList, fListW, itmA, fTuple, itm, itmT, isiD, tyN, kitB, mkL, mkC, mkT, allD, allD_map, rdW_d, rdW_r, bind_ok, fl_ok, atI0, atI1, atI2, last_get, last_set, expo_d, expo_app, gN, gT, gS, gsNil, gsCons, tiW, tiT, tYesD, nev, Option.map_some, Bool.false_eq_true, if_true, if_false, decide_true, decide_false, List.map_cons, List.map_nil, List.length_cons, List.length_nil, List.replicate, List.cons_append, List.nil_append, List.getElem?_cons_zero, List.getElem?_cons_succ, List.set_cons_zero, List.set_cons_succ]
    rw [show itL (((endsN n).map PyData.int).map W.d) = (endsN n).map iI by simp [itL, iI]]
  · rintro v hv T ⟨ex, rfl⟩
    have hg : (S ++ ex)[N]? = some (.dct (partK L)) := by
      rw [List.getElem?_append_left (List.getElem?_eq_some_iff.mp hS).1]
      exact hS
    refine ⟨[e0, e1, e2, e3, some (.c N), some (.d (.list ((endsN n).map .int))), e6, some (.d (.int v)), e8, e9], [], rfl, ?_, fun _ => ⟨[], ?_⟩⟩
    · simp [tYesD]
    · rw [List.append_nil, List.append_nil]
      exact get1_v rfl rfl hg
omit hS
include h
theorem lc_of (e4 : Option W) : lcD (iSeq (vr 5)) (tiW (gN 7)) tYesD (cal CB.f_partner_of (aCons (vr 1) (aCons (vr 3) (aCons (vr 7) aNil)))) [7] [e0, some (.d (.int n)), e2, some (.d (.list (L.map pr))), e4, some (.d (.list ((endsN n).map .int))), e6, e7, e8, e9] S = .ok (.d (.list ((endsN n).map (partO L)))) S := by
  have q : ((endsN n).filter fun _ => true).map (partO L) = (endsN n).map (partO L) := by rw [List.filter_eq_self.mpr (fun _ _ => rfl)]
  rw [← q]
  refine lcD_v (ys := endsN n) (chk := none) iI (fun v => true) (partO L) ?_ trivial (Nat.le_trans (ends_small hn) (by decide)) ?_
  · simp only [iSeq, fnD, fin, ent, sq, skip, brk, cnt, drp, asg, ret, retN, ifS, par, asgG, asgT, Res.bind, Res.fl, bin, cst, vr, boo, tru, truW, tNotD, tAndD, tOrD, vAnd, vOr, vNot, vIf, vNeg, chn, aNil, aCons, cal, calC, calR, bcall, mth, lstD, lstC, tupD, dctC, fEqF_int, fEqT_int, fLt_int, fGt_int, fLe_int, fGe_int, fAdd_int, fSub_int, fIx_t0, fIx_t1, fLen_r, fLen_l, fLen_t, fAbs, fInt, fMax2, fMin2, fList, fListW, itmA, fTuple, itm, itmT, isiD, tyN, kitB, mkL, mkC, mkT, allD, allD_map, rdW_d, rdW_r, bind_ok, fl_ok, atI0, atI1, atI2, last_get, last_set, expo_d, expo_app, gN, gT, gS, gsNil, gsCons, tiW, tiT, tYesD, nev, Option.map_some, Bool.false_eq_true, if_true, if_false, decide_true, decide_false, List.map_cons, List.map_nil, List.length_cons, List.length_nil, List.replicate, List.cons_append, List.nil_append, List.getElem?_cons_zero, List.getElem?_cons_succ, List.set_cons_zero, List.set_cons_succ]
    rw [show itL (((endsN n).map PyData.int).map W.d) = (endsN n).map iI by simp [itL, iI]]
  · rintro v hv T ⟨ex, rfl⟩
    refine ⟨[e0, some (.d (.int n)), e2, some (.d (.list (L.map pr))), e4, some (.d (.list ((endsN n).map .int))), e6, some (.d (.int v)), e8, e9], [], rfl, ?_, fun _ => ⟨[], ?_⟩⟩
    · simp [tYesD]
    · simp only [fnD, fin, ent, sq, skip, brk, cnt, drp, asg, ret, retN, ifS, par, asgG, asgT, Res.bind, Res.fl, bin, cst, vr, boo, tru, truW, tNotD, tAndD, tOrD, vAnd, vOr, vNot, vIf, vNeg, chn, aNil, aCons, cal, calC, calR, bcall, mth, lstD, lstC, tupD, dctC, fEqF_int, fEqT_int, fLt_int, fGt_int, fLe_int, fGe_int, fAdd_int, fSub_int, fIx_t0, fIx_t1, fLen_r, fLen_l, fLen_t, fAbs, fInt, fMax2, fMin2, fList, fListW, itmA, fTuple, itm, itmT, isiD, tyN, kitB, mkL, mkC, mkT, allD, allD_map, rdW_d, rdW_r, bind_ok, fl_ok, atI0, atI1, atI2, last_get, last_set, expo_d, expo_app, gN, gT, gS, gsNil, gsCons, tiW, tiT, tYesD, nev, Option.map_some, Bool.false_eq_true, if_true, if_false, decide_true, decide_false, List.map_cons, List.map_nil, List.length_cons, List.length_nil, List.replicate, List.cons_append, List.nil_append, List.getElem?_cons_zero, List.getElem?_cons_succ, List.set_cons_zero, List.set_cons_succ, partner_of_v hn h ((endsN_good hn).e v hv), List.append_nil]
end
/-- one turn of the loop of told -/
theorem turn_v {n : Int} {L : List (Int × Int)} (hn : 1 ≤ n ∧ n ≤ 60) (h : Lay n L) (S : Store) (e0 e2 e4 e5 e7 e8 e9 : Option W) : ∃ ex o9,
    (sq (asg 9 (lstC (aCons (calC f_open_ends (aCons (vr 1) (aCons (vr 3) aNil))) (aCons (calC f_partners_of (aCons (vr 1) (aCons (vr 3) aNil))) aNil))))
    (sq (ifS (tOrD (boo (bin (fEq true) (bcall fRepr (aCons (vr 9) aNil)) (bcall fRepr (aCons (vr 6) aNil)))) (boo (bin (fEq true) (vr 3) (vr 2)))) (ret (cst (.bool false))) skip)
    (sq (drp (mth "list" fAppend (bin fIx (vr 9) (cst (.int 0))) (aCons (cst (.int 0)) aNil)))
    (drp (mth "list" fClear (bin fIx (vr 9) (cst (.int 1))) aNil))))) [e0, some (.d (.int n)), some (.d (.list (L.map pr))), some (.d (.list (L.map pr))), e4, e5, some (.d (dueD n L)), e7, e8, e9] S =
    .nx [e0, some (.d (.int n)), some (.d (.list (L.map pr))), some (.d (.list (L.map pr))), e4, e5, some (.d (dueD n L)), e7, e8, o9] (S ++ ex) := by
  have f1 : (S ++ [Cell.lst (((openL n L).map .int).map W.d)]).length = S.length + 1 := by simp
  have f2 : (S ++ [Cell.lst (((openL n L).map .int).map W.d)] ++ [Cell.lst (((partL n L).map .int).map W.d)]).length = S.length + 2 := by simp
  have f3 : S ++ [Cell.lst (((openL n L).map .int).map W.d)] ++ [Cell.lst (((partL n L).map .int).map W.d)] ++ [Cell.lst [.c S.length, .c (S.length + 1)]] = S ++ [Cell.lst (((openL n L).map .int).map W.d), Cell.lst (((partL n L).map .int).map W.d), Cell.lst [.c S.length, .c (S.length + 1)]] := by simp
  have hz : (((openL n L).map PyData.int).map W.d).length < sizeLine := by
    have q : (openL n L).length ≤ 1000 := Nat.le_trans (List.length_filter_le _ _) (ends_small hn)
    simp only [List.length_map]
    exact Nat.lt_of_le_of_lt q (by decide)
  have r1 : rdW (S ++ [Cell.lst (((openL n L).map .int).map W.d), Cell.lst (((partL n L).map .int).map W.d), Cell.lst [.c S.length, .c (S.length + 1)]]) 6 (.c (S.length + 2)) = some (dueD n L) := rdW_two (three2 _ _ _ _) (three0 _ _ _ _) (three1 _ _ _ _)
  have r2 : fRepr [.c (S.length + 2)] (S ++ [Cell.lst (((openL n L).map .int).map W.d), Cell.lst (((partL n L).map .int).map W.d), Cell.lst [.c S.length, .c (S.length + 1)]]) = .ok (.d (.str (dueD n L).shown)) (S ++ [Cell.lst (((openL n L).map .int).map W.d), Cell.lst (((partL n L).map .int).map W.d), Cell.lst [.c S.length, .c (S.length + 1)]]) := by
    unfold fRepr
    simp only [r1, if_pos (shw_due hn h)]
  have g1 : ∀ a b : Cell, fIx (.c (S.length + 2)) (.d (.int 0)) (S ++ [a, b, Cell.lst [.c S.length, .c (S.length + 1)]]) = .ok (.c S.length) (S ++ [a, b, Cell.lst [.c S.length, .c (S.length + 1)]]) := fun a b => fIx_c (three2 _ _ _ _) (atI0 _ _)
  have g2 : ∀ a b : Cell, fIx (.c (S.length + 2)) (.d (.int 1)) (S ++ [a, b, Cell.lst [.c S.length, .c (S.length + 1)]]) = .ok (.c (S.length + 1)) (S ++ [a, b, Cell.lst [.c S.length, .c (S.length + 1)]]) := fun a b => fIx_c (three2 _ _ _ _) (atI1 _ _ _)
  have t1 : ∀ (a : List W) (b c : Cell), isTy "list" (S ++ [.lst a, b, c]) (.c S.length) = true := fun a b c => by
    simp only [isTy, three0]
    rfl
  have t2 : ∀ (a : List W) (b c : Cell), isTy "list" (S ++ [b, .lst a, c]) (.c (S.length + 1)) = true := fun a b c => by
    simp only [isTy, three1]
    rfl
  have a1 : ∀ (a : List W) (b c : Cell), a.length < sizeLine → fAppend (.c S.length) [.d (.int 0)] (S ++ [.lst a, b, c]) = .ok (.d .none) (S ++ [.lst (a ++ [.d (.int 0)]), b, c]) := fun a b c hl => by
    unfold fAppend
    simp only [three0, if_pos hl, three_s0]
  have a2 : ∀ (a : List W) (b c : Cell), fClear (.c (S.length + 1)) [] (S ++ [b, .lst a, c]) = .ok (.d .none) (S ++ [b, .lst [], c]) := fun a b c => by
    unfold fClear
    simp only [three1, three_s1]
  refine ⟨[.lst (((openL n L).map .int).map W.d ++ [.d (.int 0)]), .lst [], .lst [.c S.length, .c (S.length + 1)]], some (.c (S.length + 2)), ?_⟩
  simp only [fnD, fin, ent, sq, skip, brk, cnt, drp, asg, ret, retN, ifS, par, asgG, asgT, Res.bind, Res.fl, bin, cst, vr, boo, tru, truW, tNotD, tAndD, tOrD, vAnd, vOr, vNot, vIf, vNeg, chn, aNil, aCons, cal, calC, calR, bcall, mth, lstD, lstC, tupD, dctC, fEqF_int, fEqT_int, fLt_int, fGt_int, fLe_int, fGe_int, fAdd_int, fSub_int, fIx_t0, fIx_t1, fLen_r, fLen_l, fLen_t, fAbs, fInt, fMax2, fMin2, fList, fListW, itmA, fTuple, itm, itmT, isiD, tyN, kitB, mkL, mkC, mkT, allD, allD_map, rdW_d, rdW_r, bind_ok, fl_ok, atI0, atI1, atI2, last_get, last_set, expo_d, expo_app, gN, gT, gS, gsNil, gsCons, tiW, tiT, tYesD, nev, Option.map_some, Bool.false_eq_true, if_true, if_false, decide_true, decide_false, List.map_cons, List.map_nil, List.length_cons, List.length_nil, List.replicate, List.cons_append, List.nil_append, List.getElem?_cons_zero, List.getElem?_cons_succ, List.set_cons_zero, List.set_cons_succ, open_ends_v hn h, partners_of_v hn h, f1, f2, f3, r2, fRepr_d (shw_due hn h), fEq_str, fEq_lay, Bool.true_bne, Bool.not_true, g1, t1, a1 _ _ _ hz, g2, t2, a2]
theorem counts_i {n : Int} (hn : 1 ≤ n ∧ n ≤ 60) : (cntN (2 * n - 1).toNat).2 = (manyN n (n + 1).toNat).1 ∧ (cntN (2 * n - 1).toNat).2.natAbs < 2 ^ 1000 := by
  have hc := counts n.toNat (by omega) (by omega)
  rwa [show ((n.toNat : Nat) : Int) = n by omega] at hc
theorem law_right_v {st : Store} {t : Nat} {x : Cell} (ht : st[t]? = some x) (hx : IsTap x) : ∃ x', IsTap x' ∧ expo st (f_law_right [.c t] st) = .ok (.d (.bool true)) (st.set t x') := by
  have htl : t < st.length := (List.getElem?_eq_some_iff.mp ht).1
  obtain ⟨r1, x1, a0, a1, hx1, d1⟩ := law_draw_v ht hx (m := 2) (by decide)
  obtain ⟨m, am, m0, m1⟩ := two60 a0 a1
  obtain ⟨r2, x2, b0, b1, hx2, d2⟩ := law_draw_v (set_get_same htl x1) hx1 (m := m) (by omega)
  have hn : 1 ≤ 1 + r2 ∧ 1 + r2 ≤ 60 := by omega
  rw [List.set_set] at d2
  obtain ⟨L, x3, hL, hx3, d3⟩ := law_layout_v (set_get_same htl x2) hx2 hn
  rw [List.set_set] at d3
  generalize hA : st.set t x3 = A at d3
  generalize hnn : 1 + r2 = n at hn hL d3
  have e0 : ∀ S : Store, fIx (.d (.list [PyData.int 5, .int 60])) (.d (.int r1)) S = .ok (.d (.int m)) S := fun S => fIx_l am S
  have e3 : ∀ S : Store, expoC S (.ok (.c S.length) (S ++ [.dct (partK L)])) = .ok (.c S.length) (S ++ [.dct (partK L)]) := fun S => expoC_lastK S [] _ (partK_d L)
  have e4 : ∀ S : Store, expo S (.ok (.c S.length) (S ++ [.lst (((endsN n).map .int).map W.d)])) = .ok (.d (.list ((endsN n).map .int))) S := fun S => expo_last S [] _
  have hN : (A ++ [Cell.dct (partK L)])[A.length]? = some (.dct (partK L)) := by simp
  have hr2 : -(2 ^ 62) ≤ (2 : Int) ∧ (2 : Int) < 2 ^ 62 := by decide
  simp only [f_law_right, d_law_right, fnD, fin, ent, sq, skip, brk, cnt, drp, asg, ret, retN, ifS, par, asgG, asgT, Res.bind, Res.fl, bin, cst, vr, boo, tru, truW, tNotD, tAndD, tOrD, vAnd, vOr, vNot, vIf, vNeg, chn, aNil, aCons, cal, calC, calR, bcall, mth, lstD, lstC, tupD, dctC, fEqF_int, fEqT_int, fLt_int, fGt_int, fLe_int, fGe_int, fAdd_int, fSub_int, fIx_t0, fIx_t1, fLen_r, fLen_l, fLen_t, fAbs, fInt, fMax2, fMin2, fList, fListW, itmA, fTuple, itm, itmT, isiD, tyN, kitB, mkL, mkC, mkT, allD, allD_map, rdW_d, rdW_r, bind_ok, fl_ok, atI0, atI1, atI2, last_get, last_set, expo_d, expo_app, gN, gT, gS, gsNil, gsCons, tiW, tiT, tYesD, nev, Option.map_some, Bool.false_eq_true, if_true, if_false, decide_true, decide_false, List.map_cons, List.map_nil, List.length_cons, List.length_nil, List.replicate, List.cons_append, List.nil_append, List.getElem?_cons_zero, List.getElem?_cons_succ, List.set_cons_zero, List.set_cons_succ, d1, e0, d2, hnn, d3, law_partners_v hL, e3, law_ends_v hn, e4, lc_open hn hN, lc_part hn hN, forS, iRg1, if_pos hr2]
  generalize hr : forL _ _ _ _ _ _ = r
  obtain ⟨env', st', rfl, ex, o8, o9, rfl, rfl⟩ := forL_g hr (fun k env S => ∃ ex o8 o9, env = [some (.c t), some (.d (.int n)), some (.d (.list (L.map pr))), some (.d (.list (L.map pr))), some (.c A.length), some (.d (.list ((endsN n).map .int))), some (.d (dueD n L)), none, o8, o9] ∧ S = A ++ .dct (partK L) :: ex) ⟨[], none, none, rfl, rfl⟩ (fun j y env S hj hp => by
    obtain ⟨ex, o8, o9, rfl, rfl⟩ := hp
    obtain ⟨rfl, hj2⟩ := rngI_at hj
    obtain ⟨ex2, p9, e⟩ := turn_v hn hL (A ++ .dct (partK L) :: ex) (some (.c t)) (some (.d (.list (L.map pr)))) (some (.c A.length)) (some (.d (.list ((endsN n).map .int)))) none (some (.d (.int (0 + (j : Int))))) o9
    exact ⟨trivial, _, _, _, _, rfl, e, ex ++ ex2, _, _, rfl, by simp⟩) (fun _ _ _ => trivial)
  have hN2 : (A ++ Cell.dct (partK L) :: ex)[A.length]? = some (.dct (partK L)) := by simp
  have hc := counts_i hn
  have k1 := okShow_int hc.2
  have k2 := k1
  rw [hc.1] at k2
  refine ⟨x3, hx3, ?_⟩
  simp only [fnD, fin, ent, sq, skip, brk, cnt, drp, asg, ret, retN, ifS, par, asgG, asgT, Res.bind, Res.fl, bin, cst, vr, boo, tru, truW, tNotD, tAndD, tOrD, vAnd, vOr, vNot, vIf, vNeg, chn, aNil, aCons, cal, calC, calR, bcall, mth, lstD, lstC, tupD, dctC, fEqF_int, fEqT_int, fLt_int, fGt_int, fLe_int, fGe_int, fAdd_int, fSub_int, fIx_t0, fIx_t1, fLen_r, fLen_l, fLen_t, fAbs, fInt, fMax2, fMin2, fList, fListW, itmA, fTuple, itm, itmT, isiD, tyN, kitB, mkL, mkC, mkT, allD, allD_map, rdW_d, rdW_r, bind_ok, fl_ok, atI0, atI1, atI2, last_get, last_set, expo_d, expo_app, gN, gT, gS, gsNil, gsCons, tiW, tiT, tYesD, nev, Option.map_some, Bool.false_eq_true, if_true, if_false, decide_true, decide_false, List.map_cons, List.map_nil, List.length_cons, List.length_nil, List.replicate, List.cons_append, List.nil_append, List.getElem?_cons_zero, List.getElem?_cons_succ, List.set_cons_zero, List.set_cons_succ, lc_of hn hL, lc_get hn hN2, fRepr_d (shw_partO hn hL), fEq_str, count_layouts_v hn, law_many_v hn, fRepr_d k1, fRepr_d k2, hc.1, fEq_lay, Bool.true_bne, Bool.not_true]
  rw [← hA]
  exact expo_set st _ t x3 (.bool true) hx3.dOnly
theorem tap_expoC {x : Cell} (hx : IsTap x) (S : Store) : expoC S (.ok (.c S.length) (S ++ [x])) = .ok (.c S.length) (S ++ [x]) := by
  obtain ⟨a, b, c, rfl, _⟩ := hx
  exact expoC_last S [] [.int a, .int b, .int c]
theorem fEq_nil (st : Store) : fEq true (.d (.list [])) (.d (.list [])) st = .ok (.d (.bool false)) st := fEq_same true (by simp [PyData.plain, PyData.plainAll]) (by simp [PyData.depth, PyData.depthAll]) st
end VS.P02

set_option Elab.async false
set_option linter.all false
set_option maxRecDepth 100000
set_option maxHeartbeats 1000000
/-! P02c: the plain law of k02, its end. -/
namespace VS.P02
open PySem PySem.Spec PyProof.Rows L2 K02
theorem iRg1_v {a : Av} {env : VS.Env} {st : Store} {j : Int} (ha : a env st = .ok [.d (.int j)] st) (h : 0 ≤ j ∧ j ≤ 1000000000) : iRg1 a env st = .ok ⟨(rng 0 j.toNat).map iI, none⟩ st := by
  have q : -(2 ^ 62) ≤ j ∧ j < 2 ^ 62 := by omega
  unfold iRg1
  rw [ha, ← rngI_eq]
  show (if -(2 ^ 62) ≤ j ∧ j < 2 ^ 62 then Res.ok (Items.mk (rngI 0 j.toNat) none) st else .bad) = _
  rw [if_pos q]
theorem all_right (ns cs : List Int) (c2 : cs.length ≤ 6) : lcD (iRg1 (aCons (bcall fLen (aCons (vr 1) aNil)) aNil)) (tiW (gN 2)) (tNotD (tru (cal f_law_right (aCons (calC CB.f_law_tap (aCons (bin fIx (vr 1) (vr 2)) (aCons (vr 2) aNil))) aNil)))) (vr 2) [2] [some (.r (ns.map .int)), some (.d (.list (cs.map .int))), none] [] = .ok (.d (.list [])) [] := by
  have e2 : ((rng 0 cs.length).filter fun _ => false).map PyData.int = [] := by
    rw [List.filter_eq_nil_iff.mpr fun _ _ => by simp]
    rfl
  rw [← e2]
  refine lcD_v (ys := rng 0 cs.length) (chk := none) iI (fun _ => false) .int ?_ trivial ?_ ?_
  · have q := iRg1_v (a := aCons (bcall fLen (aCons (vr 1) aNil)) aNil) (env := [some (.r (ns.map .int)), some (.d (.list (cs.map .int))), none]) (st := []) (j := (cs.map PyData.int).length) rfl (by rw [List.length_map]; omega)
    rw [q, Int.toNat_natCast, List.length_map]
  · simp only [rng, List.length_map, List.length_range]
    exact Nat.le_trans c2 (by decide)
  · intro v hv S _
    unfold rng at hv
    rw [List.mem_map] at hv
    obtain ⟨j, hj, rfl⟩ := hv
    rw [List.mem_range] at hj
    have a1 : fIx (.d (.list (cs.map .int))) (.d (.int (0 + (j : Int)))) S = .ok (.d (.int cs[j])) S := by
      refine fIx_l ?_ S
      rw [Int.zero_add, atI_nat _ _ (by rw [List.length_map]; exact hj), List.getElem?_map, List.getElem?_eq_getElem hj]
      rfl
    obtain ⟨x, hx, a2⟩ := law_tap_v cs[j] (0 + (j : Int)) (by omega) S
    obtain ⟨x', hx', a3⟩ := law_right_v (last_get S x) hx
    rw [last_set] at a3
    refine ⟨[some (.r (ns.map .int)), some (.d (.list (cs.map .int))), some (.d (.int (0 + (j : Int))))], [x'], rfl, ?_, fun q => nomatch q⟩
    simp only [fnD, fin, ent, sq, skip, brk, cnt, drp, asg, ret, retN, ifS, par, asgG, asgT, Res.bind, Res.fl, bin, cst, vr, boo, tru, truW, tNotD, tAndD, tOrD, vAnd, vOr, vNot, vIf, vNeg, chn, aNil, aCons, cal, calC, calR, bcall, mth, lstD, lstC, tupD, dctC, fEqF_int, fEqT_int, fLt_int, fGt_int, fLe_int, fGe_int, fAdd_int, fSub_int, fIx_t0, fIx_t1, fLen_r, fLen_l, fLen_t, fAbs, fInt, fMax2, fMin2, fList, fListW, itmA, fTuple, itm, itmT, isiD, tyN, kitB, mkL, mkC, mkT, allD, allD_map, rdW_d, rdW_r, bind_ok, fl_ok, atI0, atI1, atI2, last_get, last_set, expo_d, expo_app, gN, gT, gS, gsNil, gsCons, tiW, tiT, tYesD, nev, Option.map_some, Bool.false_eq_true, if_true, if_false, decide_true, decide_false, List.map_cons, List.map_nil, List.length_cons, List.length_nil, List.replicate, List.cons_append, List.nil_append, List.getElem?_cons_zero, List.getElem?_cons_succ, List.set_cons_zero, List.set_cons_succ, a1, a2, tap_expoC hx, a3, Bool.not_true]
theorem nums : ∃ z : Int, CB.f_count_layouts [.d (.int 1)] [] = .ok (.d (.int 2)) [] ∧ CB.f_count_layouts [.d (.int 2)] [] = .ok (.d (.int 10)) [] ∧ CB.f_count_layouts [.d (.int 3)] [] = .ok (.d (.int 76)) [] ∧ CB.f_count_layouts [.d (.int 60)] [] = .ok (.d (.int z)) [] ∧ f_law_many [.d (.int 60)] [] = .ok (.d (.int z)) [] := by
  refine ⟨(manyN 60 ((60 : Int) + 1).toNat).1, ?_, ?_, ?_, ?_, law_many_v (n := 60) (by decide) []⟩
  · rw [count_layouts_v (n := 1) (by decide) [], show (cntN (2 * (1 : Int) - 1).toNat).2 = 2 by decide +kernel]
  · rw [count_layouts_v (n := 2) (by decide) [], show (cntN (2 * (2 : Int) - 1).toNat).2 = 10 by decide +kernel]
  · rw [count_layouts_v (n := 3) (by decide) [], show (cntN (2 * (3 : Int) - 1).toNat).2 = 76 by decide +kernel]
  · rw [count_layouts_v (n := 60) (by decide) [], (counts_i (n := 60) (by decide)).1]
theorem sq_nx {a b : Sd} {env env1 : VS.Env} {st st1 : Store} (h : a env st = .nx env1 st1) : sq a b env st = b env1 st1 := by
  unfold sq
  rw [h]
theorem ifS_f {t : Tst} {a b : Sd} {env : VS.Env} {st st1 : Store} (h : t env st = .ok false st1) : ifS t a b env st = b env st1 := by
  unfold ifS
  rw [h]
  rfl
theorem boo_v {a : Ev} {env : VS.Env} {st st1 : Store} {b : Bool} (h : a env st = .ok (.d (.bool b)) st1) : boo a env st = .ok b st1 := by
  unfold boo
  rw [h]
  rfl
theorem bin_v {f : W → W → Store → Res W} {a b : Ev} {env : VS.Env} {st st1 st2 : Store} {x y : W} (h1 : a env st = .ok x st1) (h2 : b env st1 = .ok y st2) : bin f a b env st = f x y st2 := by
  unfold bin
  rw [h1]
  show (b env st1).bind _ = _
  rw [h2]
  rfl
theorem s1 (ns cs : List Int) (hc' : CB.f_law_cells [.r (ns.map .int), .d (.int 6)] [] = .ok (.d (.list (cs.map .int))) []) : asg 1 (cal CB.f_law_cells (aCons (vr 0) (aCons (cst (.int 6)) aNil))) [some (.r (ns.map .int)), none, none] [] = .nx [some (.r (ns.map .int)), some (.d (.list (cs.map .int))), none] [] := by
  simp only [fnD, fin, ent, sq, skip, brk, cnt, drp, asg, ret, retN, ifS, par, asgG, asgT, Res.bind, Res.fl, bin, cst, vr, boo, tru, truW, tNotD, tAndD, tOrD, vAnd, vOr, vNot, vIf, vNeg, chn, aNil, aCons, cal, calC, calR, bcall, mth, lstD, lstC, tupD, dctC, fEqF_int, fEqT_int, fLt_int, fGt_int, fLe_int, fGe_int, fAdd_int, fSub_int, fIx_t0, fIx_t1, fLen_r, fLen_l, fLen_t, fAbs, fInt, fMax2, fMin2, fList, fListW, itmA, fTuple, itm, itmT, isiD, tyN, kitB, mkL, mkC, mkT, allD, allD_map, rdW_d, rdW_r, bind_ok, fl_ok, atI0, atI1, atI2, last_get, last_set, expo_d, expo_app, gN, gT, gS, gsNil, gsCons, tiW, tiT, tYesD, nev, Option.map_some, Bool.false_eq_true, if_true, if_false, decide_true, decide_false, List.map_cons, List.map_nil, List.length_cons, List.length_nil, List.replicate, List.cons_append, List.nil_append, List.getElem?_cons_zero, List.getElem?_cons_succ, List.set_cons_zero, List.set_cons_succ, hc']
theorem s3 (e : VS.Env) : ret (bin (fEq false) (lstD (aCons (cal CB.f_count_layouts (aCons (cst (.int 1)) aNil)) (aCons (cal CB.f_count_layouts (aCons (cst (.int 2)) aNil)) (aCons (cal CB.f_count_layouts (aCons (cst (.int 3)) aNil)) (aCons (cal CB.f_count_layouts (aCons (cst (.int 60)) aNil)) aNil))))) (lstD (aCons (cst (.int 2)) (aCons (cst (.int 10)) (aCons (cst (.int 76)) (aCons (cal f_law_many (aCons (cst (.int 60)) aNil)) aNil)))))) e [] = .rt (.d (.bool true)) [] := by
  obtain ⟨z, v1, v2, v3, v4, v5⟩ := nums
  have q : fEq false (.d (.list [.int 2, .int 10, .int 76, .int z])) (.d (.list [.int 2, .int 10, .int 76, .int z])) [] = .ok (.d (.bool true)) [] := fEq_same false (by simp [PyData.plain, PyData.plainAll]) (by simp [PyData.depth, PyData.depthAll]) []
  simp only [fnD, fin, ent, sq, skip, brk, cnt, drp, asg, ret, retN, ifS, par, asgG, asgT, Res.bind, Res.fl, bin, cst, vr, boo, tru, truW, tNotD, tAndD, tOrD, vAnd, vOr, vNot, vIf, vNeg, chn, aNil, aCons, cal, calC, calR, bcall, mth, lstD, lstC, tupD, dctC, fEqF_int, fEqT_int, fLt_int, fGt_int, fLe_int, fGe_int, fAdd_int, fSub_int, fIx_t0, fIx_t1, fLen_r, fLen_l, fLen_t, fAbs, fInt, fMax2, fMin2, fList, fListW, itmA, fTuple, itm, itmT, isiD, tyN, kitB, mkL, mkC, mkT, allD, allD_map, rdW_d, rdW_r, bind_ok, fl_ok, atI0, atI1, atI2, last_get, last_set, expo_d, expo_app, gN, gT, gS, gsNil, gsCons, tiW, tiT, tYesD, nev, Option.map_some, Bool.false_eq_true, if_true, if_false, decide_true, decide_false, List.map_cons, List.map_nil, List.length_cons, List.length_nil, List.replicate, List.cons_append, List.nil_append, List.getElem?_cons_zero, List.getElem?_cons_succ, List.set_cons_zero, List.set_cons_succ, v1, v2, v3, v4, v5, q]
theorem pure_law (ns : List Int) (h : ns.length ≤ 63) : Says f_law ns := by
  obtain ⟨cs, c1, c2, hc⟩ := law_cells_v h (m := 6) (by decide) []
  refine ⟨[], ?_⟩
  have q : d_law [some (.r (ns.map .int)), none, none] [] = .rt (.d (.bool true)) [] := by
    unfold d_law
    have q2 : lstD aNil [some (.r (ns.map .int)), some (.d (.list (cs.map .int))), none] [] = .ok (.d (.list [])) [] := rfl
    rw [sq_nx (s1 ns cs hc), sq_nx (ifS_f (a := ret (cst (.bool false))) (b := skip) (boo_v ((bin_v (all_right ns cs c2) q2).trans (fEq_nil _))))]
    exact s3 _
  show fin (d_law [some (.r (ns.map .int)), none, none] []) = _
  rw [q]
  rfl
end VS.P02

set_option maxRecDepth 100000
open PySem PySem.W PyProof.Rows in
set_option maxRecDepth 100000 in
set_option maxHeartbeats 0 in
theorem PySem.Challenge.cw_crosshitch_k02_ends_and_partners_holds : PySem.Challenge.rw_crosshitch_k02_ends_and_partners.Holds := by
  w_on; o_law; k_head; (case hw => w_witness2)
  k_fill
  refine VS.walk_vs (l := PySem.Challenge.rw_crosshitch_k02_ends_and_partners) (n := 63) (k := 9) (fun _ _ => 0) K02.f_law (K02.topS 33) VS.P02.pure_law rfl (by decide) rfl rfl ⟨rfl, by decide, by decide⟩ (fun w h Y => PySem.W.kIn_of Y) ?F
  case F =>
    intro w mg h KX G
    refine' K02.end_all ?B ?D_is_integer ?D_ends_of ?D_couples ?D_law_tap ?D_law_draw ?D_law_cells ?D_law_ends ?D_law_pair ?D_law_partners ?D_law_many ?D_is_end ?D_require_pieces ?D_partner_list ?D_law_layout ?D_is_coupling ?D_require_end ?D_count_layouts ?D_layout_fault ?D_require_layout ?D_require_one ?D_open_ends ?D_partner_of ?D_partners_of ?D_law_right ?L
    case B =>
      refine' ⟨?b_abs, ?b_bool, ?b_enumerate, ?b_int, ?b_isinstance, ?b_len, ?b_list, ?b_max, ?b_min, ?b_range, ?b_repr, ?b_sorted, ?b_tuple, ?b_MOST_PIECES⟩
      (case b_abs => refine' VS.none_mk KX G ?_; k_is)
      (case b_bool => refine' VS.none_mk KX G ?_; k_is)
      (case b_enumerate => refine' VS.none_mk KX G ?_; k_is)
      (case b_int => refine' VS.none_mk KX G ?_; k_is)
      (case b_isinstance => refine' VS.none_mk KX G ?_; k_is)
      (case b_len => refine' VS.none_mk KX G ?_; k_is)
      (case b_list => refine' VS.none_mk KX G ?_; k_is)
      (case b_max => refine' VS.none_mk KX G ?_; k_is)
      (case b_min => refine' VS.none_mk KX G ?_; k_is)
      (case b_range => refine' VS.none_mk KX G ?_; k_is)
      (case b_repr => refine' VS.none_mk KX G ?_; k_is)
      (case b_sorted => refine' VS.none_mk KX G ?_; k_is)
      (case b_tuple => refine' VS.none_mk KX G ?_; k_is)
      (case b_MOST_PIECES => refine' VS.int_mk KX G ?a; (case a => k_is))
    case D_is_integer =>
      refine' VS.defT_mk KX G ?a ?l ?c ?k ?b
      (case a => k_is)
      (case l => k_is)
      (case c => k_is)
      (case k => k_is)
      (case b => exact fun _ _ _ _ _ _ us hl => match us, hl with | [_], _ => rfl)
    case D_ends_of =>
      refine' VS.defT_mk KX G ?a ?l ?c ?k ?b
      (case a => k_is)
      (case l => k_is)
      (case c => k_is)
      (case k => k_is)
      (case b => exact fun _ _ _ _ _ _ us hl => match us, hl with | [_], _ => rfl)
    case D_couples =>
      refine' VS.defT_mk KX G ?a ?l ?c ?k ?b
      (case a => k_is)
      (case l => k_is)
      (case c => k_is)
      (case k => k_is)
      (case b => exact fun _ _ _ _ _ _ us hl => match us, hl with | [_], _ => rfl)
    case D_law_tap =>
      refine' VS.defT_mk KX G ?a ?l ?c ?k ?b
      (case a => k_is)
      (case l => k_is)
      (case c => k_is)
      (case k => k_is)
      (case b => exact fun _ _ _ _ _ _ us hl => match us, hl with | [_, _], _ => rfl)
    case D_law_draw =>
      refine' VS.defT_mk KX G ?a ?l ?c ?k ?b
      (case a => k_is)
      (case l => k_is)
      (case c => k_is)
      (case k => k_is)
      (case b => exact fun _ _ _ _ _ _ us hl => match us, hl with | [_, _], _ => rfl)
    case D_law_cells =>
      refine' VS.defT_mk KX G ?a ?l ?c ?k ?b
      (case a => k_is)
      (case l => k_is)
      (case c => k_is)
      (case k => k_is)
      (case b => exact fun _ _ _ _ _ _ us hl => match us, hl with | [_, _], _ => rfl)
    case D_law_ends =>
      refine' VS.defT_mk KX G ?a ?l ?c ?k ?b
      (case a => k_is)
      (case l => k_is)
      (case c => k_is)
      (case k => k_is)
      (case b => exact fun _ _ _ _ _ _ us hl => match us, hl with | [_], _ => rfl)
    case D_law_pair =>
      refine' VS.defT_mk KX G ?a ?l ?c ?k ?b
      (case a => k_is)
      (case l => k_is)
      (case c => k_is)
      (case k => k_is)
      (case b => exact fun _ _ _ _ _ _ us hl => match us, hl with | [_, _], _ => rfl)
    case D_law_partners =>
      refine' VS.defT_mk KX G ?a ?l ?c ?k ?b
      (case a => k_is)
      (case l => k_is)
      (case c => k_is)
      (case k => k_is)
      (case b => exact fun _ _ _ _ _ _ us hl => match us, hl with | [_], _ => rfl)
    case D_law_many =>
      refine' VS.defT_mk KX G ?a ?l ?c ?k ?b
      (case a => k_is)
      (case l => k_is)
      (case c => k_is)
      (case k => k_is)
      (case b => exact fun _ _ _ _ _ _ us hl => match us, hl with | [_], _ => rfl)
    case D_is_end =>
      refine' VS.defT_mk KX G ?a ?l ?c ?k ?b
      (case a => k_is)
      (case l => k_is)
      (case c => k_is)
      (case k => k_is)
      (case b => exact fun _ _ _ _ _ _ us hl => match us, hl with | [_, _], _ => rfl)
    case D_require_pieces =>
      refine' VS.defT_mk KX G ?a ?l ?c ?k ?b
      (case a => k_is)
      (case l => k_is)
      (case c => k_is)
      (case k => k_is)
      (case b => exact fun _ _ _ _ _ _ us hl => match us, hl with | [_], _ => rfl)
    case D_partner_list =>
      refine' VS.defT_mk KX G ?a ?l ?c ?k ?b
      (case a => k_is)
      (case l => k_is)
      (case c => k_is)
      (case k => k_is)
      (case b => exact fun _ _ _ _ _ _ us hl => match us, hl with | [_, _], _ => rfl)
    case D_law_layout =>
      refine' VS.defT_mk KX G ?a ?l ?c ?k ?b
      (case a => k_is)
      (case l => k_is)
      (case c => k_is)
      (case k => k_is)
      (case b => exact fun _ _ _ _ _ _ us hl => match us, hl with | [_, _], _ => rfl)
    case D_is_coupling =>
      refine' VS.defT_mk KX G ?a ?l ?c ?k ?b
      (case a => k_is)
      (case l => k_is)
      (case c => k_is)
      (case k => k_is)
      (case b => exact fun _ _ _ _ _ _ us hl => match us, hl with | [_, _], _ => rfl)
    case D_require_end =>
      refine' VS.defT_mk KX G ?a ?l ?c ?k ?b
      (case a => k_is)
      (case l => k_is)
      (case c => k_is)
      (case k => k_is)
      (case b => exact fun _ _ _ _ _ _ us hl => match us, hl with | [_, _], _ => rfl)
    case D_count_layouts =>
      refine' VS.defT_mk KX G ?a ?l ?c ?k ?b
      (case a => k_is)
      (case l => k_is)
      (case c => k_is)
      (case k => k_is)
      (case b => exact fun _ _ _ _ _ _ us hl => match us, hl with | [_], _ => rfl)
    case D_layout_fault =>
      refine' VS.defT_mk KX G ?a ?l ?c ?k ?b
      (case a => k_is)
      (case l => k_is)
      (case c => k_is)
      (case k => k_is)
      (case b => exact fun _ _ _ _ _ _ us hl => match us, hl with | [_, _], _ => rfl)
    case D_require_layout =>
      refine' VS.defT_mk KX G ?a ?l ?c ?k ?b
      (case a => k_is)
      (case l => k_is)
      (case c => k_is)
      (case k => k_is)
      (case b => exact fun _ _ _ _ _ _ us hl => match us, hl with | [_, _], _ => rfl)
    case D_require_one =>
      refine' VS.defT_mk KX G ?a ?l ?c ?k ?b
      (case a => k_is)
      (case l => k_is)
      (case c => k_is)
      (case k => k_is)
      (case b => exact fun _ _ _ _ _ _ us hl => match us, hl with | [_, _], _ => rfl)
    case D_open_ends =>
      refine' VS.defT_mk KX G ?a ?l ?c ?k ?b
      (case a => k_is)
      (case l => k_is)
      (case c => k_is)
      (case k => k_is)
      (case b => exact fun _ _ _ _ _ _ us hl => match us, hl with | [_, _], _ => rfl)
    case D_partner_of =>
      refine' VS.defT_mk KX G ?a ?l ?c ?k ?b
      (case a => k_is)
      (case l => k_is)
      (case c => k_is)
      (case k => k_is)
      (case b => exact fun _ _ _ _ _ _ us hl => match us, hl with | [_, _, _], _ => rfl)
    case D_partners_of =>
      refine' VS.defT_mk KX G ?a ?l ?c ?k ?b
      (case a => k_is)
      (case l => k_is)
      (case c => k_is)
      (case k => k_is)
      (case b => exact fun _ _ _ _ _ _ us hl => match us, hl with | [_, _], _ => rfl)
    case D_law_right =>
      refine' VS.defT_mk KX G ?a ?l ?c ?k ?b
      (case a => k_is)
      (case l => k_is)
      (case c => k_is)
      (case k => k_is)
      (case b => exact fun _ _ _ _ _ _ us hl => match us, hl with | [_], _ => rfl)
    case L =>
      refine' VS.defL_mk KX G ?a ?l ?c ?k ?b
      (case a => k_is)
      (case l => k_is)
      (case c => k_is)
      (case k => k_is)
      (case b => exact fun _ _ _ _ _ _ _ => rfl)

