import PyProof.Rows.All
import Wide.All
import OpenK.AllK
import Wide.FinOn
import HandS.ForMost
import HandS.Exc
import HandS.TryOnly
import HandS.ExcOwn
import HandS.ExcInit
import HandS.ExcField
import HandS.ExcValue
import HandS.WordsExc
import HandS.Wide
import KE.DataCmp
import KE.DataEq
import PyProof.ReprRoads
import HandS.IsInst
import HandS.RaiseMore
import KE.SortData
import HandS.Style
import HandS.Conv
import HandS.More
import HandS.SetFor
import HandS.Text
import HandS.DictComp
import PyProof.DictUpdate
import HandS.Zip
import HandS.Star
import KE.KDictZip
import HandS.SetBool
import HandS.Strs
import PyProof.AutoSeq1
import HandS.MapJoin
import HandS.Iter
import HandS.Dict
import KE.KDictCopyH
import KE.KDictList
import KE.KEqDict
import HandS.DictSubView
import KE.KSlice
import HandS.ExcIs
import HandS.ClsMeth
import KE.KExcIs
import KE.DatumOrd
import PySem.Challenge.RW_crosshitch_k31_errors_made
set_option Elab.async false
set_option linter.all false
set_option maxRecDepth 100000
set_option maxHeartbeats 1000000
/-! VS1: value semantics over the hand layer: stores, relations, outcomes. -/
namespace VS
open PySem PySem.Spec PyProof.Rows L2
abbrev Frg := PySem.W.Frag
/-- a value: data, a cell of the store, or a list that may only be read -/
inductive W where
  | d (x : PyData)
  | c (n : Nat)
  | r (xs : List PyData)
/-- an exception that is a value: the name of its class, its field -/
structure Er where
  cls : Str
  fs : Option (Str × PyData)
/-- a mutable object that this program still owns -/
inductive Cell where
  | lst (ws : List W)
  | dct (kvs : List (Key × W))
  | tup (ws : List W)
  | lck (kvs : List (Key × W))
  | err (x : Er)
  | dead
abbrev Store := List Cell
/-- an own exception: its class by number, its fields -/
structure Exn where
  cls : Nat
  fs : Option (List (Str × PyData))
inductive Res (α : Type) where
  | ok (x : α) (st : Store)
  | exn (e : Exn) (st : Store)
  | bad
def Res.bind {α β : Type} (r : Res α) (f : α → Store → Res β) : Res β :=
  match r with
  | .ok x st => f x st
  | .exn e st => .exn e st
  | .bad => .bad
abbrev Env := List (Option W)
abbrev Ev := Env → Store → Res W
/-! ### the relations -/
mutual
/-- v is the datum d, laid in F, never to be changed -/
inductive Dq (K : Frg) (F : Hp) : V → PyData → Prop
  | non : Dq K F .non .none
  | bl (b : Bool) : Dq K F (.bl b) (.bool b)
  | int (i : Int) : Dq K F (.int i) (.int i)
  | str (x : Str) : Dq K F (.str x) (.str x)
  | lst {a : Addr} {xs : List V} {ds : List PyData} : F a = some (.lst xs) → DqAll K F xs ds → Dq K F (.ref a) (.list ds)
  | tup {a : Addr} {xs : List V} {ds : List PyData} : SqT K F a xs → DqAll K F xs ds → Dq K F (.ref a) (.tuple ds)
inductive DqAll (K : Frg) (F : Hp) : List V → List PyData → Prop
  | nil : DqAll K F [] []
  | cons {v : V} {vs : List V} {d : PyData} {ds : List PyData} : Dq K F v d → DqAll K F vs ds → DqAll K F (v :: vs) (d :: ds)
end
def WR (K : Frg) (F : Hp) (al : List Addr) (v : V) : W → Prop
  | .d x => Dq K F v x
  | .c n => ∃ a, al[n]? = some a ∧ v = .ref a
  | .r xs => ∃ a vs, v = .ref a ∧ SqL K F a vs ∧ DqAll K F vs xs
abbrev WRs (K : Frg) (F : Hp) (al : List Addr) : List V → List W → Prop := Paired (WR K F al)
abbrev KWR (K : Frg) (F : Hp) (al : List Addr) : List (Key × V) → List (Key × W) → Prop := Paired fun p q => p.1 = q.1 ∧ WR K F al p.2 q.2
/-- an exception among the values -/
def ErR (K : Frg) (F H : Hp) (a C : Addr) : Option (Str × PyData) → Prop
  | none => H a = some (ExO (.ref C) a)
  | some (f, y) => ∃ d v, F d = some (exd d [(f, v)]) ∧ H a = some (exo a C (some d)) ∧ Dq K F v y
def CellR (K : Frg) (F : Hp) (al : List Addr) (H : Hp) (a : Addr) : Cell → Prop
  | .lst ws => F a = none ∧ ∃ vs, H a = some (.lst vs) ∧ WRs K F al vs ws
  | .dct kvs => F a = none ∧ ∃ us, H a = some (.dK us) ∧ KWR K F al us kvs
  | .tup ws => F a = none ∧ ∃ vs, H a = some (.tup vs) ∧ WRs K F al vs ws
  | .lck kvs => ∃ od us, F a = some (.frz od (.dK us)) ∧ H a = some (.frz od (.dK us)) ∧ KWR K F al us kvs
  | .err x => F a = none ∧ ∃ C : Addr, PySem.W.nsIn K mainGlobals x.cls = some (some (.ref C)) ∧ ErR K F H a C x.fs
  | .dead => ∃ o, H a = some o
structure Rel (K : Frg) (F : Hp) (al : List Addr) (st : Store) (H : Hp) : Prop where
  sub : Same F H
  len : al.length = st.length
  nd : al.Nodup
  cell : ∀ (n : Nat) (a : Addr) (c : Cell), al[n]? = some a → st[n]? = some c → CellR K F al H a c
structure Ext (F : Hp) (al : List Addr) (F' : Hp) (al' : List Addr) : Prop where
  same : Same F F'
  pre : ∃ more, al' = al ++ more
theorem Ext.refl {F : Hp} {al : List Addr} : Ext F al F al := ⟨Same.refl _, [], by simp⟩
theorem Ext.trans {F F1 F2 : Hp} {al al1 al2 : List Addr} (a : Ext F al F1 al1) (b : Ext F1 al1 F2 al2) : Ext F al F2 al2 := by
  obtain ⟨m1, e1⟩ := a.pre
  obtain ⟨m2, e2⟩ := b.pre
  exact ⟨a.same.trans b.same, m1 ++ m2, by rw [e2, e1, List.append_assoc]⟩
theorem Ext.get {F F1 : Hp} {al al1 : List Addr} (e : Ext F al F1 al1) {n : Nat} {a : Addr} (h : al[n]? = some a) : al1[n]? = some a := by
  obtain ⟨m, rfl⟩ := e.pre
  rw [List.getElem?_append_left (List.getElem?_eq_some_iff.mp h).1]
  exact h
theorem Same.tupq {K : Frg} {H H' : Hp} {a : Addr} {xs : List V} (e : Same H H') (h : SqT K H a xs) : SqT K H' a xs := by
  rcases h with (h | ⟨o, h⟩) | h
  · exact .inl (.inl (e _ _ h))
  · exact .inl (.inr ⟨o, e _ _ h⟩)
  · exact .inr h
mutual
theorem Dq.mono {K : Frg} {H H' : Hp} (e : Same H H') : ∀ (d : PyData) (v : V), Dq K H v d → Dq K H' v d
  | .none, _, h => by cases h; exact .non
  | .bool b, _, h => by cases h; exact .bl b
  | .int i, _, h => by cases h; exact .int i
  | .str x, _, h => by cases h; exact .str x
  | .list ds, _, h => by
    cases h with
    | lst hs ha => exact .lst (e _ _ hs) (Dq.monoAll e ds _ ha)
  | .tuple ds, _, h => by
    cases h with
    | tup hs ha => exact .tup (Same.tupq e hs) (Dq.monoAll e ds _ ha)
  | .dict _, _, h => by cases h
theorem Dq.monoAll {K : Frg} {H H' : Hp} (e : Same H H') : ∀ (ds : List PyData) (vs : List V), DqAll K H vs ds → DqAll K H' vs ds
  | [], _, h => by cases h; exact .nil
  | d :: ds, _, h => by
    cases h with
    | cons h1 h2 => exact .cons (Dq.mono e d _ h1) (Dq.monoAll e ds _ h2)
end
mutual
theorem Dq.dp {K : Frg} {H : Hp} : ∀ (d : PyData) (v : V), Dq K H v d → Dp K H v d
  | .none, _, h => by cases h; exact .non
  | .bool b, _, h => by cases h; exact .bl b
  | .int i, _, h => by cases h; exact .int i
  | .str x, _, h => by cases h; exact .str x
  | .list ds, _, h => by
    cases h with
    | lst hs ha => exact .lst (SqL.of hs) (Dq.dpAll ds _ ha)
  | .tuple ds, _, h => by
    cases h with
    | tup hs ha => exact .tup hs (Dq.dpAll ds _ ha)
  | .dict _, _, h => by cases h
theorem Dq.dpAll {K : Frg} {H : Hp} : ∀ (ds : List PyData) (vs : List V), DqAll K H vs ds → DpAll K H vs ds
  | [], _, h => by cases h; exact .nil
  | d :: ds, _, h => by
    cases h with
    | cons h1 h2 => exact .cons (Dq.dp d _ h1) (Dq.dpAll ds _ h2)
end
theorem DqAll.length {K : Frg} {H : Hp} : ∀ {vs : List V} {ds : List PyData}, DqAll K H vs ds → vs.length = ds.length
  | _, _, .nil => rfl
  | _, _, .cons _ t => by simp [DqAll.length t]
theorem DqAll.app {K : Frg} {H : Hp} : ∀ {vs us : List V} {ds es : List PyData}, DqAll K H vs ds → DqAll K H us es → DqAll K H (vs ++ us) (ds ++ es)
  | _, _, _, _, .nil, s => s
  | _, _, _, _, .cons r t, s => .cons r (DqAll.app t s)
theorem DqAll.paired {K : Frg} {H : Hp} : ∀ {vs : List V} {ds : List PyData}, DqAll K H vs ds → Paired (Dq K H) vs ds
  | _, _, .nil => .nil
  | _, _, .cons r t => .cons r (DqAll.paired t)
theorem DqAll.of_paired {K : Frg} {H : Hp} : ∀ {vs : List V} {ds : List PyData}, Paired (Dq K H) vs ds → DqAll K H vs ds
  | _, _, .nil => .nil
  | _, _, .cons r t => .cons r (DqAll.of_paired t)
theorem WR.mono {K : Frg} {F F' : Hp} {al al' : List Addr} (e : Ext F al F' al') {v : V} {w : W} (h : WR K F al v w) : WR K F' al' v w := by
  cases w with
  | d x => exact Dq.mono e.same x v h
  | r xs =>
    obtain ⟨a, vs, h1, h2, h3⟩ := h
    exact ⟨a, vs, h1, Same.seq e.same h2, Dq.monoAll e.same xs _ h3⟩
  | c n =>
    obtain ⟨a, h1, h2⟩ := h
    exact ⟨a, e.get h1, h2⟩
theorem WRs.mono {K : Frg} {F F' : Hp} {al al' : List Addr} (e : Ext F al F' al') {vs : List V} {ws : List W} (h : WRs K F al vs ws) : WRs K F' al' vs ws :=
  Paired.mono (fun _ _ q => WR.mono e q) h
theorem KWR.mono {K : Frg} {F F' : Hp} {al al' : List Addr} (e : Ext F al F' al') {vs : List (Key × V)} {ws : List (Key × W)} (h : KWR K F al vs ws) : KWR K F' al' vs ws :=
  Paired.mono (fun _ _ q => ⟨q.1, WR.mono e q.2⟩) h
section
variable {K : Frg} {F F' : Hp} {al al' : List Addr} {st st' : Store} {H H' : Hp}
theorem Rel.there (R : Rel K F al st H) {n : Nat} {a : Addr} (h : al[n]? = some a) : ∃ c, st[n]? = some c ∧ CellR K F al H a c := by
  have hn : n < st.length := by rw [← R.len]; exact (List.getElem?_eq_some_iff.mp h).1
  exact ⟨st[n], List.getElem?_eq_some_iff.mpr ⟨hn, rfl⟩, R.cell n a _ h (List.getElem?_eq_some_iff.mpr ⟨hn, rfl⟩)⟩
theorem CellR.some {a : Addr} {c : Cell} (h : CellR K F al H a c) : ∃ o, H a = some o := by
  cases c with
  | lst ws => obtain ⟨_, vs, e, _⟩ := h; exact ⟨_, e⟩
  | dct kvs => obtain ⟨_, vs, e, _⟩ := h; exact ⟨_, e⟩
  | tup ws => obtain ⟨_, vs, e, _⟩ := h; exact ⟨_, e⟩
  | lck kvs => obtain ⟨_, _, _, e, _⟩ := h; exact ⟨_, e⟩
  | err x =>
    obtain ⟨_, C, _, r⟩ := h
    obtain ⟨c, fs⟩ := x
    cases fs with
    | none => exact ⟨_, r⟩
    | some p =>
      obtain ⟨d, v, _, q, _⟩ := r
      exact ⟨_, q⟩
  | dead => exact h
theorem Rel.notMem (R : Rel K F al st H) {p : Addr} (hp : H p = none) : p ∉ al := fun hm => by
  obtain ⟨n, hn, e⟩ := List.getElem_of_mem hm
  obtain ⟨c, _, hc⟩ := R.there (n := n) (a := p) (List.getElem?_eq_some_iff.mpr ⟨hn, e⟩)
  obtain ⟨o, ho⟩ := hc.some
  rw [hp] at ho
  cases ho
theorem Rel.freeF (R : Rel K F al st H) {p : Addr} (hp : H p = none) : F p = none := R.sub.free hp
theorem Rel.ne (R : Rel K F al st H) {p a : Addr} {n : Nat} (hp : H p = none) (ha : al[n]? = some a) : a ≠ p := fun e => by
  subst e
  exact R.notMem hp (List.mem_of_getElem? ha)
theorem Same.upd {p : Addr} {o : HO} (hp : H p = none) : Same H (upd H p o) := fun b u e => by
  rw [upd_ne (ne_of_none e hp)]
  exact e
/-- a cell's relation, elsewhere changed -/
theorem CellR.move {a : Addr} {c : Cell} (h : CellR K F al H a c) (e : Ext F al F' al') (hH : H' a = H a) (hF : F a = none → F' a = none) : CellR K F' al' H' a c := by
  cases c with
  | lst ws =>
    obtain ⟨f, vs, q, r⟩ := h
    exact ⟨hF f, vs, by rw [hH]; exact q, r.mono e⟩
  | dct kvs =>
    obtain ⟨f, vs, q, r⟩ := h
    exact ⟨hF f, vs, by rw [hH]; exact q, KWR.mono e r⟩
  | tup ws =>
    obtain ⟨f, vs, q, r⟩ := h
    exact ⟨hF f, vs, by rw [hH]; exact q, r.mono e⟩
  | lck kvs =>
    obtain ⟨od, us, f, q, r⟩ := h
    exact ⟨od, us, e.same _ _ f, by rw [hH]; exact q, KWR.mono e r⟩
  | err x =>
    obtain ⟨f, C, n, r⟩ := h
    refine ⟨hF f, C, n, ?_⟩
    obtain ⟨c, fs⟩ := x
    cases fs with
    | none =>
      have r : H a = _ := r
      exact hH.trans r
    | some p =>
      obtain ⟨d, v, q1, q2, q3⟩ := r
      exact ⟨d, v, e.same _ _ q1, hH.trans q2, Dq.mono e.same _ _ q3⟩
  | dead =>
    obtain ⟨o, q⟩ := h
    exact ⟨o, by rw [hH]; exact q⟩
/-- a new object, never to be changed -/
theorem Rel.newD (R : Rel K F al st H) {p : Addr} (hp : H p = none) (o : HO) : Ext F al (L2.upd F p o) al ∧ Rel K (L2.upd F p o) al st (L2.upd H p o) := by
  have x : Ext F al (L2.upd F p o) al := ⟨Same.upd (R.freeF hp), [], by simp⟩
  refine ⟨x, ⟨fun b u e => ?_, R.len, R.nd, fun n a c h1 h2 => ?_⟩⟩
  · by_cases hb : b = p
    · subst hb
      rw [upd_same] at e ⊢
      exact e
    · rw [upd_ne hb] at e ⊢
      exact R.sub _ _ e
  · have hne := R.ne hp h1
    exact (R.cell n a c h1 h2).move x (upd_ne hne) (fun q => by rw [upd_ne hne]; exact q)
/-- a new cell -/
theorem Rel.newC (R : Rel K F al st H) {p : Addr} (hp : H p = none) {o : HO} {c : Cell} (hc : CellR K F al (L2.upd H p o) p c) : Ext F al F (al ++ [p]) ∧ Rel K F (al ++ [p]) (st ++ [c]) (L2.upd H p o) := by
  have x : Ext F al F (al ++ [p]) := ⟨Same.refl _, [p], rfl⟩
  refine ⟨x, ⟨fun b u e => ?_, by simp [R.len], ?_, fun n a d h1 h2 => ?_⟩⟩
  · rw [upd_ne (fun q => by rw [q, R.freeF hp] at e; cases e)]
    exact R.sub _ _ e
  · rw [List.nodup_append]
    refine ⟨R.nd, by simp, fun a ha b hb => ?_⟩
    rw [List.mem_singleton] at hb
    subst hb
    exact fun q => R.notMem hp (q ▸ ha)
  · by_cases hn : n < al.length
    · rw [List.getElem?_append_left hn] at h1
      rw [List.getElem?_append_left (by rw [← R.len]; exact hn)] at h2
      have hne := R.ne hp h1
      exact (R.cell n a d h1 h2).move x (upd_ne hne) (fun q => q)
    · have e1 : n = al.length := by
        have := (List.getElem?_eq_some_iff.mp h1).1
        simp at this
        omega
      subst e1
      rw [List.getElem?_append_right (Nat.le_refl _)] at h1
      rw [R.len, List.getElem?_append_right (Nat.le_refl _)] at h2
      simp at h1 h2
      subst h1 h2
      exact hc.move x rfl (fun q => q)
/-- a cell is changed -/
theorem Rel.setC (R : Rel K F al st H) {n : Nat} {a : Addr} (ha : al[n]? = some a) (hF : F a = none) {o : HO} {c : Cell} (hc : CellR K F al (L2.upd H a o) a c) : Rel K F al (st.set n c) (L2.upd H a o) := by
  refine ⟨fun b u e => ?_, by simp [R.len], R.nd, fun m b d h1 h2 => ?_⟩
  · rw [upd_ne (fun q => by rw [q, hF] at e; cases e)]
    exact R.sub _ _ e
  · have hn : n < st.length := by rw [← R.len]; exact (List.getElem?_eq_some_iff.mp ha).1
    by_cases hm : m = n
    · subst hm
      rw [ha] at h1
      cases h1
      rw [List.getElem?_set_self hn] at h2
      cases h2
      exact hc
    · rw [List.getElem?_set_ne (Ne.symm hm)] at h2
      have hne : b ≠ a := fun q => hm ((List.getElem?_inj (by exact (List.getElem?_eq_some_iff.mp h1).1) R.nd).mp (by rw [h1, ha, q]))
      exact (R.cell m b d h1 h2).move Ext.refl (upd_ne hne) (fun q => q)
end
/-! ### outcomes -/
def ExnR (CA : Nat → Addr) (K : Frg) (F : Hp) (cls : Value) (d : Option Addr) (e : Exn) : Prop :=
  cls = .ref (CA e.cls) ∧ match e.fs with
    | none => d = none
    | some fs => ∃ dd us, d = some dd ∧ F dd = some (.xd us) ∧ Paired (fun (p : Str × V) (q : Str × PyData) => p.1 = q.1 ∧ Dq K F p.2 q.2) us fs
/-- what is asked of an outcome -/
def Post {α : Type} (K : Frg) (CA : Nat → Addr) (F : Hp) (al : List Addr) (r : Res α) (ok : Hp → List Addr → Store → Hp → α → Prop) (ex : Value → Option Addr → Hp → Prop) : Prop :=
  match r with
  | .ok x st' => ∀ F' al' H', Ext F al F' al' → Rel K F' al' st' H' → ok F' al' st' H' x
  | .exn e st' => ∀ F' al' H' cls d, Ext F al F' al' → Rel K F' al' st' H' → ExnR CA K F' cls d e → ex cls d H'
  | .bad => False
section
variable {α β : Type} {K : Frg} {CA : Nat → Addr} {F : Hp} {al : List Addr}
theorem Post.at {r : Res α} {ok : Hp → List Addr → Store → Hp → α → Prop} {ex : Value → Option Addr → Hp → Prop} (h : Post K CA F al r ok ex) {F' : Hp} {al' : List Addr} (e : Ext F al F' al') : Post K CA F' al' r ok ex := by
  cases r with
  | ok x st => exact fun F2 al2 H2 x2 R2 => h F2 al2 H2 (e.trans x2) R2
  | exn er st => exact fun F2 al2 H2 cls d x2 R2 q => h F2 al2 H2 cls d (e.trans x2) R2 q
  | bad => exact h
theorem Post.step {r : Res α} {f : α → Store → Res β} {ok : Hp → List Addr → Store → Hp → β → Prop} {ok1 : Hp → List Addr → Store → Hp → α → Prop} {ex : Value → Option Addr → Hp → Prop} (h : Post K CA F al (r.bind f) ok ex)
    (k : ∀ F1 al1 st1 H1 x, Ext F al F1 al1 → Rel K F1 al1 st1 H1 → Post K CA F1 al1 (f x st1) ok ex → ok1 F1 al1 st1 H1 x) : Post K CA F al r ok1 ex := by
  cases r with
  | ok x st =>
    intro F1 al1 H1 e R
    have h' : Post K CA F al (f x st) ok ex := h
    exact k F1 al1 st H1 x e R (h'.at e)
  | exn er st => exact h
  | bad => exact h
theorem Post.imp {r : Res α} {ok ok1 : Hp → List Addr → Store → Hp → α → Prop} {ex ex1 : Value → Option Addr → Hp → Prop} (h : Post K CA F al r ok ex)
    (k : ∀ F1 al1 st1 H1 x, Ext F al F1 al1 → Rel K F1 al1 st1 H1 → ok F1 al1 st1 H1 x → ok1 F1 al1 st1 H1 x) (kx : ∀ cls d H', ex cls d H' → ex1 cls d H') : Post K CA F al r ok1 ex1 := by
  cases r with
  | ok x st => exact fun F1 al1 H1 e R => k F1 al1 st H1 x e R (h F1 al1 H1 e R)
  | exn er st => exact fun F1 al1 H1 cls d e R q => kx _ _ _ (h F1 al1 H1 cls d e R q)
  | bad => exact h
end
/-! ### slots -/
def SlotR (K : Frg) (F : Hp) (al : List Addr) (o : Option V) (e : Option W) : Prop := ∀ w, e = some w → ∃ v, o = some v ∧ WR K F al v w
abbrev EnvR (K : Frg) (F : Hp) (al : List Addr) : L2.St → Env → Prop := Paired (SlotR K F al)
theorem EnvR.mono {K : Frg} {F F' : Hp} {al al' : List Addr} (e : Ext F al F' al') {σ : L2.St} {env : Env} (h : EnvR K F al σ env) : EnvR K F' al' σ env :=
  Paired.mono (fun _ _ q w hw => by obtain ⟨v, h1, h2⟩ := q w hw; exact ⟨v, h1, h2.mono e⟩) h
theorem Paired.getR {α β : Type} {R : α → β → Prop} : ∀ {xs : List α} {ys : List β} {i : Nat} {y : β}, Paired R xs ys → ys[i]? = some y → ∃ x, xs[i]? = some x ∧ R x y
  | _, _, _, _, .nil, e => by simp at e
  | _, _, 0, _, .cons r _, e => by simp at e; subst e; exact ⟨_, rfl, r⟩
  | _, _, i + 1, y, .cons _ t, e => by
    obtain ⟨u, h1, h2⟩ := Paired.getR (i := i) (y := y) t (by simpa using e)
    exact ⟨u, by simpa using h1, h2⟩
theorem Paired.setB {α β : Type} {R : α → β → Prop} {x : α} {y : β} (r : R x y) : ∀ {xs : List α} {ys : List β} (i : Nat), Paired R xs ys → Paired R (xs.set i x) (ys.set i y)
  | _, _, _, .nil => .nil
  | _, _, 0, .cons _ t => .cons r t
  | _, _, i + 1, .cons q t => .cons q (Paired.setB r i t)
theorem Paired.app {α β : Type} {R : α → β → Prop} : ∀ {xs xs' : List α} {ys ys' : List β}, Paired R xs ys → Paired R xs' ys' → Paired R (xs ++ xs') (ys ++ ys')
  | _, _, _, _, .nil, s => s
  | _, _, _, _, .cons r t, s => .cons r (Paired.app t s)
theorem EnvR.get {K : Frg} {F : Hp} {al : List Addr} {σ : L2.St} {env : Env} (h : EnvR K F al σ env) {i : Nat} {w : W} (e : env[i]? = some (some w)) : ∃ v, σ[i]? = some (some v) ∧ WR K F al v w := by
  obtain ⟨o, h1, h2⟩ := Paired.getR h e
  obtain ⟨v, rfl, h3⟩ := h2 w rfl
  exact ⟨v, h1, h3⟩
theorem EnvR.set {K : Frg} {F : Hp} {al : List Addr} {σ : L2.St} {env : Env} (h : EnvR K F al σ env) {v : V} {w : W} (r : WR K F al v w) (i : Nat) : EnvR K F al (σ.set i (some v)) (env.set i (some w)) :=
  Paired.setB (fun w' e => by cases e; exact ⟨v, rfl, r⟩) i h
/-! ### readings of expressions -/
/-- the reading that a denotation has: Wx is what is wanted of an exception -/
def rdE (K : Frg) (CA : Nat → Addr) (Wx : WX) (c : Ev) : TE := fun σ H Q => ∃ F al env st, Rel K F al st H ∧ EnvR K F al σ env ∧
  Post K CA F al (c env st) (fun F' al' _ H' w => ∀ v, WR K F' al' v w → Q v H') (fun cls d H' => Wx cls d σ H')
/-- the context: classes by number, the wish -/
structure Cxt where
  X : Cx
  CA : Nat → Addr
  Wx : WX
def SE (C : Cxt) (e : Expr) (c : Ev) : Prop := PE C.X e (rdE C.X.K C.CA C.Wx c)
theorem PE.imp {X : Cx} {e : Expr} {t t' : TE} (h : PE X e t) (k : ∀ σ H Q, t' σ H Q → t σ H Q) : PE X e t' :=
  ⟨fun pins s σ H Q I q => h.run pins s σ H Q I (k σ H Q q)⟩
theorem PT.imp {X : Cx} {e : Expr} {t t' : TT} (h : PT X e t) (k : ∀ σ H Q, t' σ H Q → t σ H Q) : PT X e t' :=
  ⟨fun pins s σ H Q I q => h.run pins s σ H Q I (k σ H Q q)⟩
theorem PW.imp {X : Cx} {e : Expr} {t t' : TT} (h : PW X e t) (k : ∀ σ H Q, t' σ H Q → t σ H Q) : PW X e t' :=
  ⟨fun wh pins s σ H Q I q => h.run wh pins s σ H Q I (k σ H Q q)⟩
theorem PA.imp {X : Cx} {es : List Expr} {t t' : TA} (h : PA X es t) (k : ∀ σ H Q, t' σ H Q → t σ H Q) : PA X es t' :=
  ⟨fun pos pins s σ H Q I q => h.run pos pins s σ H Q I (k σ H Q q)⟩
theorem PS.imp {X : Cx} {st : Stmt} {t t' : TS} (h : PS X st t) (k : ∀ D σ H, t' D σ H → t D σ H) : PS X st t' :=
  ⟨fun pins s σ H D I q => h.run pins s σ H D I (k D σ H q)⟩
theorem PSs.imp {X : Cx} {st : List Stmt} {t t' : TS} (h : PSs X st t) (k : ∀ D σ H, t' D σ H → t D σ H) : PSs X st t' :=
  ⟨fun pins s σ H D I q => h.run pins s σ H D I (k D σ H q)⟩
/-- a constant -/
def cst (x : PyData) : Ev := fun _ st => .ok (.d x) st
/-- a name -/
def vr (i : Nat) : Ev := fun env st => match env[i]? with
  | some (some w) => .ok w st
  | _ => .bad
section
variable {C : Cxt}
theorem rd_const {v : V} {x : PyData} (h : ∀ F, Dq C.X.K F v x) : ∀ σ H Q, rdE C.X.K C.CA C.Wx (cst x) σ H Q → tC v σ H Q := by
  rintro σ H Q ⟨F, al, env, st, R, E, h1⟩
  exact h1 F al H Ext.refl R v (h F)
theorem se_int {i : Int} {j pos} : SE C (.Constant (.int i) j pos) (cst (.int i)) := PE.imp pe_int (rd_const fun _ => .int i)
theorem se_bl {b : Bool} {j pos} : SE C (.Constant (.bool b) j pos) (cst (.bool b)) := PE.imp pe_bl (rd_const fun _ => .bl b)
theorem se_non {j pos} : SE C (.Constant .none j pos) (cst .none) := PE.imp pe_non (rd_const fun _ => .non)
theorem se_str {x : Str} {j pos} : SE C (.Constant (.str x) j pos) (cst (.str x)) := PE.imp pe_str (rd_const fun _ => .str x)
theorem rd_vr {i : Nat} : ∀ σ H Q, rdE C.X.K C.CA C.Wx (vr i) σ H Q → tVar i σ H Q := by
  rintro σ H Q ⟨F, al, env, st, R, E, h1⟩
  unfold vr at h1
  split at h1
  · rename_i w hw
    obtain ⟨v, e1, r⟩ := E.get hw
    exact ⟨v, e1, h1 F al H Ext.refl R v r⟩
  · exact h1.elim
theorem se_vr (i : Nat) {x : Str} {pos : Pos} (hN : C.X.N[i]? = some x := by rfl) (hv : Vis C.X.env.scope x := by first | exact Or.inl rfl | exact Or.inr (Or.inl rfl) | exact Or.inr (Or.inr rfl)) (hd : (x == ("__debug__" : Str)) = false := by decide)
    (hcd : (x == ("__classdict__" : Str)) = false := by decide) : SE C (.Name x pos) (vr i) := PE.imp (pe_var hN hv hd hcd) rd_vr
/-! ### operators by values -/
def bin (f : W → W → Store → Res W) (a b : Ev) : Ev := fun env st => (a env st).bind fun x st1 => (b env st1).bind fun y st2 => f x y st2
def By2 (C : Cxt) (f : W → W → Store → Res W) (r : R2) : Prop := ∀ (F : Hp) (al : List Addr) (st : Store) (H : Hp) (v1 v2 : V) (w1 w2 : W) (Q : VK), Rel C.X.K F al st H → WR C.X.K F al v1 w1 → WR C.X.K F al v2 w2 →
  Post C.X.K C.CA F al (f w1 w2 st) (fun F' al' _ H' w => ∀ v, WR C.X.K F' al' v w → Q v H') (fun _ _ _ => True) → r v1 v2 H Q
theorem rd_bin {f : W → W → Store → Res W} {ca cb : Ev} {r : R2} (hb : By2 C f r) : ∀ σ H Q, rdE C.X.K C.CA C.Wx (bin f ca cb) σ H Q → tOp r (rdE C.X.K C.CA C.Wx ca) (rdE C.X.K C.CA C.Wx cb) σ H Q := by
  rintro σ H Q ⟨F, al, env, st, R, E, h1⟩
  refine ⟨F, al, env, st, R, E, h1.step fun F1 al1 st1 H1 x e1 R1 h2 v rv => ?_⟩
  refine ⟨F1, al1, env, st1, R1, E.mono e1, h2.step fun F2 al2 st2 H2 y e2 R2 h3 u ru => ?_⟩
  exact hb F2 al2 st2 H2 v u x y Q R2 (rv.mono e2) ru (h3.imp (fun _ _ _ _ _ _ _ q => q) fun _ _ _ _ => trivial)
theorem se_bin {f : W → W → Store → Res W} {ca cb : Ev} {r : R2} {op : Operator} {a b : Expr} {pos : Pos} (ho : OpR C.X (binaryOp op) r) (hb : By2 C f r) (ha : SE C a ca) (hc : SE C b cb) : SE C (.BinOp a op b pos) (bin f ca cb) :=
  PE.imp (pe_op ho ha hc) (rd_bin hb)
theorem se_cmp {f : W → W → Store → Res W} {ca cb : Ev} {r : R2} {op : CmpOp} {a b : Expr} {pos : Pos} (ho : OpR C.X (compareOp op) r) (hb : By2 C f r) (ha : SE C a ca) (hc : SE C b cb) (hm : behindInMarks op b = false) : SE C (.Compare a [op] [b] pos) (bin f ca cb) :=
  PE.imp (pe_cmpR ho ha hc hm) (rd_bin hb)
end
end VS
set_option Elab.async false
set_option linter.all false
set_option maxRecDepth 100000
set_option maxHeartbeats 1000000
/-! VS2: operators by values. -/
namespace VS
open PySem PySem.Spec PyProof.Rows L2
/-! ### data without dicts -/
mutual
theorem Dq.plain {K : Frg} {H : Hp} : ∀ (d : PyData) (v : V), Dp K H v d → d.plain = true
  | .none, _, h => by simp [PyData.plain]
  | .bool b, _, h => by simp [PyData.plain]
  | .int i, _, h => by simp [PyData.plain]
  | .str x, _, h => by simp [PyData.plain]
  | .list ds, _, h => by
    cases h with
    | lst hs ha => simp [PyData.plain]; exact Dq.plainAll ds _ ha
  | .tuple ds, _, h => by
    cases h with
    | tup hs ha => simp [PyData.plain]; exact Dq.plainAll ds _ ha
  | .dict _, _, h => by cases h
theorem Dq.plainAll {K : Frg} {H : Hp} : ∀ (ds : List PyData) (vs : List V), DpAll K H vs ds → PyData.plainAll ds = true
  | [], _, h => by simp [PyData.plainAll]
  | d :: ds, _, h => by
    cases h with
    | cons h1 h2 => simp [PyData.plainAll]; exact ⟨Dq.plain d _ h1, Dq.plainAll ds _ h2⟩
end
/-! ### lists of values -/
def allD : List W → Option (List PyData)
  | [] => some []
  | .d x :: r => (allD r).map (x :: ·)
  | _ :: _ => none
/-- the items of a list -/
def itm (st : Store) : W → Option (List W)
  | .d (.list ds) => some (ds.map W.d)
  | .r ds => some (ds.map W.d)
  | .c n => match st[n]? with
    | some (.lst ws) => some ws
    | _ => none
  | _ => none
def itmT (st : Store) : W → Option (List W)
  | .d (.tuple ds) => some (ds.map W.d)
  | .c n => match st[n]? with
    | some (.tup ws) => some ws
    | _ => none
  | _ => none
/-- a new list that this program will change -/
def mkC (ws : List W) (st : Store) : Res W := .ok (.c st.length) (st ++ [.lst ws])
/-- a value read whole -/
def rdW (st : Store) : Nat → W → Option PyData
  | _, .d x => some x
  | _, .r xs => some (.list xs)
  | 0, .c _ => none
  | k + 1, .c n => match st[n]? with
    | some (.lst ws) => (ws.mapM (rdW st k)).map .list
    | some (.tup ws) => (ws.mapM (rdW st k)).map .tuple
    | _ => none
section
variable {K : Frg} {CA : Nat → Addr} {F : Hp} {al : List Addr} {st : Store} {H : Hp}
theorem allD_rel : ∀ {ws : List W} {vs : List V} {ds : List PyData}, WRs K F al vs ws → allD ws = some ds → DqAll K F vs ds
  | [], _, _, r, e => by
    cases r
    cases e
    exact .nil
  | .d x :: ws, _, _, r, e => by
    cases r with
    | cons r1 r2 =>
      cases h : allD ws with
      | none => simp [allD, h] at e
      | some ds =>
        simp [allD, h] at e
        subst e
        exact .cons r1 (allD_rel r2 h)
  | .c n :: ws, _, _, r, e => by simp [allD] at e
  | .r n :: ws, _, _, r, e => by simp [allD] at e
theorem WRs_of_DqAll : ∀ {ds : List PyData} {vs : List V}, DqAll K F vs ds → WRs K F al vs (ds.map W.d)
  | _, _, .nil => .nil
  | _, _, .cons r t => .cons r (WRs_of_DqAll t)
theorem itm_rel (R : Rel K F al st H) {v : V} {w : W} {ws : List W} (r : WR K F al v w) (h : itm st w = some ws) : ∃ a vs, v = .ref a ∧ SqL K H a vs ∧ WRs K F al vs ws := by
  unfold itm at h
  split at h
  · cases h
    cases r with
    | lst h1 h2 => exact ⟨_, _, rfl, SqL.of (R.sub _ _ h1), WRs_of_DqAll h2⟩
  · cases h
    obtain ⟨a, vs, h1, h2, h3⟩ := r
    exact ⟨a, vs, h1, Same.seq R.sub h2, WRs_of_DqAll h3⟩
  · split at h
    · rename_i n _ ws' e
      cases h
      obtain ⟨a, h1, h2⟩ := r
      obtain ⟨_, vs, h3, h4⟩ := R.cell _ _ _ h1 e
      exact ⟨a, vs, h2, SqL.of h3, h4⟩
    · cases h
  · cases h
theorem itmT_rel (R : Rel K F al st H) {v : V} {w : W} {ws : List W} (r : WR K F al v w) (h : itmT st w = some ws) : ∃ a vs, v = .ref a ∧ SqT K H a vs ∧ WRs K F al vs ws := by
  unfold itmT at h
  split at h
  · cases h
    cases r with
    | tup h1 h2 => exact ⟨_, _, rfl, Same.tupq R.sub h1, WRs_of_DqAll h2⟩
  · split at h
    · rename_i n _ ws' e
      cases h
      obtain ⟨a, h1, h2⟩ := r
      obtain ⟨_, vs, h3, h4⟩ := R.cell _ _ _ h1 e
      exact ⟨a, vs, h2, SqT.of h3, h4⟩
    · cases h
  · cases h
theorem mkC_post {ws : List W} {vs : List V} {Q : VK} {ex : Value → Option Addr → Hp → Prop} {p : Addr} (R : Rel K F al st H) (r : WRs K F al vs ws)
    (h : Post K CA F al (mkC ws st) (fun F' al' _ H' w => ∀ v, WR K F' al' v w → Q v H') ex) (hp : H p = none) : Q (.ref p) (L2.upd H p (.lst vs)) := by
  obtain ⟨x, R'⟩ := R.newC hp (o := .lst vs) (c := .lst ws) ⟨R.freeF hp, vs, upd_same, r⟩
  exact h _ _ _ x R' _ ⟨p, by rw [← R.len]; simp, rfl⟩
theorem mapM_rel {f : W → Option PyData} (hf : ∀ v w x, WR K F al v w → f w = some x → Dp K H v x) : ∀ {ws : List W} {vs : List V} {ds : List PyData}, WRs K F al vs ws → ws.mapM f = some ds → DpAll K H vs ds
  | [], _, _, r, e => by
    cases r
    simp at e
    subst e
    exact .nil
  | w :: ws, _, _, r, e => by
    cases r with
    | cons r1 r2 =>
      rw [List.mapM_cons] at e
      cases h1 : f w with
      | none => simp [h1] at e
      | some x =>
        cases h2 : ws.mapM f with
        | none => simp [h1, h2] at e
        | some xs =>
          simp [h1, h2] at e
          subst e
          exact .cons (hf _ _ _ r1 h1) (mapM_rel hf r2 h2)
theorem rdW_rel (R : Rel K F al st H) : ∀ (k : Nat) (v : V) (w : W) (x : PyData), WR K F al v w → rdW st k w = some x → Dp K H v x
  | k, v, .d y, x, r, e => by
    have e' : y = x := by cases k <;> simpa [rdW] using e
    subst e'
    exact Dq.dp _ _ (Dq.mono R.sub _ _ r)
  | k, v, .r ys, x, r, e => by
    have e' : PyData.list ys = x := by cases k <;> simpa [rdW] using e
    subst e'
    obtain ⟨a, vs, h1, h2, h3⟩ := r
    subst h1
    exact .lst (Same.seq R.sub h2) (Dq.dpAll _ _ (Dq.monoAll R.sub _ _ h3))
  | 0, v, .c n, x, r, e => by simp [rdW] at e
  | k + 1, v, .c n, x, r, e => by
    unfold rdW at e
    split at e
    · rename_i ws hn
      obtain ⟨a, h1, h2⟩ := r
      subst h2
      obtain ⟨_, vs, h3, h4⟩ := R.cell _ _ _ h1 hn
      cases hm : ws.mapM (rdW st k) with
      | none => simp [hm] at e
      | some ds =>
        simp [hm] at e
        subst e
        exact .lst (SqL.of h3) (mapM_rel (fun v w x => rdW_rel R k v w x) h4 hm)
    · rename_i ws hn
      obtain ⟨a, h1, h2⟩ := r
      subst h2
      obtain ⟨_, vs, h3, h4⟩ := R.cell _ _ _ h1 hn
      cases hm : ws.mapM (rdW st k) with
      | none => simp [hm] at e
      | some ds =>
        simp [hm] at e
        subst e
        exact .tup (SqT.of h3) (mapM_rel (fun v w x => rdW_rel R k v w x) h4 hm)
    · cases e
end
/-! ### whole numbers -/
def fII (g : Int → Int → PyData) (ok : Int → Int → Bool) : W → W → Store → Res W
  | .d (.int i), .d (.int j), st => if ok i j = true then .ok (.d (g i j)) st else .bad
  | _, _, _ => .bad
section
variable {C : Cxt}
theorem by_II {g : Int → Int → PyData} {ok : Int → Int → Bool} {r : R2} {gv : Int → Int → V} (hg : ∀ i j F, Dq C.X.K F (gv i j) (g i j)) (hr : ∀ i j (H : Hp) (Q : VK), ok i j = true → Q (gv i j) H → r (.int i) (.int j) H Q) : By2 C (fII g ok) r := by
  intro F al st H v1 v2 w1 w2 Q R r1 r2 h
  unfold fII at h
  split at h
  · cases r1
    cases r2
    split at h
    · rename_i hk
      exact hr _ _ _ _ hk (h F al H Ext.refl R _ (hg _ _ _))
    · exact h.elim
  · exact h.elim
def yes2 : Int → Int → Bool := fun _ _ => true
def okMul : Int → Int → Bool := fun i j => decide (-(2 ^ 64) < i ∧ i < 2 ^ 64) || decide (-(2 ^ 64) < j ∧ j < 2 ^ 64) || decide (i.natAbs.log2 + j.natAbs.log2 < 1000000)
def okDiv : Int → Int → Bool := fun _ j => decide (0 < j ∧ j.natAbs.log2 < 9000)
def okMod : Int → Int → Bool := fun _ j => decide (0 < j)
def okPow : Int → Int → Bool := fun i j => decide (0 ≤ j ∧ (Builtin.Int.intBits i : Int) * j ≤ 2 ^ 27)
def fSub := fII (fun i j => .int (i - j)) yes2
def fMul := fII (fun i j => .int (i * j)) okMul
def fDiv := fII (fun i j => .int (i / j)) okDiv
def fMod := fII (fun i j => .int (i % j)) okMod
def fPow := fII (fun i j => .int (i ^ j.toNat)) okPow
theorem by_sub : By2 C fSub (rI0 fun i j => .int (i - j)) := by_II (fun _ _ _ => .int _) fun i j H Q _ q => ⟨i, j, rfl, rfl, q⟩
theorem mulR : OpR C.X (binaryOp .Mult) (rI (fun i j => okMul i j = true) fun i j => .int (i * j)) := opI fun i j _ _ _ _ _ hc q => by
  unfold okMul at hc
  rw [Bool.or_eq_true, Bool.or_eq_true, decide_eq_true_eq, decide_eq_true_eq, decide_eq_true_eq] at hc
  rcases hc with (hc | hc) | hc
  · exact mul_int q (CMul.ok (.inl hc))
  · exact mul_int q (CMul.ok (.inr hc))
  · exact mul_int q (CMulW.ok hc)
theorem by_mul : By2 C fMul (rI (fun i j => okMul i j = true) fun i j => .int (i * j)) := by_II (fun _ _ _ => .int _) fun i j H Q hk q => ⟨i, j, rfl, rfl, hk, q⟩
theorem by_div : By2 C fDiv (rI CDivW fun i j => .int (i / j)) := by_II (fun _ _ _ => .int _) fun i j H Q hk q => ⟨i, j, rfl, rfl, of_decide_eq_true (p := 0 < j ∧ j.natAbs.log2 < 9000) hk, q⟩
theorem by_mod : By2 C fMod (rI (fun _ j => 0 < j) fun i j => .int (i % j)) := by_II (fun _ _ _ => .int _) fun i j H Q hk q => ⟨i, j, rfl, rfl, of_decide_eq_true hk, q⟩
theorem powR : OpR C.X (binaryOp .Pow) (rI (fun i j => 0 ≤ j ∧ (Builtin.Int.intBits i : Int) * j ≤ 2 ^ 27) fun i j => .int (i ^ j.toNat)) := opI fun _ _ _ _ _ _ _ hc q => pow_int hc.1 hc.2 q
theorem by_pow : By2 C fPow (rI (fun i j => 0 ≤ j ∧ (Builtin.Int.intBits i : Int) * j ≤ 2 ^ 27) fun i j => .int (i ^ j.toNat)) := by_II (fun _ _ _ => .int _) fun i j H Q hk q => ⟨i, j, rfl, rfl, of_decide_eq_true hk, q⟩
/-! ### + -/
def rCatS (K : Frg) : R2 := fun x y H Q => ∃ l b xs zs, x = .ref l ∧ y = .ref b ∧ SqL K H l xs ∧ SqL K H b zs ∧ xs.length + zs.length ≤ sizeLine ∧ ∀ p, H p = none → Q (.ref p) (L2.upd H p (.lst (xs ++ zs)))
theorem op_catS {X : Cx} : OpR X (binaryOp .Add) (rCatS X.K) := by
  intro pins s σ H x y v u Q I rx ry h
  obtain ⟨l, b, xs, zs, rfl, rfl, hH, hB, hz, q⟩ := h
  cases rx
  cases ry
  obtain ⟨its, r, ⟨⟨cls, dd, data, sl⟩, n, ho, hc, _, hd⟩, _⟩ := I.list hH
  obtain ⟨its2, r2, ⟨⟨cls2, dd2, data2, sl2⟩, n2, ho2, hc2, _, hd2⟩, _⟩ := I.list hB
  simp only at hc hd hc2 hd2
  subst hc hd hc2 hd2
  have e : its.toArray ++ its2.toArray = (its ++ its2).toArray := by simp
  have hsz : its.toArray.size + its2.toArray.size ≤ sizeLine := by rw [List.size_toArray, List.size_toArray, ← r.length, ← r2.length]; exact hz
  refine concat_meets ⟨_, ho, rfl⟩ ⟨_, ho2, rfl⟩ noFill_list_add seq_list_add PySem.F.slot_list_add PySem.F.entry_list_add (PySem.F.args_list_add_2 _ _) (list_addW l b its.toArray its2.toArray n n2 dd dd2 sl sl2 hsz) ⟨ho, ho2, ?_⟩
  rw [e]
  exact ⟨.ref _, _, L2.Inv.lnew (t' := s.toks) I (r.append r2) (by rw [List.length_append]; exact hz), rfl, q _ (L2.Inv.fresh I)⟩
def rAddS : R2 := fun x y H Q => ∃ i j, x = .str i ∧ y = .str j ∧ i.length + j.length ≤ sizeLine ∧ Q (.str (i ++ j)) H
def rAddA (K : Frg) : R2 := fun x y H Q => ((rI0 fun i j => .int (i + j)) x y H Q ∨ rAddS x y H Q) ∨ rCatS K x y H Q
theorem addR : OpR C.X (binaryOp .Add) (rAddA C.X.K) := OpR.or (OpR.or op_add op_add_str) op_catS
theorem WRs.length {K : Frg} {F : Hp} {al : List Addr} {vs : List V} {ws : List W} (r : WRs K F al vs ws) : vs.length = ws.length := Paired.length r
theorem by_cat {K : Frg} {CA : Nat → Addr} {F : Hp} {al : List Addr} {st : Store} {H : Hp} {v1 v2 : V} {w1 w2 : W} {xs ys : List W} {Q : VK} {mk : List W → Store → Res W} (R : Rel K F al st H) (r1 : WR K F al v1 w1) (r2 : WR K F al v2 w2) (e1 : itm st w1 = some xs) (e2 : itm st w2 = some ys)
    (hz : xs.length + ys.length ≤ sizeLine) (h : ∀ vs p, WRs K F al vs (xs ++ ys) → H p = none → Q (.ref p) (L2.upd H p (.lst vs))) : rCatS K v1 v2 H Q := by
  obtain ⟨a, vs, rfl, s1, q1⟩ := itm_rel R r1 e1
  obtain ⟨b, us, rfl, s2, q2⟩ := itm_rel R r2 e2
  exact ⟨a, b, vs, us, rfl, rfl, s1, s2, by rw [q1.length, q2.length]; exact hz, fun p hp => h _ p (Paired.app q1 q2) hp⟩
/-! ### list * int -/
theorem WRs.rep {K : Frg} {F : Hp} {al : List Addr} {vs : List V} {ws : List W} (r : WRs K F al vs ws) : ∀ k : Nat, WRs K F al (List.replicate k vs).flatten (List.replicate k ws).flatten
  | 0 => .nil
  | k + 1 => by
    rw [List.replicate_succ, List.replicate_succ, List.flatten_cons, List.flatten_cons]
    exact Paired.app r (WRs.rep r k)
/-! ### comparisons -/
/-- what may be asked of data, kept small -/
def okEq (x y : PyData) : Bool := decide (min x.depth y.depth ≤ 60)
def fEq (neg : Bool) : W → W → Store → Res W := fun w1 w2 st => match rdW st 6 w1, rdW st 6 w2 with
  | some x, some y => if okEq x y = true then .ok (.d (.bool (neg != PyData.eqv x y))) st else .bad
  | _, _ => .bad
def rEqP (K : Frg) (neg : Bool) : R2 := fun x y H Q => ∃ d e, Dp K H x d ∧ Dp K H y e ∧ okEq d e = true ∧ Q (.bl (neg != PyData.eqv d e)) H
theorem op_eqP (hu : C.X.A.units + 64 < cLine) : OpR C.X (compareOp .Eq) (rEqP C.X.K false) := by
  intro pins s σ H x y v u Q I rx ry h
  obtain ⟨d, e, hd, he, ok, q⟩ := h
  obtain ⟨as, r1⟩ := Dp.reads I d x v hd rx
  obtain ⟨bs, r2⟩ := Dp.reads I e y u he ry
  have hk : min d.depth e.depth ≤ 60 := of_decide_eq_true ok
  exact SeqAt.eq_plain r1 r2 (Dq.plain _ _ hd) (Dq.plain _ _ he) (by omega) ⟨.bl _, H, I, by cases PyData.eqv d e <;> rfl, q⟩
theorem op_neP (hu : C.X.A.units + 64 < cLine) : OpR C.X (compareOp .NotEq) (rEqP C.X.K true) := by
  intro pins s σ H x y v u Q I rx ry h
  obtain ⟨d, e, hd, he, ok, q⟩ := h
  obtain ⟨as, r1⟩ := Dp.reads I d x v hd rx
  obtain ⟨bs, r2⟩ := Dp.reads I e y u he ry
  have hk : min d.depth e.depth ≤ 60 := of_decide_eq_true ok
  exact SeqAt.ne_plain r1 r2 (Dq.plain _ _ hd) (Dq.plain _ _ he) (by omega) ⟨.bl _, H, I, by cases PyData.eqv d e <;> rfl, q⟩
theorem by_eq (neg : Bool) : By2 C (fEq neg) (rEqP C.X.K neg) := by
  intro F al st H v1 v2 w1 w2 Q R r1 r2 h
  unfold fEq at h
  split at h
  · rename_i x y e1 e2
    split at h
    · rename_i hk
      exact ⟨x, y, rdW_rel R _ _ _ _ r1 e1, rdW_rel R _ _ _ _ r2 e2, hk, h F al H Ext.refl R _ (.bl _)⟩
    · exact h.elim
  · exact h.elim
/-- <, >, <=, >= of data that are alike -/
def notNone : PyData → Bool
  | .none => false
  | _ => true
def okLt (x y : PyData) : Bool := PySem.W.alike x y && notNone x && decide (min x.depth y.depth ≤ 60)
theorem okLt_of {x y : PyData} (h : okLt x y = true) : PySem.W.alike x y = true ∧ x ≠ .none ∧ min x.depth y.depth ≤ 60 := by
  unfold okLt at h
  rw [Bool.and_eq_true, Bool.and_eq_true, decide_eq_true_eq] at h
  refine ⟨h.1.1, ?_, h.2⟩
  rintro rfl
  exact absurd h.1.2 (by simp [notNone])
def fOrd (g : PyData → PyData → Bool) : W → W → Store → Res W := fun w1 w2 st => match rdW st 6 w1, rdW st 6 w2 with
  | some x, some y => if okLt x y = true then .ok (.d (.bool (g x y))) st else .bad
  | _, _ => .bad
def fLt := fOrd fun x y => PySem.W.dataLt x y
def fGt := fOrd fun x y => PySem.W.dataLt y x
def rOrd (K : Frg) (g : PyData → PyData → Bool) : R2 := fun x y H Q => ∃ d e, Dp K H x d ∧ Dp K H y e ∧ okLt d e = true ∧ Q (.bl (g d e)) H
theorem by_ord (g : PyData → PyData → Bool) : By2 C (fOrd g) (rOrd C.X.K g) := by
  intro F al st H v1 v2 w1 w2 Q R r1 r2 h
  unfold fOrd at h
  split at h
  · rename_i x y e1 e2
    split at h
    · rename_i hk
      exact ⟨x, y, rdW_rel R _ _ _ _ r1 e1, rdW_rel R _ _ _ _ r2 e2, hk, h F al H Ext.refl R _ (.bl _)⟩
    · exact h.elim
  · exact h.elim
theorem op_ord {op : CmpOp} {g : PyData → PyData → Bool} (hu : C.X.A.units + 64 < cLine)
    (rule : ∀ {s : Shared} {a b : Value} {da db : PyData} {as bs : List Addr} {Q : Value → Shared → Prop}, Reads s.heap a da as → Reads s.heap b db bs → PySem.W.alike da db = true → da ≠ .none → C.X.A.units + min da.depth db.depth < cLine → Q (.bool (g da db)) s →
      wpAny (model C.X.prog C.X.w) C.X.A (compareOp op a b) Q C.X.xe s) : OpR C.X (compareOp op) (rOrd C.X.K g) := by
  intro pins s σ H x y v u Q I rx ry h
  obtain ⟨d, e, hd, he, ok, q⟩ := h
  obtain ⟨as, r1⟩ := Dp.reads I d x v hd rx
  obtain ⟨bs, r2⟩ := Dp.reads I e y u he ry
  obtain ⟨k1, k2, k3⟩ := okLt_of ok
  exact rule r1 r2 k1 k2 (by omega) ⟨.bl _, H, I, rfl, q⟩
theorem op_ltP (hu : C.X.A.units + 64 < cLine) : OpR C.X (compareOp .Lt) (rOrd C.X.K fun x y => PySem.W.dataLt x y) := op_ord hu fun a b c d e f => PySem.W.lt_data a b c d e f
theorem op_gtP (hu : C.X.A.units + 64 < cLine) : OpR C.X (compareOp .Gt) (rOrd C.X.K fun x y => PySem.W.dataLt y x) := op_ord hu fun a b c d e f => PySem.W.gt_data a b c d e f
/-! ### is None -/
/-! ### in -/
def keyOf : W → Option Key
  | .d (.int i) => some (.inl i)
  | .d (.str x) => some (.inr x)
  | _ => none
def kget (kvs : List (Key × W)) (k : Key) : Option W := (kvs.find? fun kv => decide (kv.1 = k)).map (·.2)
theorem keyOf_rel {K : Frg} {F : Hp} {al : List Addr} {v : V} {w : W} {k : Key} (r : WR K F al v w) (h : keyOf w = some k) : v = kV k := by
  unfold keyOf at h
  split at h
  · cases h; cases r; rfl
  · cases h; cases r; rfl
  · cases h
theorem kget_rel {K : Frg} {F : Hp} {al : List Addr} (k : Key) : ∀ {us : List (Key × V)} {kvs : List (Key × W)}, KWR K F al us kvs → (kget kvs k = none ∧ valV us k = none) ∨ ∃ w v, kget kvs k = some w ∧ valV us k = some v ∧ WR K F al v w
  | _, _, .nil => .inl ⟨rfl, rfl⟩
  | (k1, v1) :: us, (k2, w2) :: kvs, .cons ⟨e, r⟩ t => by
    have e' : k1 = k2 := e
    subst e'
    by_cases h : k1 = k
    · refine .inr ⟨w2, v1, by simp [kget, List.find?_cons, h], valV_pos h, r⟩
    · have h1 : kget ((k1, w2) :: kvs) k = kget kvs k := by simp [kget, List.find?_cons, h]
      have h2 : valV ((k1, v1) :: us) k = valV us k := valV_neg h
      rw [h1, h2]
      exact kget_rel k t
theorem PE.or {X : Cx} {e : Expr} {t t' : TE} (h : PE X e t) (h' : PE X e t') : PE X e (fun σ H Q => t σ H Q ∨ t' σ H Q) :=
  ⟨fun pins s σ H Q I q => q.elim (h.run pins s σ H Q I) (h'.run pins s σ H Q I)⟩
theorem PT.or {X : Cx} {e : Expr} {t t' : TT} (h : PT X e t) (h' : PT X e t') : PT X e (fun σ H Q => t σ H Q ∨ t' σ H Q) :=
  ⟨fun pins s σ H Q I q => q.elim (h.run pins s σ H Q I) (h'.run pins s σ H Q I)⟩
theorem dct_get {K : Frg} {F : Hp} {al : List Addr} {st : Store} {H : Hp} (R : Rel K F al st H) {n : Nat} {v : V} {kvs : List (Key × W)} (r : WR K F al v (.c n)) (hn : st[n]? = some (.dct kvs)) : ∃ a us, v = .ref a ∧ al[n]? = some a ∧ F a = none ∧ H a = some (.dK us) ∧ KWR K F al us kvs := by
  obtain ⟨a, h1, h2⟩ := r
  obtain ⟨h3, us, h4, h5⟩ := R.cell _ _ _ h1 hn
  exact ⟨a, us, h2, h1, h3, h4, h5⟩
end
end VS
set_option Elab.async false
set_option linter.all false
set_option maxRecDepth 100000
set_option maxHeartbeats 1000000
/-! VS3: tests, displays, subscripts, slices, calls of built-ins, methods. -/
namespace VS
open PySem PySem.Spec PyProof.Rows L2
/-! ### outcomes, with the equation -/
theorem Post.stepE {α β : Type} {K : Frg} {CA : Nat → Addr} {F : Hp} {al : List Addr} {r : Res α} {f : α → Store → Res β} {ok : Hp → List Addr → Store → Hp → β → Prop} {ok1 : Hp → List Addr → Store → Hp → α → Prop} {ex : Value → Option Addr → Hp → Prop} (h : Post K CA F al (r.bind f) ok ex)
    (k : ∀ F1 al1 st1 H1 x, r = .ok x st1 → Ext F al F1 al1 → Rel K F1 al1 st1 H1 → Post K CA F1 al1 (f x st1) ok ex → ok1 F1 al1 st1 H1 x) : Post K CA F al r ok1 ex := by
  cases r with
  | ok x st =>
    intro F1 al1 H1 e R
    have h' : Post K CA F al (f x st) ok ex := h
    exact k F1 al1 st H1 x rfl e R (h'.at e)
  | exn er st => exact h
  | bad => exact h
/-! ### tests -/
abbrev Tst := Env → Store → Res Bool
def rdT (K : Frg) (CA : Nat → Addr) (Wx : WX) (c : Tst) : TT := fun σ H Q => ∃ F al env st, Rel K F al st H ∧ EnvR K F al σ env ∧
  Post K CA F al (c env st) (fun _ _ _ H' b => Q b H') (fun cls d H' => Wx cls d σ H')
def ST (C : Cxt) (e : Expr) (c : Tst) : Prop := PT C.X e (rdT C.X.K C.CA C.Wx c)
def SW (C : Cxt) (e : Expr) (c : Tst) : Prop := PW C.X e (rdT C.X.K C.CA C.Wx c)
def truW (st : Store) : W → Option Bool
  | .d .none => some false
  | .d (.bool b) => some b
  | .d (.int i) => some (i != 0)
  | .d (.str x) => if x.length ≤ sizeLine then some ((x.length : Int) != 0) else none
  | .d (.list xs) => some (!xs.isEmpty)
  | .d (.tuple xs) => some (!xs.isEmpty)
  | .r xs => some (!xs.isEmpty)
  | .c n => match st[n]? with
    | some (.lst ws) => some (!ws.isEmpty)
    | some (.dct ws) => some (!ws.isEmpty)
    | _ => none
  | _ => none
def tru (a : Ev) : Tst := fun env st => (a env st).bind fun w st1 => match truW st1 w with
  | some b => .ok b st1
  | none => .bad
/-- a test of a truth value -/
def boo (a : Ev) : Tst := fun env st => (a env st).bind fun w st1 => match w with
  | .d (.bool b) => .ok b st1
  | _ => .bad
def tOrD (a b : Tst) : Tst := fun env st => (a env st).bind fun x st1 => if x = true then .ok true st1 else b env st1
def tNotD (a : Tst) : Tst := fun env st => (a env st).bind fun x st1 => .ok (!x) st1
section
variable {C : Cxt}
theorem isEmpty_paired {α β : Type} {R : α → β → Prop} {xs : List α} {ys : List β} (r : Paired R xs ys) : xs.isEmpty = ys.isEmpty := by cases r <;> rfl
theorem truW_rel {K : Frg} {F : Hp} {al : List Addr} {st : Store} {H : Hp} (R : Rel K F al st H) {v : V} {w : W} {b : Bool} (r : WR K F al v w) (h : truW st w = some b) : TruV K v H b := by
  unfold truW at h
  split at h
  · cases h; cases r; exact rfl
  · cases h; cases r; exact rfl
  · cases h; cases r; exact rfl
  · cases r
    split at h
    · rename_i hk
      cases h
      exact ⟨hk, rfl⟩
    · cases h
  · cases h
    cases r with
    | lst h1 h2 => exact .inl ⟨_, SqL.of (R.sub _ _ h1), by rw [← isEmpty_paired (DqAll.paired h2)]⟩
  · cases h
    cases r with
    | tup h1 h2 => exact .inr (.inl ⟨_, Same.tupq R.sub h1, by rw [← isEmpty_paired (DqAll.paired h2)]⟩)
  · cases h
    obtain ⟨a, vs, rfl, h2, h3⟩ := r
    exact .inl ⟨_, Same.seq R.sub h2, by rw [← isEmpty_paired (DqAll.paired h3)]⟩
  · obtain ⟨a, h1, rfl⟩ := r
    split at h
    · rename_i hn
      cases h
      obtain ⟨_, vs, h3, h4⟩ := R.cell _ _ _ h1 hn
      exact .inl ⟨_, SqL.of h3, by rw [isEmpty_paired h4]⟩
    · rename_i hn
      cases h
      obtain ⟨_, vs, h3, h4⟩ := R.cell _ _ _ h1 hn
      exact .inr (.inr ⟨_, h3, by rw [isEmpty_paired h4]⟩)
    · cases h
  · cases h
theorem st_tru {a : Expr} {ca : Ev} (ha : SE C a ca) (he : ∀ whole, isTrue a C.X.env whole = (do let v ← whole; standAt a.pos; holding [v] (truthy v)) := by intro _; rfl) : ST C a (tru ca) :=
  PT.imp (pt_truth ha he) fun σ H Q => by
    rintro ⟨F, al, env, st, R, E, h1⟩
    refine ⟨F, al, env, st, R, E, h1.step fun F1 al1 st1 H1 x e1 R1 h2 v rv => ?_⟩
    split at h2
    · rename_i b hb
      exact ⟨b, truW_rel R1 rv hb, h2 _ _ _ Ext.refl R1⟩
    · exact h2.elim
theorem st_cmp {f : W → W → Store → Res W} {ca cb : Ev} {r : R2} {op : CmpOp} {a b : Expr} {pos : Pos} (ho : OpR C.X (compareOp op) r) (hb : By2 C f r) (ha : SE C a ca) (hc : SE C b cb) (hm : behindInMarks op b = false) : ST C (.Compare a [op] [b] pos) (boo (bin f ca cb)) :=
  PT.imp (pt_cmpR ho ha hc hm) fun σ H Q => by
    rintro ⟨F, al, env, st, R, E, h1⟩
    refine rd_bin hb σ H _ ⟨F, al, env, st, R, E, h1.step fun F1 al1 st1 H1 x e1 R1 h2 v rv => ?_⟩
    split at h2
    · cases rv
      exact ⟨_, rfl, h2 _ _ _ Ext.refl R1⟩
    · exact h2.elim
theorem SW.pt {e : Expr} {c : Tst} (h : SW C e c) : ST C e c := PW.pt h
theorem sw_or1 {a : Expr} {c : Tst} {pos : Pos} (h : ST C a c) : SW C (.BoolOp .Or [a] pos) c := pw_or1 h
theorem sw_or {a b : Expr} {rest : List Expr} {c d : Tst} {pos : Pos} (ha : ST C a c) (hb : SW C (.BoolOp .Or (b :: rest) pos) d) : SW C (.BoolOp .Or (a :: b :: rest) pos) (tOrD c d) :=
  PW.imp (pw_or ha hb) fun σ H Q => by
    rintro ⟨F, al, env, st, R, E, h1⟩
    refine ⟨F, al, env, st, R, E, h1.step fun F1 al1 st1 H1 x e1 R1 h2 => ?_⟩
    cases x with
    | true => exact iteT (h2 _ _ _ Ext.refl R1)
    | false => exact iteF ⟨F1, al1, env, st1, R1, E.mono e1, h2⟩
theorem st_not {a : Expr} {c : Tst} {pos : Pos} (ha : ST C a c) : ST C (.UnaryOp .Not a pos) (tNotD c) :=
  PT.imp (pt_not ha) fun σ H Q => by
    rintro ⟨F, al, env, st, R, E, h1⟩
    exact ⟨F, al, env, st, R, E, h1.step fun F1 al1 st1 H1 x e1 R1 h2 => h2 _ _ _ Ext.refl R1⟩
/-! ### chains of two comparisons -/
/-! ### and, or, not as values -/
def vIf (t : Tst) (a b : Ev) : Ev := fun env st => (t env st).bind fun x st1 => if x = true then a env st1 else b env st1
theorem se_if {t a b : Expr} {ct : Tst} {ca cb : Ev} {pos : Pos} (ht : ST C t ct) (ha : SE C a ca) (hb : SE C b cb) : SE C (.IfExp t a b pos) (vIf ct ca cb) :=
  PE.imp (pe_ifExp ht ha hb) fun σ H Q => by
    rintro ⟨F, al, env, st, R, E, h1⟩
    refine ⟨F, al, env, st, R, E, h1.step fun F1 al1 st1 H1 x e1 R1 h2 => ?_⟩
    cases x with
    | true => exact iteT ⟨F1, al1, env, st1, R1, E.mono e1, h2⟩
    | false => exact iteF ⟨F1, al1, env, st1, R1, E.mono e1, h2⟩
/-! ### unary minus -/
end
/-! ### arguments -/
abbrev Av := Env → Store → Res (List W)
def rdA (K : Frg) (CA : Nat → Addr) (Wx : WX) (c : Av) : TA := fun σ H Q => ∃ F al env st, Rel K F al st H ∧ EnvR K F al σ env ∧
  Post K CA F al (c env st) (fun F' al' _ H' ws => ∀ vs, WRs K F' al' vs ws → Q vs H') (fun cls d H' => Wx cls d σ H')
structure SA (C : Cxt) (es : List Expr) (c : Av) : Prop where
  pa : PA C.X es (rdA C.X.K C.CA C.Wx c)
  len : ∀ env st ws st', c env st = .ok ws st' → ws.length = es.length
def aNil : Av := fun _ st => .ok [] st
def aCons (a : Ev) (r : Av) : Av := fun env st => (a env st).bind fun x st1 => (r env st1).bind fun xs st2 => .ok (x :: xs) st2
section
variable {C : Cxt}
theorem sa_nil : SA C [] aNil := ⟨PA.imp pa_nil fun σ H Q => by
  rintro ⟨F, al, env, st, R, E, h1⟩
  exact h1 _ _ _ Ext.refl R _ .nil, fun env st ws st' e => by cases e; rfl⟩
theorem sa_cons {e : Expr} {es : List Expr} {ce : Ev} {cs : Av} (ha : SE C e ce) (hr : SA C es cs) (hs : starEach (e :: es) C.X.env = (false, eval e C.X.env) :: starEach es C.X.env := by rfl) : SA C (e :: es) (aCons ce cs) := by
  refine ⟨PA.imp (pa_cons ha hr.pa hs) fun σ H Q => ?_, fun env st ws st' e => ?_⟩
  · rintro ⟨F, al, env, st, R, E, h1⟩
    refine ⟨F, al, env, st, R, E, h1.step fun F1 al1 st1 H1 x e1 R1 h2 v rv => ?_⟩
    refine ⟨F1, al1, env, st1, R1, E.mono e1, h2.step fun F2 al2 st2 H2 y e2 R2 h3 u ru => ?_⟩
    exact h3 _ _ _ Ext.refl R2 _ (.cons (rv.mono e2) ru)
  · unfold aCons at e
    cases h : ce env st with
    | ok x st1 =>
      cases h2 : cs env st1 with
      | ok xs st2 =>
        simp [h, h2, Res.bind] at e
        rw [← e.1, List.length_cons, List.length_cons, hr.len _ _ _ _ h2]
      | exn _ _ => simp [h, h2, Res.bind] at e
      | bad => simp [h, h2, Res.bind] at e
    | exn _ _ => simp [h, Res.bind] at e
    | bad => simp [h, Res.bind] at e
/-! ### displays -/
def lstC (a : Av) : Ev := fun env st => (a env st).bind fun ws st1 => mkC ws st1
theorem rd_disp {mk : List W → Store → Res W} {es : List Expr} {c : Av} {ho : List V → HO} (hm : ∀ {F : Hp} {al : List Addr} {st : Store} {H : Hp} {ws : List W} {vs : List V} {Q : VK} {ex : Value → Option Addr → Hp → Prop} {p : Addr}, Rel C.X.K F al st H → WRs C.X.K F al vs ws →
    Post C.X.K C.CA F al (mk ws st) (fun F' al' _ H' w => ∀ v, WR C.X.K F' al' v w → Q v H') ex → H p = none → Q (.ref p) (L2.upd H p (ho vs))) (ha : SA C es c) (hl : es.length ≤ sizeLine) :
    ∀ σ H Q, rdE C.X.K C.CA C.Wx (fun env st => (c env st).bind fun ws st1 => mk ws st1) σ H Q → rdA C.X.K C.CA C.Wx c σ H fun xs H1 => xs.length ≤ sizeLine ∧ ∀ p, H1 p = none → Q (.ref p) (L2.upd H1 p (ho xs)) := by
  rintro σ H Q ⟨F, al, env, st, R, E, h1⟩
  refine ⟨F, al, env, st, R, E, h1.stepE fun F1 al1 st1 H1 x eq e1 R1 h2 vs rv => ?_⟩
  exact ⟨by rw [rv.length, ha.len _ _ _ _ eq]; exact hl, fun p hp => hm R1 rv h2 hp⟩
theorem se_lstC {es : List Expr} {c : Av} {pos : Pos} (ha : SA C es c) (hl : es.length ≤ sizeLine := by show _ ≤ 16777216; decide) : SE C (.List es pos) (lstC c) := PE.imp (pe_lst ha.pa) (rd_disp (fun R r h hp => mkC_post R r h hp) ha hl)
/-! ### subscripts -/
def strAt (x : Str) (i : Int) : Option PyData := (atI x.cps.toList i).map fun c => .str ⟨#[c]⟩
def fIx : W → W → Store → Res W := fun w1 w2 st => match w1 with
  | .d (.str x) => match w2 with
    | .d (.int i) => if x.length ≤ sizeLine then (match strAt x i with | some y => .ok (.d y) st | none => .bad) else .bad
    | _ => .bad
  | .d (.tuple ds) => match w2 with
    | .d (.int i) => match atI ds i with | some y => .ok (.d y) st | none => .bad
    | _ => .bad
  | .c n => match st[n]? with
    | some (.dct kvs) => match keyOf w2 with
      | some k => match kget kvs k with | some w => .ok w st | none => .bad
      | none => .bad
    | some (.lst ws) => match w2 with
      | .d (.int i) => match atI ws i with | some w => .ok w st | none => .bad
      | _ => .bad
    | some (.tup ws) => match w2 with
      | .d (.int i) => match atI ws i with | some w => .ok w st | none => .bad
      | _ => .bad
    | _ => .bad
  | .d (.list ds) => match w2 with
    | .d (.int i) => match atI ds i with | some y => .ok (.d y) st | none => .bad
    | _ => .bad
  | .r ds => match w2 with
    | .d (.int i) => match atI ds i with | some y => .ok (.d y) st | none => .bad
    | _ => .bad
  | _ => .bad
theorem Paired.atI {α β : Type} {R : α → β → Prop} {xs : List α} {ys : List β} {i : Int} {y : β} (r : Paired R xs ys) (h : L2.atI ys i = some y) : ∃ x, L2.atI xs i = some x ∧ R x y := by
  unfold L2.atI at h ⊢
  rw [r.length]
  cases e : ixN ys.length i with
  | none => rw [e] at h; cases h
  | some j =>
    rw [e] at h
    obtain ⟨x, h1, h2⟩ := Paired.getR r (show ys[j]? = some y from h)
    exact ⟨x, h1, h2⟩
theorem rd_ix {ca cb : Ev} : ∀ σ H Q, rdE C.X.K C.CA C.Wx (bin fIx ca cb) σ H Q → tOp (rIx C.X.K) (rdE C.X.K C.CA C.Wx ca) (rdE C.X.K C.CA C.Wx cb) σ H Q ∨ tDGet (rdE C.X.K C.CA C.Wx ca) (rdE C.X.K C.CA C.Wx cb) σ H Q := by
  rintro σ H Q ⟨F, al, env, st, R, E, h1⟩
  by_cases hd : ∃ x st1 y st2 n kvs, ca env st = .ok x st1 ∧ cb env st1 = .ok y st2 ∧ x = .c n ∧ st2[n]? = some (.dct kvs)
  · obtain ⟨x, st1, y, st2, n, kvs, e1, e2, rfl, e4⟩ := hd
    refine .inr ⟨F, al, env, st, R, E, h1.stepE fun F1 al1 st1' H1 x' eq x1 R1 h2 v rv => ?_⟩
    rw [e1] at eq
    cases eq
    refine ⟨F1, al1, env, st1, R1, E.mono x1, h2.stepE fun F2 al2 st2' H2 y' eq x2 R2 h3 u ru => ?_⟩
    rw [e2] at eq
    cases eq
    obtain ⟨a, us, rfl, q1, q2, q3, q4⟩ := dct_get R2 (rv.mono x2) e4
    unfold fIx at h3
    simp only [e4] at h3
    split at h3
    · rename_i k hk
      split at h3
      · rename_i w hw
        rcases kget_rel k q4 with ⟨z, _⟩ | ⟨w', v', z1, z2, z3⟩
        · rw [z] at hw; cases hw
        · rw [z1] at hw
          cases hw
          exact ⟨a, v', rfl, by rw [keyOf_rel ru hk, ← z2]; exact DGet.k q3, h3 _ _ _ Ext.refl R2 _ z3⟩
      · exact h3.elim
    · exact h3.elim
  · refine .inl ⟨F, al, env, st, R, E, h1.stepE fun F1 al1 st1 H1 x eqx e1 R1 h2 v rv => ?_⟩
    refine ⟨F1, al1, env, st1, R1, E.mono e1, h2.stepE fun F2 al2 st2 H2 y eqy e2 R2 h3 u ru => ?_⟩
    have rv' := rv.mono e2
    unfold fIx at h3
    split at h3
    · split at h3
      · cases rv
        cases ru
        split at h3
        · rename_i hk
          split at h3
          · rename_i y' hy
            unfold strAt at hy
            rw [Option.map_eq_some_iff] at hy
            obtain ⟨c, hc, rfl⟩ := hy
            exact .inr (.inr ⟨_, _, c, rfl, rfl, hk, hc, h3 _ _ _ Ext.refl R2 _ (.str _)⟩)
          · exact h3.elim
        · exact h3.elim
      · exact h3.elim
    · split at h3
      · cases ru
        split at h3
        · rename_i y' hy
          cases rv' with
          | tup q1 q2 =>
            obtain ⟨x', z1, z2⟩ := Paired.atI (DqAll.paired q2) hy
            exact .inr (.inl ⟨_, _, _, x', rfl, rfl, Same.tupq R2.sub q1, z1, h3 _ _ _ Ext.refl R2 _ z2⟩)
        · exact h3.elim
      · exact h3.elim
    · split at h3
      · rename_i n kvs hn
        exact (hd ⟨_, _, _, _, _, _, eqx, eqy, rfl, hn⟩).elim
      · rename_i n ws hn
        split at h3
        · cases ru
          split at h3
          · rename_i w hw
            obtain ⟨a, z1, rfl⟩ := rv'
            obtain ⟨_, vs, z3, z4⟩ := R2.cell _ _ _ z1 hn
            obtain ⟨x', y1, y2⟩ := Paired.atI z4 hw
            exact .inl ⟨_, _, _, x', rfl, rfl, SqL.of z3, y1, h3 _ _ _ Ext.refl R2 _ y2⟩
          · exact h3.elim
        · exact h3.elim
      · rename_i n ws hn
        split at h3
        · cases ru
          split at h3
          · rename_i w hw
            obtain ⟨a, z1, rfl⟩ := rv'
            obtain ⟨_, vs, z3, z4⟩ := R2.cell _ _ _ z1 hn
            obtain ⟨x', y1, y2⟩ := Paired.atI z4 hw
            exact .inr (.inl ⟨_, _, _, x', rfl, rfl, SqT.of z3, y1, h3 _ _ _ Ext.refl R2 _ y2⟩)
          · exact h3.elim
        · exact h3.elim
      · exact h3.elim
    · split at h3
      · cases ru
        split at h3
        · rename_i y' hy
          cases rv' with
          | lst q1 q2 =>
            obtain ⟨x', z1, z2⟩ := Paired.atI (DqAll.paired q2) hy
            exact .inl ⟨_, _, _, x', rfl, rfl, SqL.of (R2.sub _ _ q1), z1, h3 _ _ _ Ext.refl R2 _ z2⟩
        · exact h3.elim
      · exact h3.elim
    · split at h3
      · cases ru
        split at h3
        · rename_i y' hy
          obtain ⟨a, vs, rfl, q1, q2⟩ := rv'
          obtain ⟨x', z1, z2⟩ := Paired.atI (DqAll.paired q2) hy
          exact .inl ⟨_, _, _, x', rfl, rfl, Same.seq R2.sub q1, z1, h3 _ _ _ Ext.refl R2 _ z2⟩
        · exact h3.elim
      · exact h3.elim
    · exact h3.elim
theorem se_ix {a b : Expr} {ca cb : Ev} {pos : Pos} (hu : C.X.A.units + 64 < cLine) (ha : SE C a ca) (hb : SE C b cb) (hs : PlainIx b := by exact fun _ _ => rfl) (hs2 : NoSl b := by exact fun _ _ => rfl) : SE C (.Subscript a b pos) (bin fIx ca cb) :=
  PE.imp (PE.or (pe_ix ix_seq ha hb hs) (pe_dget (by omega) ha hb hs2)) rd_ix
end
end VS
set_option Elab.async false
set_option linter.all false
set_option maxRecDepth 100000
set_option maxHeartbeats 1000000
/-! VS4: statements, targets, defs, calls. -/
namespace VS
open PySem PySem.Spec PyProof.Rows L2
inductive Fl where
  | nx (env : Env) (st : Store)
  | rt (w : W) (st : Store)
  | bk (env : Env) (st : Store)
  | ct (env : Env) (st : Store)
  | ex (e : Exn) (env : Env) (st : Store)
  | bad
abbrev Sd := Env → Store → Fl
def FPost (K : Frg) (CA : Nat → Addr) (F : Hp) (al : List Addr) (r : Fl) (D : Ends) (Wx : WX) : Prop :=
  match r with
  | .nx env st => ∀ F' al' σ' H', Ext F al F' al' → Rel K F' al' st H' → EnvR K F' al' σ' env → D.nx σ' H'
  | .rt w st => ∀ F' al' H' v, Ext F al F' al' → Rel K F' al' st H' → WR K F' al' v w → D.rt v H'
  | .bk env st => ∀ F' al' σ' H', Ext F al F' al' → Rel K F' al' st H' → EnvR K F' al' σ' env → D.bk σ' H'
  | .ct env st => ∀ F' al' σ' H', Ext F al F' al' → Rel K F' al' st H' → EnvR K F' al' σ' env → D.ct σ' H'
  | .ex e env st => ∀ F' al' σ' H' cls d, Ext F al F' al' → Rel K F' al' st H' → EnvR K F' al' σ' env → ExnR CA K F' cls d e → Wx cls d σ' H'
  | .bad => False
def rdS (K : Frg) (CA : Nat → Addr) (Wx : WX) (c : Sd) : TS := fun D σ H => ∃ F al env st, Rel K F al st H ∧ EnvR K F al σ env ∧ FPost K CA F al (c env st) D Wx
def SS (C : Cxt) (s : Stmt) (c : Sd) : Prop := PS C.X s (rdS C.X.K C.CA C.Wx c)
def SSs (C : Cxt) (s : List Stmt) (c : Sd) : Prop := PSs C.X s (rdS C.X.K C.CA C.Wx c)
theorem FPost.at {K : Frg} {CA : Nat → Addr} {F F' : Hp} {al al' : List Addr} {r : Fl} {D : Ends} {Wx : WX} (h : FPost K CA F al r D Wx) (e : Ext F al F' al') : FPost K CA F' al' r D Wx := by
  cases r with
  | nx env st => exact fun F2 al2 σ H x => h F2 al2 σ H (e.trans x)
  | rt w st => exact fun F2 al2 H v x => h F2 al2 H v (e.trans x)
  | bk env st => exact fun F2 al2 σ H x => h F2 al2 σ H (e.trans x)
  | ct env st => exact fun F2 al2 σ H x => h F2 al2 σ H (e.trans x)
  | ex er env st => exact fun F2 al2 σ H c d x => h F2 al2 σ H c d (e.trans x)
  | bad => exact h
/-- an expression, then a statement's end -/
def Res.fl {α : Type} (r : Res α) (env : Env) (k : α → Store → Fl) : Fl := match r with
  | .ok x st => k x st
  | .exn e st => .ex e env st
  | .bad => .bad
theorem FPost.step {α : Type} {K : Frg} {CA : Nat → Addr} {F : Hp} {al : List Addr} {r : Res α} {σ : L2.St} {env : Env} {k : α → Store → Fl} {D : Ends} {Wx : WX} {ok1 : Hp → List Addr → Store → Hp → α → Prop} (E : EnvR K F al σ env) (h : FPost K CA F al (r.fl env k) D Wx)
    (hk : ∀ F1 al1 st1 H1 x, r = .ok x st1 → Ext F al F1 al1 → Rel K F1 al1 st1 H1 → EnvR K F1 al1 σ env → FPost K CA F1 al1 (k x st1) D Wx → ok1 F1 al1 st1 H1 x) : Post K CA F al r ok1 (fun cls d H' => Wx cls d σ H') := by
  cases r with
  | ok x st =>
    intro F1 al1 H1 e R
    have h' : FPost K CA F al (k x st) D Wx := h
    exact hk F1 al1 st H1 x rfl e R (E.mono e) (h'.at e)
  | exn er st => exact fun F1 al1 H1 cls d e R q => h F1 al1 σ H1 cls d e R (E.mono e) q
  | bad => exact h
def sq (a b : Sd) : Sd := fun env st => match a env st with
  | .nx env1 st1 => b env1 st1
  | r => r
def skip : Sd := fun env st => .nx env st
def brk : Sd := fun env st => .bk env st
def asg (i : Nat) (a : Ev) : Sd := fun env st => (a env st).fl env fun w st1 => .nx (env.set i (some w)) st1
def ret (a : Ev) : Sd := fun env st => (a env st).fl env fun w st1 => .rt w st1
def ifS (t : Tst) (a b : Sd) : Sd := fun env st => (t env st).fl env fun x st1 => if x = true then a env st1 else b env st1
section
variable {C : Cxt} {s : Stmt} {r : List Stmt} {a b : Sd} {e : Expr} {c : Ev} {pos : Pos}
theorem ss_nil : SSs C [] skip := PSs.imp pss_nil fun D σ H => by
  rintro ⟨F, al, env, st, R, E, h⟩
  exact h _ _ _ _ Ext.refl R E
theorem ss_cons (h1 : SS C s a) (h2 : SSs C r b) : SSs C (s :: r) (sq a b) := PSs.imp (pss_cons h1 h2) fun D σ H => by
  rintro ⟨F, al, env, st, R, E, h⟩
  refine ⟨F, al, env, st, R, E, ?_⟩
  unfold sq at h
  split at h
  · rename_i env1 st1 e1
    rw [e1]
    exact fun F' al' σ' H' x R' E' => ⟨F', al', env1, st1, R', E', h.at x⟩
  · rename_i hn
    revert h hn
    cases a env st with
    | nx e1 s1 => exact fun hn _ => (hn _ _ rfl).elim
    | rt w s1 => exact fun _ h => h
    | bk e1 s1 => exact fun _ h => h
    | ct e1 s1 => exact fun _ h => h
    | ex er e1 s1 => exact fun _ h => h
    | bad => exact fun _ h => h
theorem ss_one (h1 : SS C s a) : SSs C [s] a := pss_one h1
theorem ss_asg {i : Nat} {x : Str} {pos' : Pos} (nd : C.X.N.Nodup) (he : SE C e c) (hi : C.X.N[i]? = some x := by rfl) (hx : Loc C.X.env.scope x := by first | exact Or.inl rfl | exact Or.inr rfl) (hs : swapsWith e (some (.Name x pos')) pos.line C.X.env = pure false := by rfl)
    (hf : C.X.fn x = true ∨ C.X.env.scope.names.lookup x = some .local := by first | exact .inl rfl | exact .inr rfl) : SS C (.Assign [.Name x pos'] e pos) (asg i c) := PS.imp (ps_set nd hi hx he hs hf) fun D σ H => by
  rintro ⟨F, al, env, st, R, E, h⟩
  exact ⟨F, al, env, st, R, E, FPost.step E h fun F1 al1 st1 H1 x eq e1 R1 E1 h1 v rv => h1 _ _ _ _ Ext.refl R1 (E1.set rv i)⟩
theorem ss_ret (he : SE C e c) : SS C (.Return (some e) pos) (ret c) := PS.imp (ps_ret he) fun D σ H => by
  rintro ⟨F, al, env, st, R, E, h⟩
  exact ⟨F, al, env, st, R, E, FPost.step E h fun F1 al1 st1 H1 x eq e1 R1 E1 h1 v rv => h1 _ _ _ _ Ext.refl R1 rv⟩
theorem ss_if {t : Expr} {ct : Tst} {sa sb : List Stmt} (ht : ST C t ct) (ha : SSs C sa a) (hb : SSs C sb b) : SS C (.If t sa sb pos) (ifS ct a b) := PS.imp (ps_if ht ha hb) fun D σ H => by
  rintro ⟨F, al, env, st, R, E, h⟩
  refine ⟨F, al, env, st, R, E, FPost.step E h fun F1 al1 st1 H1 x eq e1 R1 E1 h1 => ?_⟩
  cases x with
  | true => exact iteT ⟨F1, al1, env, st1, R1, E1, h1⟩
  | false => exact iteF ⟨F1, al1, env, st1, R1, E1, h1⟩
end
/-! ### targets -/
abbrev Tg := W → Env → Store → Option (Env × Store)
def GPost (K : Frg) (F : Hp) (al : List Addr) (r : Option (Env × Store)) (Q : L2.St → Hp → Prop) : Prop := match r with
  | some (env, st) => ∀ F' al' σ' H', Ext F al F' al' → Rel K F' al' st H' → EnvR K F' al' σ' env → Q σ' H'
  | none => False
def rdG (K : Frg) (g : Tg) : TG := fun v σ H Q => ∃ F al env st w, Rel K F al st H ∧ EnvR K F al σ env ∧ WR K F al v w ∧ GPost K F al (g w env st) Q
def SG (C : Cxt) (e : Expr) (g : Tg) : Prop := PG C.X e (rdG C.X.K g)
abbrev Tgs := List W → Env → Store → Option (Env × Store)
def rdGs (K : Frg) (g : Tgs) : TGs := fun vs σ H Q => ∃ F al env st ws, Rel K F al st H ∧ EnvR K F al σ env ∧ WRs K F al vs ws ∧ GPost K F al (g ws env st) Q
def SGs (C : Cxt) (es : List Expr) (g : Tgs) : Prop := PGs C.X es (rdGs C.X.K g)
theorem PG.imp {X : Cx} {e : Expr} {t t' : TG} (h : PG X e t) (k : ∀ v σ H Q, t' v σ H Q → t v σ H Q) : PG X e t' :=
  ⟨fun pins s σ H v u Q I r q => h.run pins s σ H v u Q I r (k v σ H Q q)⟩
theorem PGs.imp {X : Cx} {e : List Expr} {t t' : TGs} (h : PGs X e t) (k : ∀ v σ H Q, t' v σ H Q → t v σ H Q) : PGs X e t' :=
  ⟨fun pins s σ H v u Q I r q => h.run pins s σ H v u Q I r (k v σ H Q q)⟩
theorem GPost.at {K : Frg} {F F' : Hp} {al al' : List Addr} {r : Option (Env × Store)} {Q : L2.St → Hp → Prop} (h : GPost K F al r Q) (e : Ext F al F' al') : GPost K F' al' r Q := by
  cases r with
  | none => exact h
  | some p =>
    obtain ⟨env, st⟩ := p
    exact fun F2 al2 σ H x => h F2 al2 σ H (e.trans x)
def gN (i : Nat) : Tg := fun w env st => some (env.set i (some w), st)
def gsNil : Tgs := fun ws env st => match ws with
  | [] => some (env, st)
  | _ => none
def gsCons (g : Tg) (r : Tgs) : Tgs := fun ws env st => match ws with
  | w :: ws => match g w env st with
    | some (env1, st1) => r ws env1 st1
    | none => none
  | [] => none
def gT (n : Nat) (g : Tgs) : Tg := fun w env st => match itmT st w with
  | some ws => if ws.length = n then g ws env st else none
  | none => none
section
variable {C : Cxt}
theorem sg_name (nd : C.X.N.Nodup) (i : Nat) {x : Str} {pos : Pos} (hi : C.X.N[i]? = some x := by rfl) (hx : Loc C.X.env.scope x := by first | exact Or.inl rfl | exact Or.inr rfl) (hf : C.X.fn x = true ∨ C.X.env.scope.names.lookup x = some .local := by first | exact .inl rfl | exact .inr rfl) : SG C (.Name x pos) (gN i) :=
  PG.imp (pg_name nd hi hx hf) fun v σ H Q => by
    rintro ⟨F, al, env, st, w, R, E, r, h⟩
    exact h _ _ _ _ Ext.refl R (E.set r i)
theorem sgs_nil : SGs C [] gsNil := PGs.imp pgs_nil fun vs σ H Q => by
  rintro ⟨F, al, env, st, ws, R, E, r, h⟩
  cases r with
  | nil => exact ⟨rfl, h _ _ _ _ Ext.refl R E⟩
  | cons r t => exact h.elim
theorem sgs_cons {e : Expr} {es : List Expr} {g : Tg} {gs : Tgs} (h1 : SG C e g) (h2 : SGs C es gs) (hs : (assignEach (e :: es) C.X.env).map (·.2) = assign e C.X.env :: (assignEach es C.X.env).map (·.2) := by rfl) : SGs C (e :: es) (gsCons g gs) :=
  PGs.imp (pgs_cons h1 h2 hs) fun vs σ H Q => by
    rintro ⟨F, al, env, st, ws, R, E, r, h⟩
    cases r with
    | nil => exact h.elim
    | cons r t =>
      rename_i v w vs ws
      refine ⟨v, vs, rfl, F, al, env, st, w, R, E, r, ?_⟩
      unfold gsCons at h
      simp only at h
      split at h
      · rename_i env1 st1 e1
        rw [e1]
        exact fun F' al' σ' H' x R' E' => ⟨F', al', env1, st1, ws, R', E', WRs.mono x t, h.at x⟩
      · exact h.elim
/-! ### o[i] = v -/
def kput (kvs : List (Key × W)) (k : Key) (w : W) : List (Key × W) :=
  if (kvs.any fun kv => decide (kv.1 = k)) = true then kvs.map (fun kv => if kv.1 = k then (kv.1, w) else kv) else kvs ++ [(k, w)]
theorem kput_any {K : Frg} {F : Hp} {al : List Addr} (k : Key) : ∀ {us : List (Key × V)} {kvs : List (Key × W)}, KWR K F al us kvs → (us.any fun kv => decide (kv.1 = k)) = kvs.any fun kv => decide (kv.1 = k)
  | _, _, .nil => rfl
  | (k1, v1) :: us, (k2, w2) :: kvs, .cons q t => by rw [List.any_cons, List.any_cons, kput_any k t, q.1]
theorem kput_map {K : Frg} {F : Hp} {al : List Addr} {v : V} {w : W} (k : Key) (r : WR K F al v w) : ∀ {us : List (Key × V)} {kvs : List (Key × W)}, KWR K F al us kvs →
    KWR K F al (us.map fun kv => if kv.1 = k then (kv.1, v) else kv) (kvs.map fun kv => if kv.1 = k then (kv.1, w) else kv)
  | _, _, .nil => .nil
  | (k1, v1) :: us, (k2, w2) :: kvs, .cons q t => by
    refine .cons ?_ (kput_map k r t)
    have e : k1 = k2 := q.1
    subst e
    by_cases hk : k1 = k
    · simp only [hk, if_true]
      exact ⟨trivial, r⟩
    · simp only [hk, if_false]
      exact ⟨trivial, q.2⟩
theorem kput_rel {K : Frg} {F : Hp} {al : List Addr} {us : List (Key × V)} {kvs : List (Key × W)} {v : V} {w : W} (k : Key) (h : KWR K F al us kvs) (r : WR K F al v w) : KWR K F al (putK us k v) (kput kvs k w) := by
  unfold putK kput
  rw [kput_any k h]
  split
  · exact kput_map k r h
  · exact Paired.app h (.cons ⟨rfl, r⟩ .nil)
def setW (o i w : W) (st : Store) : Option Store := match o with
  | .c n => match st[n]? with
    | some (.dct kvs) => match keyOf i with
      | some k => if kvs.length < sizeLine then some (st.set n (.dct (kput kvs k w))) else none
      | none => none
    | some (.lst ws) => match i with
      | .d (.int k) => (ixN ws.length k).map fun j => st.set n (.lst (ws.set j w))
      | _ => none
    | _ => none
  | _ => none
def rSetA : TSet := fun o i v H Q => rSetL o i v H Q ∨ ∃ a H', o = .ref a ∧ DPut H a i v H' ∧ Q H'
theorem set_any {X : Cx} (hu : X.A.units + 64 < cLine) : PSet X rSetA := by
  intro pins s σ H o i v ov iv u Q I r1 r2 r3 h
  rcases h with h | ⟨a, H', rfl, g, q⟩
  · exact set_list pins s σ H o i v ov iv u Q I r1 r2 r3 h
  · cases r1
    exact d_setItem (by omega) I g r2 r3 fun s' I' => ⟨H', I', q⟩
theorem setW_rel {K : Frg} {F : Hp} {al : List Addr} {st st' : Store} {H : Hp} {o i v : V} {wo wi w : W} {Q : Hp → Prop} (R : Rel K F al st H) (ro : WR K F al o wo) (ri : WR K F al i wi) (rv : WR K F al v w) (e : setW wo wi w st = some st') (h : ∀ H', Rel K F al st' H' → Q H') : rSetA o i v H Q := by
  unfold setW at e
  split at e
  · split at e
    · rename_i n _ kvs hn
      split at e
      · rename_i k hk
        split at e
        · rename_i hl
          cases e
          obtain ⟨a, us, rfl, q1, q2, q3, q4⟩ := dct_get R ro hn
          have hl' : us.length < sizeLine := by rw [Paired.length q4]; exact hl
          refine .inr ⟨a, _, rfl, by rw [keyOf_rel ri hk]; exact DPut.k q3 hl', h _ (R.setC q1 q2 ⟨q2, _, upd_same, kput_rel k q4 rv⟩)⟩
        · cases e
      · cases e
    · rename_i n _ ws hn
      split at e
      · rename_i k
        rw [Option.map_eq_some_iff] at e
        obtain ⟨j, hj, rfl⟩ := e
        obtain ⟨a, q1, rfl⟩ := ro
        obtain ⟨q2, vs, q3, q4⟩ := R.cell _ _ _ q1 hn
        cases ri
        exact .inl ⟨a, vs, k, j, rfl, rfl, q3, by rw [q4.length]; exact hj, h _ (R.setC q1 q2 ⟨q2, _, upd_same, Paired.setB rv j q4⟩)⟩
      · cases e
    · cases e
  · cases e
def gS (o i : Ev) : Tg := fun w env st => match o env st with
  | .ok wo st1 => match i env st1 with
    | .ok wi st2 => (setW wo wi w st2).map fun st3 => (env, st3)
    | _ => none
  | _ => none
theorem sg_sub {o i : Expr} {co ci : Ev} {pos : Pos} (hu : C.X.A.units + 64 < cLine) (ho : SE C o co) (hi : SE C i ci)
    (ha : ∀ v, assign (.Subscript o i pos) C.X.env v = (do
      let ov ← holding [v] (eval o C.X.env)
      let iv ← holding [v, ov] (eval i C.X.env)
      standAt pos
      holding [v, ov, iv] (setItem ov iv v)
      release [v, ov, iv] []) := by intro _; rfl) : SG C (.Subscript o i pos) (gS co ci) :=
  PG.imp (pg_sub ho hi (set_any hu) ha) fun v σ H Q => by
    rintro ⟨F, al, env, st, w, R, E, r, h⟩
    refine ⟨F, al, env, st, R, E, ?_⟩
    unfold gS at h
    split at h
    · rename_i wo st1 e1
      rw [e1]
      split at h
      · rename_i wi st2 e2
        intro F1 al1 H1 x1 R1 vo ro
        refine ⟨F1, al1, env, st1, R1, E.mono x1, ?_⟩
        rw [e2]
        intro F2 al2 H2 x2 R2 vi ri
        have hs : ∃ st3, setW wo wi w st2 = some st3 := by
          cases q : setW wo wi w st2 with
          | none => rw [q] at h; exact h.elim
          | some st3 => exact ⟨st3, rfl⟩
        obtain ⟨st3, hs⟩ := hs
        rw [hs] at h
        exact setW_rel R2 (ro.mono x2) ri (r.mono (x1.trans x2)) hs fun H' R3 => h _ _ _ _ (x1.trans x2) R3 (E.mono (x1.trans x2))
      · exact h.elim
    · exact h.elim
/-- target = value -/
def asgG (g : Tg) (a : Ev) : Sd := fun env st => (a env st).fl env fun w st1 => match g w env st1 with
  | some (env2, st2) => .nx env2 st2
  | none => .bad
theorem ss_asgG {tg e : Expr} {c : Ev} {g : Tg} {pos : Pos} (he : SE C e c) (hg : SG C tg g) (hs : swapsWithSole [tg] e pos.line C.X.env = pure false := by rfl) (hw : swappedStores [tg] e C.X.env = pure none := by rfl)
    (h1 : (assignEach [tg] C.X.env).map (·.2) = [assign tg C.X.env] := by rfl) : SS C (.Assign [tg] e pos) (asgG g c) := PS.imp (ps_asg he hg hs hw h1) fun D σ H => by
  rintro ⟨F, al, env, st, R, E, h⟩
  refine ⟨F, al, env, st, R, E, FPost.step E h fun F1 al1 st1 H1 x eq e1 R1 E1 h1 v rv => ⟨F1, al1, env, st1, x, R1, E1, rv, ?_⟩⟩
  split at h1
  · rename_i env2 st2 e2
    rw [e2]
    exact h1
  · exact h1.elim
/-- a, b = x, y -/
def par (i j : Nat) (a : Av) : Sd := fun env st => (a env st).fl env fun ws st1 => match ws with
  | [x, y] => .nx ((env.set i (some x)).set j (some y)) st1
  | _ => .bad
/-! ### op= -/
end
end VS
set_option Elab.async false
set_option linter.all false
set_option maxRecDepth 100000
set_option maxHeartbeats 1000000
/-! VS5: defs and their calls; for, while. -/
namespace VS
open PySem PySem.Spec PyProof.Rows L2
structure Cok (C : Cxt) : Prop where
  calm : C.X.calm = true
  nd : C.X.N.Nodup
  hu : C.X.A.units + 64 < cLine
  gd : C.X.A.guards = some []
  tk : Takes C.X C.Wx
  po : PassesOwn (model C.X.prog C.X.w) C.X.A C.X.env C.X.xe
/-! ### what a def hands back -/
def frz (lo : Nat) (st : Store) : Nat → W → Option PyData
  | _, .d x => some x
  | _, .r _ => none
  | 0, .c _ => none
  | k + 1, .c n => if n < lo then none else match st[n]? with
    | some (.lst ws) => (ws.mapM (frz lo st k)).map .list
    | _ => none
section
variable {K : Frg} {CA : Nat → Addr} {F F' H' : Hp} {al al' : List Addr} {st st' : Store}
def wIn (n : Nat) : W → Prop
  | .c m => m < n
  | _ => True
def cIn (n : Nat) : Cell → Prop
  | .lst ws => ∀ w ∈ ws, wIn n w
  | .dct kvs => ∀ p ∈ kvs, wIn n p.2
  | .tup ws => ∀ w ∈ ws, wIn n w
  | .lck kvs => ∀ p ∈ kvs, wIn n p.2
  | .err _ => True
  | .dead => True
theorem WR.cut {v : V} {w : W} (x : Ext F al F' al') (h : wIn al.length w) {G : Hp} (r : WR K G al' v w) : WR K G al v w := by
  cases w with
  | d y => exact r
  | r y => exact r
  | c n =>
    obtain ⟨a, h1, h2⟩ := r
    obtain ⟨m, rfl⟩ := x.pre
    exact ⟨a, by rw [List.getElem?_append_left h] at h1; exact h1, h2⟩
theorem Paired.imp' {α β : Type} {R S : α → β → Prop} : ∀ {xs : List α} {ys : List β}, Paired R xs ys → (∀ x y, y ∈ ys → R x y → S x y) → Paired S xs ys
  | _, _, .nil, _ => .nil
  | _, _, .cons r t, h => .cons (h _ _ List.mem_cons_self r) (Paired.imp' t fun x y hm => h x y (List.mem_cons_of_mem _ hm))
theorem CellR.cut {a : Addr} {c : Cell} (x : Ext F al F' al') (h : cIn al.length c) {G : Hp} (r : CellR K G al' H' a c) : CellR K G al H' a c := by
  cases c with
  | lst ws =>
    obtain ⟨q, vs, q1, q2⟩ := r
    exact ⟨q, vs, q1, Paired.imp' q2 fun v w hm r => WR.cut x (h w hm) r⟩
  | dct ws =>
    obtain ⟨q, vs, q1, q2⟩ := r
    exact ⟨q, vs, q1, Paired.imp' q2 fun v w hm r => ⟨r.1, WR.cut x (h w hm) r.2⟩⟩
  | tup ws =>
    obtain ⟨q, vs, q1, q2⟩ := r
    exact ⟨q, vs, q1, Paired.imp' q2 fun v w hm r => WR.cut x (h w hm) r⟩
  | lck ws =>
    obtain ⟨od, us, q, q1, q2⟩ := r
    exact ⟨od, us, q, q1, Paired.imp' q2 fun v w hm r => ⟨r.1, WR.cut x (h w hm) r.2⟩⟩
  | err y => exact r
  | dead => exact r
theorem ExnR.mono {G G' : Hp} (e : Same G G') {cls : Value} {d : Option Addr} {er : Exn} (h : ExnR CA K G cls d er) : ExnR CA K G' cls d er := by
  refine ⟨h.1, ?_⟩
  have h2 := h.2
  split
  · rename_i q
    rw [q] at h2
    exact h2
  · rename_i fs q
    rw [q] at h2
    obtain ⟨dd, us, h3, h4, h5⟩ := h2
    exact ⟨dd, us, h3, e _ _ h4, Paired.imp' h5 fun p q _ r => ⟨r.1, Dq.mono e _ _ r.2⟩⟩
end
end VS
set_option Elab.async false
set_option linter.all false
set_option maxRecDepth 100000
set_option maxHeartbeats 400000
/-! VSG: what a def promises where no object is being shown around it (so that repr may be called within). -/
namespace VS
open PySem PySem.Spec PyProof.Rows L2
structure FnG (P : Program) (w : World) (K : Frg) (mg : Str → Option Value) (base : Heap) (k : Nat) (f : Addr) (fd : FuncData) (ps : List Str) (sp : Sp) : Prop where
  len : ∀ vs H Q E, sp vs H Q E → vs.length = ps.length
  run : ∀ (A : Around) (out : List PySem.Env) (s : Shared) (H : Hp) (ar : Args) (us : List Value) (vs : List V) (Q : VK) (E : XK), A.guards = some [] → Room k A → Env0 P w K mg base A out s H →
    BindsTo s fd ar (ps.zip us) → Vals vs us → sp vs H Q E → codeAny (model P w) A (.call (.ref f) ar) (CR (L2.CX P w) out P w H s Q E) s
theorem FnG.mono {P : Program} {w : World} {K : Frg} {mg : Str → Option Value} {base : Heap} {j k : Nat} {f : Addr} {fd : FuncData} {ps : List Str} {sp : Sp} (g : FnG P w K mg base j f fd ps sp) (h : j ≤ k) : FnG P w K mg base k f fd ps sp :=
  ⟨g.len, fun A out s H ar us vs Q E gd hr => g.run A out s H ar us vs Q E gd (hr.mono h)⟩
section
variable {X : Cx} {k : Nat} {f : Addr} {fd : FuncData} {ps : List Str} {sp : Sp} {E : L2.St → XK}
theorem run_fnG {pins : List (Addr × Obj)} {σ : L2.St} {H : Hp} {s : Shared} {Q : VK} {us : List Value} {vs : List V} (g : FnG X.prog X.w X.K X.mg X.base k f fd ps sp) (gd : X.A.guards = some []) (hr : Room k X.A) (hb : Binds X.K fd ps [])
    (hx : PassesAt (L2.CX X.prog X.w) X σ (E σ)) (I : Inv X pins σ H s) (r : Vals vs us) (h : sp vs H Q (E σ)) : wpAny (model X.prog X.w) X.A (call (.ref f) us) (EP X pins σ Q) X.xe s := by
  have b := hb s us I.kIn
  simp only [List.append_nil] at b
  have hl : us.length = ps.length := r.length.symm.trans (g.len _ _ _ _ h)
  refine wpAny_call (codeAny_mono (g.run X.A X.stack s H ⟨us, []⟩ us vs Q (E σ) gd hr I.env0 (b hl) r h) fun res s' hq => ?_)
  match res, hq with
  | .error e, hq => exact hx pins H s e s' I hq
  | .ok (.ret u), hq => exact I.after hq
theorem pe_callG {x : Str} {p pos : Pos} {e : Expr} {es : List Expr} {t : TA} (g : FnG X.prog X.w X.K X.mg X.base k f fd ps sp) (gd : X.A.guards = some []) (hr : Room k X.A) (hg : Gl X x) (hm : X.mg x = some (.ref f)) (hk : PySem.W.keepIn X.K (.ref f) = true) (hb : Binds X.K fd ps [])
    (hx : ∀ σ, PassesAt (L2.CX X.prog X.w) X σ (E σ)) (ha : PA X (e :: es) t) (hdb : (x == ("__debug__" : Str)) = false) (he : starEach (e :: es) X.env = (false, eval e X.env) :: starEach es X.env) (hpl : (backTo pos (starEach es X.env)).any (·.1) = false) :
    PE X (.Call (.Name x p) (e :: es) [] pos) (tCallS sp E t) := by
  constructor
  intro pins s σ H Q I h
  refine wpAny_Call_Name_kw (ld_glob (x := x) I hg hm ?_ hdb)
  have run := ha.run pos pins s σ H _ I h
  refine PySem.W.callWith_K (h₀ := X.base) I.ok.mod.kin hk (thn run ?_) he hpl
  rintro us s1 ⟨vs, H1, I1, r, q⟩
  exact And.intro I1.kIn (run_fnG g gd hr hb (hx σ) I1 r q)
end
/-- a def of the text by its body -/
theorem fn_ofG {P : Program} {w : World} {K : Frg} {mg : Str → Option Value} {base : Heap} {x qual : Str} {st : Stmt} {f : Addr} {fd : FuncData} {N ps : List Str} {k : Nat} {sp : Sp} (F : Fun K x qual st f fd) (S : FnScope N ps (defScope st)) (len : ∀ vs H Q E, sp vs H Q E → vs.length = ps.length)
    (hbody : ∀ (cdv : Value) (A : Around) (out : List PySem.Env) (s : Shared) (H : Hp) (vs : List V) (Q : VK) (E : XK), A.guards = some [] → Room k (A.deeper (envOfC qual (defScope st) s.heap.objs.size f cdv)) → sp vs H Q E →
      ∃ t, PSs (cxOf (L2.CX P w) P w K mg base N qual (defScope st) f cdv A out s H E) (defBody st) t ∧ t { nx := fun _ H' => Q .non H', rt := Q } (L2.start N vs) H) : FnG P w K mg base (k + 1) f fd ps sp := by
  obtain ⟨oc, od, kV, doc, pm, an, cdv, ct, osl, rfl, lk, hcd⟩ := F.ex
  constructor
  · exact len
  intro A out s H ar us vs Q E gd hr e0 hb r hsp
  have inn : ∀ b o, base.get? b = some o → s.heap.get? b = some o := fun b o e => (e0.bs b o e).1
  have hin : K.In s.heap := e0.mod.kin.keeps inn
  have nolim : s.heap.NoLimit := e0.mod.nolimit.keeps inn
  have kinds : ∀ y ∈ ps.zip us, (defScope st).names.lookup y.1 = some .local ∨ ((defScope st).names.lookup y.1 = some .cell ∧ ((cellsFrom (s.heap.objs.size + 1) (defScope st).names []).lookup y.1).isSome = true) := by
    rintro ⟨n, v⟩ hy
    cases S.par n (List.of_mem_zip hy).1 with
    | inl q => exact Or.inl q
    | inr q => exact Or.inr ⟨q, PySem.W.cellsFrom_some _ _ _ (Or.inl q)⟩
  refine codeAny_call_function hr.depth (hin _ _ lk) rfl S.co S.gen rfl (PySem.W.codeRec_of hin hcd) (hb _ _ _ _ (wpAny_newFunctionEnv_cells S.kind kinds fun env he s1 x => ?_))
  subst he
  refine ⟨nolim.keeps x.toInCall.keep, codeAny_func ?_⟩
  obtain ⟨t, ht, hq⟩ := hbody cdv A out s H vs Q E gd (hr.deeper _) hsp
  have I := inv_start (CX := L2.CX P w) (E := E) S hr.hd e0 (len _ _ _ _ hsp) r x
  refine wpAny_mono (ht.run [] s1 (L2.start N vs) H _ I hq) (fun fl s' hs => ?_) fun e s' hs => hs
  cases fl with
  | ret u =>
    rcases hs with ⟨v, σ', H', J, rv, q⟩
    exact ⟨v, H', J.os, J.bare, J.base, J.hok, rv, q⟩
  | next =>
    rcases hs with ⟨σ', H', J, q⟩
    exact ⟨.non, H', J.os, J.bare, J.base, J.hok, rfl, q⟩
  | brk =>
    rcases hs with ⟨_, _, _, q⟩
    exact q.elim
  | cont =>
    rcases hs with ⟨_, _, _, q⟩
    exact q.elim
/-- nothing is tracked but the script -/
theorem law_callG {P : Program} {w : World} {K : Frg} {mg mb : Str → Option Value} {k : Nat} {fa a : Addr} {fd : FuncData} {x : Str} {sp : Sp} {s1 : Shared} {vs : List Value} {ns : List Int} (KX : K.In s1.heap) (hns : s1.heap.Ns mainGlobals mg) (hb : s1.heap.Ns builtinsNs mb)
    (hbb : ∀ x : Str, x ≠ "__name__" → mb x = bootBuiltins x) (hlim : s1.heap.NoLimit) (hg : s1.gens = #[]) (ha : s1.heap.get? a = some { cls := .type "list", data := .seq vs.toArray }) (hi : IntsAre vs ns) (hl : ns.length ≤ sizeLine) (hr : Room k callerA)
    (F : ∀ base : Heap, K.In base → base.Ns mainGlobals mg → FnG P w K mg base k fa fd [x] sp) (hbind : ∀ (s : Shared) (u : Value), BindsTo s fd ⟨[u], []⟩ [(x, u)]) (hsp : ∀ H : Hp, Only H → SqL K H a (ns.map V.int) → sp [.ref a] H (fun v _ => v = .bl true) fun _ _ _ => False) :
    codeAny (model P w) callerA (.call (.ref fa) ⟨[.ref a], []⟩) (fun r s' => r = .ok (.ret (.bool true)) ∧ OldK s1.heap s'.heap ∧ s'.os = s1.os ∧ AllBare s'.gens) s1 := by
  have rv := vals_ints hi
  have lenV := hi.length
  have core : ∀ H : Hp, Only H → SqL K H a (ns.map V.int) → HOk P w H s1.heap → (∀ b, H b ≠ none → b = a) → (H a ≠ none → K.lookup a = none) →
      codeAny (model P w) callerA (.call (.ref fa) ⟨[.ref a], []⟩) (fun r s' => r = .ok (.ret (.bool true)) ∧ OldK s1.heap s'.heap ∧ s'.os = s1.os ∧ AllBare s'.gens) s1 := by
    intro H hO hS hok hA hK
    have only : ∀ {b : Addr} {u : HO}, H b = some u → b = a := fun {b u} q => hA b (by rw [q]; exact fun z => nomatch z)
    have notA : ∀ {b : Addr} {o : Obj} {es : Array DictEntry} {ep : Nat}, s1.heap.get? b = some o → o.data = .dict es ep → H b = none := fun {b o es ep} e d => by
      cases q : H b with
      | none => rfl
      | some u =>
        rw [only q, ha] at e
        cases e
        have d' : Data.seq vs.toArray _ = Data.dict es ep := d
        cases d'
    have nsH : ∀ {b : Addr} {m : Str → Option Value}, s1.heap.Ns b m → (hidT s1.heap H).Ns b m := fun {b m} ⟨o, es, ep, e, d, r⟩ => ⟨o, es, ep, hidT_get e (notA e d), d, r⟩
    have hin : K.In (hidT s1.heap H) := fun b o e => hidT_get (KX b o e) (by
      cases q : H b with
      | none => rfl
      | some u =>
        have ea := only q
        subst ea
        rw [hK (by rw [q]; exact fun z => nomatch z)] at e
        cases e)
    have hM : Mod K mg (hidT s1.heap H) := ⟨hin, nsH hns, ⟨mb, nsH hb, hbb⟩, let ⟨mc, h1, h2⟩ := hlim; ⟨mc, nsH h1, h2⟩⟩
    have e0 : Env0 P w K mg (hidT s1.heap H) callerA [] s1 H := ⟨rfl, hM, fun b o e => of_hidT e, Nat.le_of_eq (hidT_size _ _), trivial, fun b hb => (nomatch (show b ∈ ([] : List Addr) from hb)), hok, .of_eq hg⟩
    refine codeAny_mono ((F _ hin (nsH hns)).run callerA [] s1 H ⟨[.ref a], []⟩ [.ref a] [.ref a] _ _ rfl hr e0 (hbind s1 (.ref a)) (.cons rfl .nil) (hsp H hO hS)) fun r s' h => ?_
    match r, h with
    | .error e, h =>
      obtain ⟨_, _, _, _, _, _, _, _, _, _, _, _, z⟩ := h
      exact z.elim
    | .ok (.ret u), ⟨v, H', os, bare, un, hok', r', q⟩ =>
      have q' : v = .bl true := q
      subst q'
      obtain rfl : u = Value.bool true := r'
      refine ⟨rfl, OldK.of_keep fun b o e => ?_, os, bare⟩
      cases q : H b with
      | none => exact un.keep b o e q (fun z => nomatch (show b ∈ ([] : List Addr) from z)) (fun z => nomatch z)
      | some u =>
        rcases hO b with z | ⟨ob, xs, z⟩
        · rw [q] at z
          cases z
        · obtain ⟨e1, _⟩ := hok b _ z
          obtain ⟨e2, _⟩ := hok' b _ (un.frzs b ob _ z)
          rw [e] at e1
          cases e1
          exact e2
  cases hk : K.lookup a with
  | some o =>
    have e := KX a o hk
    rw [ha] at e
    cases e
    exact core (fun _ => none) (fun _ => .inl rfl) (.inr ⟨_, vs.toArray, _, hk, rfl, rfl, rfl, by rw [List.size_toArray, lenV]; exact hl, rv⟩) (fun b u z => nomatch (show (none : Option HO) = some u from z)) (fun b z => absurd rfl z) fun z => absurd rfl z
  | none =>
    have he : ∀ b, (if b = a then some (HO.frz { cls := .type "list", data := .seq vs.toArray } (.lst (ns.map V.int))) else none) ≠ none → b = a := fun b z => by
      by_cases hb : b = a
      · exact hb
      · exact absurd (if_neg hb) z
    refine core (fun b => if b = a then some (.frz { cls := .type "list", data := .seq vs.toArray } (.lst (ns.map V.int))) else none) (fun b => ?_) (.inl (.inr ⟨_, if_pos rfl⟩)) (fun b u z => ?_) he fun _ => hk
    · by_cases hb : b = a
      · exact .inr ⟨_, _, if_pos hb⟩
      · exact .inl (if_neg hb)
    · obtain rfl := he b (by rw [show (if b = a then some (HO.frz { cls := .type "list", data := .seq vs.toArray } (.lst (ns.map V.int))) else none) = some u from z]; exact fun q => nomatch q)
      have z' := (if_pos rfl).symm.trans z
      cases z'
      exact ⟨ha, by rw [List.length_map]; exact hl, vs, _, rv, ha⟩
/-- the goal that the head leaves -/
theorem walk_ofG {l : PySem.W.OpenLaw} {n k : Nat} {q : Program} {loose : List Str} {XP : (Str → Option Value) → Heap → Prop} {YP : World → Heap → Prop} {d : DefRec} {K : Params → PySem.W.Frag} {sp : World → Sp} {x : Str} (hn : l.most = some n) (hn2 : n ≤ sizeLine) (hdf : d.params.defaults = []) (hr : Room k callerA)
    (hY : ∀ (w : World) (h : Heap), YP w h → (K w.params).In h)
    (F : ∀ (w : World) (mg : Str → Option Value) (fa : Addr) (h : Heap), (K w.params).In h → h.Ns mainGlobals mg → mg d.name = some (.ref fa) → ∃ fd : FuncData, (∀ (s : Shared) (u : Value), BindsTo s fd ⟨[u], []⟩ [(x, u)]) ∧
        ∀ base : Heap, (K w.params).In base → base.Ns mainGlobals mg → FnG l.prog w (K w.params) mg base k fa fd [x] (sp w))
    (hsp : ∀ (w : World) (H : Hp) (a : Addr) (ns : List Int), ns.length ≤ n → Only H → SqL (K w.params) H a (ns.map V.int) → sp w [.ref a] H (fun v _ => v = .bl true) fun _ _ _ => False) :
    PySem.W.WalkO q loose XP YP l.row.toRowW d [] (fun f vs => PySem.call f vs) :=
  Att.attach_call hn hdf fun w s0 s1 mg mb fa o pm cd doc a vs ns G Y ho hd hcd hmg hobj hints hlen hg => by
    have KX := hY w _ Y
    obtain ⟨fd, hb, hF⟩ := F w mg fa _ KX G.T.g hmg
    exact law_callG KX G.T.g G.T.b G.T.builtins G.T.nolimit hg hobj hints (Nat.le_trans hlen hn2) hr hF hb fun H hO hS => hsp w H a ns hlen hO hS
end VS
set_option Elab.async false
set_option linter.all false
set_option maxRecDepth 100000
set_option maxHeartbeats 1000000
/-! VS6: defs, calls, iteration, for, while. -/
namespace VS
open PySem PySem.Spec PyProof.Rows L2
abbrev Fn := List W → Store → Res W
/-- what a def promises: its denotation's outcome -/
def spF (K : Frg) (CA : Nat → Addr) (n : Nat) (φ : Fn) : Sp := fun vs H Q E => vs.length = n ∧ ∃ F al st ws, Rel K F al st H ∧ WRs K F al vs ws ∧
  Post K CA F al (φ ws st) (fun F' al' _ H' w => ∀ v, WR K F' al' v w → Q v H') (fun cls d H' => E cls d H')
def fin : Fl → Res W
  | .rt w st => .ok w st
  | .nx _ st => .ok (.d .none) st
  | .ex e _ st => .exn e st
  | _ => .bad
def ent (nN : Nat) (ws : List W) : Env := ws.map some ++ List.replicate (nN - ws.length) none
def fnD (nN : Nat) (body : Sd) : Fn := fun ws st => fin (body (ent nN ws) st)
theorem ent_rel {K : Frg} {F : Hp} {al : List Addr} {N : List Str} {vs : List V} {ws : List W} (h : WRs K F al vs ws) : EnvR K F al (L2.start N vs) (ent N.length ws) := by
  unfold L2.start ent
  rw [h.length]
  refine Paired.app ?_ ?_
  · induction h with
    | nil => exact .nil
    | cons r t ih => exact .cons (fun w e => by cases e; exact ⟨_, rfl, r⟩) ih
  · generalize N.length - ws.length = m
    induction m with
    | zero => exact .nil
    | succ m ih => exact .cons (fun w e => by cases e) ih
/-- the context of a def's body -/
abbrev defC (P : Program) (w : World) (K : Frg) (mg : Str → Option Value) (base : Heap) (CA : Nat → Addr) (N : List Str) (qual : Str) (sc : Scope) (f : Addr) (cdv : Value) (A : Around) (outer : List PySem.Env) (s : Shared) (H : Hp) (E : XK) : Cxt :=
  ⟨cxOf (L2.CX P w) P w K mg base N qual sc f cdv A outer s H E, CA, fun cls d _ H' => E cls d H'⟩
theorem defC_ok {P : Program} {w : World} {K : Frg} {mg : Str → Option Value} {base : Heap} {CA : Nat → Addr} {N ps : List Str} {qual : Str} {sc : Scope} {f : Addr} {cdv : Value} {A : Around} {outer : List PySem.Env} {s : Shared} {H : Hp} {E : XK} {k : Nat} (gd : A.guards = some [])
    (hr : Room k (A.deeper (envOfC qual sc s.heap.objs.size f cdv))) (S : FnScope N ps sc) : Cok (defC P w K mg base CA N qual sc f cdv A outer s H E) :=
  ⟨rfl, S.nd, hr.units, gd, takes_of rfl rfl rfl rfl, passes_of rfl⟩
section
variable {P : Program} {w : World} {K : Frg} {mg : Str → Option Value} {base : Heap}
theorem fn_ok {CA : Nat → Addr} {x qual : Str} {st : Stmt} {f : Addr} {fd : FuncData} {N ps : List Str} {k : Nat} {body : Sd} (F : Fun K x qual st f fd) (S : FnScope N ps (defScope st))
    (hb : ∀ (cdv : Value) (A : Around) (outer : List PySem.Env) (s : Shared) (H : Hp) (E : XK), A.guards = some [] → Room k (A.deeper (envOfC qual (defScope st) s.heap.objs.size f cdv)) → SSs (defC P w K mg base CA N qual (defScope st) f cdv A outer s H E) (defBody st) body) :
    FnG P w K mg base (k + 1) f fd ps (spF K CA ps.length (fnD N.length body)) := by
  refine fn_ofG F S (fun vs H Q E h => h.1) (fun cdv A outer s H vs Q E gd hr h => ⟨_, hb cdv A outer s H E gd hr, ?_⟩)
  obtain ⟨hl, F', al, st', ws, R, r, h⟩ := h
  refine ⟨F', al, ent N.length ws, st', R, ent_rel r, ?_⟩
  unfold fnD fin at h
  split at h
  · rename_i w' st1 e
    rw [e]
    exact fun F1 al1 H1 v x R1 rv => h F1 al1 H1 x R1 v rv
  · rename_i env st1 e
    rw [e]
    exact fun F1 al1 σ1 H1 x R1 _ => h F1 al1 H1 x R1 _ .non
  · rename_i er env st1 e
    rw [e]
    exact fun F1 al1 σ1 H1 cls d x R1 _ q => h F1 al1 H1 cls d x R1 q
  · exact h.elim
/-- what is known of a def of the module -/
def FnF (P : Program) (w : World) (K : Frg) (mg : Str → Option Value) (base : Heap) (CA : Nat → Addr) (x : Str) (k : Nat) (ps : List Str) (φ : Fn) : Prop :=
  ∃ f fd, FnG P w K mg base k f fd ps (spF K CA ps.length φ) ∧ mg x = some (.ref f) ∧ PySem.W.keepIn K (.ref f) = true ∧ Binds K fd ps []
end
/-! ### calls -/
def calR (φ : Fn) (a : Av) : Ev := fun env st => (a env st).bind fun ws st1 => φ ws st1
section
variable {C : Cxt} {x : Str} {k j : Nat} {ps : List Str} {φ : Fn} {e : Expr} {es : List Expr} {c : Av} {p pos : Pos}
theorem rd_call {ex : Store → Res W → Res W} (hx : ∀ {F : Hp} {al : List Addr} {st : Store} {H : Hp} {r : Res W} {Q : VK} {E : Value → Option Addr → Hp → Prop}, Rel C.X.K F al st H → Post C.X.K C.CA F al (ex st r) (fun F' al' _ H' w => ∀ v, WR C.X.K F' al' v w → Q v H') E → Post C.X.K C.CA F al r (fun F' al' _ H' w => ∀ v, WR C.X.K F' al' v w → Q v H') E)
    (ha : SA C es c) (hn : es.length = ps.length) : ∀ σ H Q, rdE C.X.K C.CA C.Wx (fun env st => (c env st).bind fun ws st1 => ex st1 (φ ws st1)) σ H Q → tCallS (spF C.X.K C.CA ps.length φ) (WE C.Wx) (rdA C.X.K C.CA C.Wx c) σ H Q := by
  rintro σ H Q ⟨F, al, env, st, R, E, h⟩
  refine ⟨F, al, env, st, R, E, h.stepE fun F1 al1 st1 H1 ws eq e1 R1 h1 vs rv => ?_⟩
  exact ⟨by rw [rv.length, ha.len _ _ _ _ eq]; exact hn, F1, al1, st1, ws, R1, rv, hx R1 h1⟩
theorem pe_callF (ck : Cok C) (hf : FnF C.X.prog C.X.w C.X.K C.X.mg C.X.base C.CA x k ps φ) (hr : Room j C.X.A) (hk : k ≤ j) (ha : SA C (e :: es) c) (hn : (e :: es).length = ps.length) (hg : Gl C.X x) (hdb : (x == ("__debug__" : Str)) = false) (he : starEach (e :: es) C.X.env = (false, eval e C.X.env) :: starEach es C.X.env) (hpl : (backTo pos (starEach es C.X.env)).any (·.1) = false) :
    PE C.X (.Call (.Name x p) (e :: es) [] pos) (tCallS (spF C.X.K C.CA ps.length φ) (WE C.Wx) (rdA C.X.K C.CA C.Wx c)) := by
  obtain ⟨f, fd, F, hm, kp, b⟩ := hf
  exact pe_callG F ck.gd (hr.mono hk) hg hm kp b (fun σ => passAt ck.tk σ) ha.pa hdb he hpl
theorem se_calR (ck : Cok C) (hf : FnF C.X.prog C.X.w C.X.K C.X.mg C.X.base C.CA x k ps φ) (hr : Room j C.X.A) (ha : SA C (e :: es) c) (hk : k ≤ j := by decide) (hn : (e :: es).length = ps.length := by rfl) (hg : Gl C.X x := by rfl) (hdb : (x == ("__debug__" : Str)) = false := by decide)
    (he : starEach (e :: es) C.X.env = (false, eval e C.X.env) :: starEach es C.X.env := by rfl) (hpl : (backTo pos (starEach es C.X.env)).any (·.1) = false := by rfl) : SE C (.Call (.Name x p) (e :: es) [] pos) (calR φ c) :=
  PE.imp (pe_callF ck hf hr hk ha hn hg hdb he hpl) (rd_call (ex := fun _ r => r) (fun _ h => h) ha hn)
end
/-! ### what a loop walks -/
/-- an item: a value, or a new tuple -/
inductive Itm where
  | w (x : W)
  | t (ws : List W)
structure Items where
  its : List Itm
  chk : List (Nat × Cell)
def Chk (chk : List (Nat × Cell)) (st : Store) : Prop := ∀ p ∈ chk, st[p.1]? = some p.2
abbrev Iv := Env → Store → Res Items
def IR (K : Frg) (F : Hp) (al : List Addr) (v : V) : Itm → Prop
  | .w x => WR K F al v x
  | .t ws => ∃ a vs, v = .ref a ∧ SqT K F a vs ∧ WRs K F al vs ws
def Good (K : Frg) (F0 : Hp) (al0 : List Addr) (I : Items) (J : It) : Prop := ∀ F al st H, Ext F0 al0 F al → Rel K F al st H → Chk I.chk st →
  (∀ i y, I.its[i]? = some y → J.go i H ∧ ∀ x H', J.yld i H x H' → ∃ F', Ext F al F' al ∧ Rel K F' al st H' ∧ IR K F' al x y) ∧ J.stop I.its.length H
def rdI (K : Frg) (CA : Nat → Addr) (Wx : WX) (c : Iv) : TI := fun σ H R => ∃ F al env st, Rel K F al st H ∧ EnvR K F al σ env ∧
  Post K CA F al (c env st) (fun F' al' st' H' I => ∀ J, Good K F' al' I J → R J H') (fun cls d H' => Wx cls d σ H')
def SI (C : Cxt) (tg iter : Expr) (c : Iv) : Prop := PI C.X tg iter (rdI C.X.K C.CA C.Wx c)
theorem PI.imp {X : Cx} {tg e : Expr} {t t' : TI} (h : PI X tg e t) (k : ∀ σ H R, t' σ H R → t σ H R) : PI X tg e t' :=
  ⟨fun pins s σ H R I q => h.run pins s σ H R I (k σ H R q)⟩
theorem PI.or {X : Cx} {tg e : Expr} {t t' : TI} (h : PI X tg e t) (h' : PI X tg e t') : PI X tg e (fun σ H R => t σ H R ∨ t' σ H R) :=
  ⟨fun pins s σ H R I q => q.elim (h.run pins s σ H R I) (h'.run pins s σ H R I)⟩
def itL (ws : List W) : List Itm := ws.map Itm.w
def iSeq (a : Ev) : Iv := fun env st => (a env st).bind fun w st1 => match w with
  | .d (.list ds) => .ok ⟨itL (ds.map W.d), []⟩ st1
  | .r ds => .ok ⟨itL (ds.map W.d), []⟩ st1
  | .d (.tuple ds) => .ok ⟨itL (ds.map W.d), []⟩ st1
  | .c n => match st1[n]? with
    | some (.lst ws) => .ok ⟨itL ws, [(n, .lst ws)]⟩ st1
    | some (.tup ws) => .ok ⟨itL ws, [(n, .tup ws)]⟩ st1
    | _ => .bad
  | _ => .bad
theorem itL_get {ws : List W} {i : Nat} {y : Itm} (h : (itL ws)[i]? = some y) : ∃ w, ws[i]? = some w ∧ y = .w w := by
  unfold itL at h
  rw [List.getElem?_map, Option.map_eq_some_iff] at h
  obtain ⟨w, h1, h2⟩ := h
  exact ⟨w, h1, h2.symm⟩
theorem good_list {K : Frg} {F0 : Hp} {al0 : List Addr} {ws : List W} {chk : List (Nat × Cell)} {a : Addr} (h : ∀ F al st H, Ext F0 al0 F al → Rel K F al st H → Chk chk st → ∃ vs, SqL K H a vs ∧ WRs K F al vs ws) : Good K F0 al0 ⟨itL ws, chk⟩ (Itl K a) := by
  intro F al st H x R ck
  obtain ⟨vs, q1, q2⟩ := h F al st H x R ck
  refine ⟨fun i y hy => ?_, vs, q1, by rw [q2.length]; exact Nat.le_of_eq (by simp [itL])⟩
  obtain ⟨w, hw, rfl⟩ := itL_get hy
  obtain ⟨v, h1, h2⟩ := Paired.getR q2 hw
  refine ⟨⟨vs, v, q1, h1⟩, fun z H' hz => ?_⟩
  obtain ⟨rfl, hz⟩ := hz
  have e := hz vs q1
  rw [h1] at e
  cases e
  exact ⟨F, Ext.refl, R, h2⟩
theorem good_tup {K : Frg} {F0 : Hp} {al0 : List Addr} {ws : List W} {chk : List (Nat × Cell)} {a : Addr} (h : ∀ F al st H, Ext F0 al0 F al → Rel K F al st H → Chk chk st → ∃ vs, SqT K H a vs ∧ WRs K F al vs ws) : Good K F0 al0 ⟨itL ws, chk⟩ (Itt K a) := by
  intro F al st H x R ck
  obtain ⟨vs, q1, q2⟩ := h F al st H x R ck
  refine ⟨fun i y hy => ?_, vs, q1, by rw [q2.length]; exact Nat.le_of_eq (by simp [itL])⟩
  obtain ⟨w, hw, rfl⟩ := itL_get hy
  obtain ⟨v, h1, h2⟩ := Paired.getR q2 hw
  refine ⟨⟨vs, v, q1, h1⟩, fun z H' hz => ?_⟩
  obtain ⟨rfl, hz⟩ := hz
  have e := hz vs q1
  rw [h1] at e
  cases e
  exact ⟨F, Ext.refl, R, h2⟩
section
variable {C : Cxt} {tg : Expr}
theorem si_seq {e : Expr} {c : Ev} (he : SE C e c) : SI C tg e (iSeq c) := PI.imp (PI.or (pi_list he) (pi_tup he)) fun σ H Rr => by
  rintro ⟨F, al, env, st, R, E, h⟩
  by_cases ht : ∃ w st1, c env st = .ok w st1 ∧ (itmT st1 w).isSome = true
  · obtain ⟨w0, st1, e1, e2⟩ := ht
    refine .inr ⟨F, al, env, st, R, E, h.stepE fun F1 al1 st1' H1 w eq x1 R1 h1 v rv => ?_⟩
    rw [e1] at eq
    cases eq
    unfold itmT at e2
    split at e2
    · cases rv with
      | tup q1 q2 =>
        refine ⟨_, rfl, ⟨_, Same.tupq R1.sub q1⟩, h1 _ _ _ Ext.refl R1 _ (good_tup fun F al st H x R _ => ⟨_, Same.tupq (fun b o e => R.sub _ _ (x.same _ _ e)) q1, WRs.mono x (WRs_of_DqAll q2)⟩)⟩
    · rename_i n
      split at e2
      · rename_i ws hn
        simp only [hn] at h1
        obtain ⟨a, ha, rfl⟩ := rv
        obtain ⟨_, vs, q1, q2⟩ := R1.cell _ _ _ ha hn
        refine ⟨_, rfl, ⟨_, SqT.of q1⟩, h1 _ _ _ Ext.refl R1 _ (good_tup fun F al st H x R ck => ?_)⟩
        obtain ⟨_, us, z1, z2⟩ := R.cell _ _ _ (x.get ha) (ck _ List.mem_cons_self)
        exact ⟨us, SqT.of z1, z2⟩
      · cases e2
    · cases e2
  · refine .inl ⟨F, al, env, st, R, E, h.stepE fun F1 al1 st1 H1 w eq x1 R1 h1 v rv => ?_⟩
    split at h1
    · cases rv with
      | lst q1 q2 => exact ⟨_, rfl, ⟨_, SqL.of (R1.sub _ _ q1)⟩, h1 _ _ _ Ext.refl R1 _ (good_list fun F al st H x R _ => ⟨_, SqL.of (R.sub _ _ (x.same _ _ q1)), WRs.mono x (WRs_of_DqAll q2)⟩)⟩
    · obtain ⟨a, vs, rfl, q1, q2⟩ := rv
      exact ⟨_, rfl, ⟨_, Same.seq R1.sub q1⟩, h1 _ _ _ Ext.refl R1 _ (good_list fun F al st H x R _ => ⟨_, Same.seq (fun b o e => R.sub _ _ (x.same _ _ e)) q1, WRs.mono x (WRs_of_DqAll q2)⟩)⟩
    · exact (ht ⟨_, _, eq, rfl⟩).elim
    · split at h1
      · rename_i n _ ws hn
        obtain ⟨a, ha, rfl⟩ := rv
        obtain ⟨_, vs, q1, q2⟩ := R1.cell _ _ _ ha hn
        refine ⟨_, rfl, ⟨_, SqL.of q1⟩, h1 _ _ _ Ext.refl R1 _ (good_list fun F al st H x R ck => ?_)⟩
        obtain ⟨_, us, z1, z2⟩ := R.cell _ _ _ (x.get ha) (ck _ List.mem_cons_self)
        exact ⟨us, SqL.of z1, z2⟩
      · rename_i n _ ws hn
        exact (ht ⟨_, _, eq, by simp only [itmT, hn]; rfl⟩).elim
      · exact h1.elim
    · exact h1.elim
/-! ranges -/
def rngI (lo : Int) (n : Nat) : List Itm := (List.range n).map fun (i : Nat) => Itm.w (.d (.int (lo + (i : Int))))
def iRg1 (a : Av) : Iv := fun env st => (a env st).bind fun ws st1 => match ws with
  | [.d (.int j)] => if -(2 ^ 62) ≤ j ∧ j < 2 ^ 62 then .ok ⟨rngI 0 j.toNat, []⟩ st1 else .bad
  | _ => .bad
theorem good_rng {K : Frg} {F0 : Hp} {al0 : List Addr} (lo : Int) (n : Nat) : Good K F0 al0 ⟨rngI lo n, []⟩ (Itr lo n) := by
  intro F al st H x R ck
  refine ⟨fun i y hy => ?_, by show n ≤ _; simp [rngI]⟩
  unfold rngI at hy
  rw [List.getElem?_map, Option.map_eq_some_iff] at hy
  obtain ⟨j, h1, rfl⟩ := hy
  have h2 := List.getElem?_eq_some_iff.mp h1
  obtain ⟨h3, h4⟩ := h2
  rw [List.getElem_range] at h4
  subst h4
  rw [List.length_range] at h3
  refine ⟨h3, fun z H' hz => ?_⟩
  obtain ⟨rfl, rfl⟩ := hz
  exact ⟨F, Ext.refl, R, .int _⟩
theorem si_rng1 {a : Expr} {c : Av} {p pos : Pos} (ha : SA C [a] c) (hm : C.X.mg "range" = none) (hg : Gl C.X "range" := by rfl) (hs : starEach [a] C.X.env = [(false, eval a C.X.env)] := by rfl) : SI C tg (.Call (.Name "range" p) [a] [] pos) (iRg1 c) := PI.imp (pi_range1 hg hm ha.pa hs) fun σ H Rr => by
  rintro ⟨F, al, env, st, R, E, h⟩
  refine ⟨F, al, env, st, R, E, h.stepE fun F1 al1 st1 H1 ws eq x1 R1 h1 vs rv => ?_⟩
  split at h1
  · split at h1
    · rename_i hk
      cases rv with
      | cons r1 t =>
        cases t
        cases r1
        exact ⟨_, rfl, hk.1, hk.2, h1 _ _ _ Ext.refl R1 _ (good_rng _ _)⟩
    · exact h1.elim
  · exact h1.elim
/-! enumerate -/
def enumI : Nat → List W → List Itm
  | _, [] => []
  | k, w :: ws => .t [.d (.int (k : Int)), w] :: enumI (k + 1) ws
def iEnu (a : Ev) : Iv := fun env st => (a env st).bind fun w st1 => match w with
  | .d (.list ds) => .ok ⟨enumI 0 (ds.map W.d), []⟩ st1
  | .r ds => .ok ⟨enumI 0 (ds.map W.d), []⟩ st1
  | .c n => match st1[n]? with
    | some (.lst ws) => .ok ⟨enumI 0 ws, [(n, .lst ws)]⟩ st1
    | _ => .bad
  | _ => .bad
theorem enumI_get : ∀ {ws : List W} {k i : Nat} {y : Itm}, (enumI k ws)[i]? = some y → ∃ w, ws[i]? = some w ∧ y = .t [.d (.int ((k + i : Nat) : Int)), w]
  | [], k, i, y, h => by simp [enumI] at h
  | w :: ws, k, 0, y, h => by
    simp [enumI] at h
    exact ⟨w, rfl, h.symm⟩
  | w :: ws, k, i + 1, y, h => by
    simp only [enumI, List.getElem?_cons_succ] at h
    obtain ⟨w', h1, h2⟩ := enumI_get h
    refine ⟨w', by simpa using h1, ?_⟩
    rw [h2]
    have : k + 1 + i = k + (i + 1) := by omega
    rw [this]
theorem enumI_len : ∀ (ws : List W) (k : Nat), (enumI k ws).length = ws.length
  | [], _ => rfl
  | w :: ws, k => by simp [enumI, enumI_len ws (k + 1)]
theorem good_enu {K : Frg} {F0 : Hp} {al0 : List Addr} {ws : List W} {chk : List (Nat × Cell)} {a : Addr} (h : ∀ F al st H, Ext F0 al0 F al → Rel K F al st H → Chk chk st → ∃ vs, SqL K H a vs ∧ WRs K F al vs ws) : Good K F0 al0 ⟨enumI 0 ws, chk⟩ (Ite K a) := by
  intro F al st H x R ck
  obtain ⟨vs, q1, q2⟩ := h F al st H x R ck
  refine ⟨fun i y hy => ?_, vs, q1, by rw [q2.length]; exact Nat.le_of_eq (by simp [enumI_len])⟩
  obtain ⟨w, hw, rfl⟩ := enumI_get hy
  obtain ⟨v, h1, h2⟩ := Paired.getR q2 hw
  refine ⟨⟨vs, v, q1, h1⟩, fun z H' hz => ?_⟩
  obtain ⟨T, y, rfl, hT, rfl, hz⟩ := hz
  have e := hz vs q1
  rw [h1] at e
  cases e
  obtain ⟨x2, R2⟩ := R.newD hT (.tup [.int (i : Nat), v])
  refine ⟨_, x2, R2, T, _, rfl, SqT.of upd_same, .cons ?_ (.cons (h2.mono x2) .nil)⟩
  rw [Nat.zero_add]
  exact .int _
theorem si_enu {e : Expr} {c : Ev} {p pos tpos : Pos} {elts : List Expr} {kk : Nat} (he : SE C e c) (hm : C.X.mg "enumerate" = none) (hg : Gl C.X "enumerate" := by rfl) (hs : starEach [e] C.X.env = [(false, eval e C.X.env)] := by rfl) (hs1 : starEach (e :: []) C.X.env = (false, eval e C.X.env) :: starEach [] C.X.env := by rfl) :
    SI C (.Tuple elts kk tpos) (.Call (.Name "enumerate" p) [e] [] pos) (iEnu c) := PI.imp (pi_enum hg hm (pa_cons he pa_nil hs1) hs) fun σ H Rr => by
  rintro ⟨F, al, env, st, R, E, h⟩
  refine ⟨F, al, env, st, R, E, h.stepE fun F1 al1 st1 H1 w eq x1 R1 h1 v rv => ?_⟩
  split at h1
  · cases rv with
    | lst q1 q2 => exact ⟨_, _, rfl, SqL.of (R1.sub _ _ q1), h1 _ _ _ Ext.refl R1 _ (good_enu fun F al st H x R _ => ⟨_, SqL.of (R.sub _ _ (x.same _ _ q1)), WRs.mono x (WRs_of_DqAll q2)⟩)⟩
  · obtain ⟨a, vs, rfl, q1, q2⟩ := rv
    exact ⟨_, _, rfl, Same.seq R1.sub q1, h1 _ _ _ Ext.refl R1 _ (good_enu fun F al st H x R _ => ⟨_, Same.seq (fun b o e => R.sub _ _ (x.same _ _ e)) q1, WRs.mono x (WRs_of_DqAll q2)⟩)⟩
  · split at h1
    · rename_i n _ ws hn
      obtain ⟨a, ha, rfl⟩ := rv
      obtain ⟨_, vs, q1, q2⟩ := R1.cell _ _ _ ha hn
      refine ⟨_, _, rfl, SqL.of q1, h1 _ _ _ Ext.refl R1 _ (good_enu fun F al st H x R ck => ?_)⟩
      obtain ⟨_, us, z1, z2⟩ := R.cell _ _ _ (x.get ha) (ck _ List.mem_cons_self)
      exact ⟨us, SqL.of z1, z2⟩
    · exact h1.elim
  · exact h1.elim
end
/-! ### targets of loops -/
abbrev Ti := Itm → Env → Store → Option (Env × Store)
def rdGI (K : Frg) (g : Ti) : TG := fun v σ H Q => ∃ F al env st y, Rel K F al st H ∧ EnvR K F al σ env ∧ IR K F al v y ∧ GPost K F al (g y env st) Q
def SGI (C : Cxt) (e : Expr) (g : Ti) : Prop := PG C.X e (rdGI C.X.K g)
def tiW (g : Tg) : Ti := fun y env st => match y with
  | .w x => g x env st
  | .t ws => match allD ws with
    | some ds => g (.d (.tuple ds)) env st
    | none => none
def tiT (n : Nat) (g : Tgs) : Ti := fun y env st => match y with
  | .w x => gT n g x env st
  | .t ws => if ws.length = n then g ws env st else none
section
variable {C : Cxt}
theorem sgi_w {e : Expr} {g : Tg} (h : SG C e g) : SGI C e (tiW g) := PG.imp h fun v σ H Q => by
  rintro ⟨F, al, env, st, y, R, E, r, q⟩
  cases y with
  | w x => exact ⟨F, al, env, st, x, R, E, r, q⟩
  | t ws =>
    unfold tiW at q
    simp only at q
    split at q
    · rename_i ds e
      obtain ⟨a, vs, rfl, h1, h2⟩ := r
      exact ⟨F, al, env, st, .d (.tuple ds), R, E, Dq.tup h1 (allD_rel h2 e), q⟩
    · exact q.elim
theorem sgi_tup {es : List Expr} {k : Nat} {g : Tgs} {n : Nat} {pos : Pos} (hc : C.X.calm = true) (h : SGs C es g) (hn : (assignEach es C.X.env).length = n := by rfl) (hst : (assignEach es C.X.env).findIdx? (·.1) = none := by rfl) : SGI C (.Tuple es k pos) (tiT n g) :=
  PG.imp (pg_tup hc h hn hst) fun v σ H Q => by
    rintro ⟨F, al, env, st, y, R, E, r, q⟩
    cases y with
    | w x =>
      have q' : GPost C.X.K F al (gT n g x env st) Q := q
      unfold gT at q'
      split at q'
      · rename_i ws e1
        split at q'
        · rename_i hl
          obtain ⟨a, vs, rfl, s1, q1⟩ := itmT_rel R r e1
          exact ⟨a, vs, rfl, s1, by rw [q1.length]; exact hl, F, al, env, st, ws, R, E, q1, q'⟩
        · exact q'.elim
      · exact q'.elim
    | t ws =>
      unfold tiT at q
      simp only at q
      split at q
      · rename_i hl
        obtain ⟨a, vs, rfl, h1, h2⟩ := r
        exact ⟨a, vs, rfl, Same.tupq R.sub h1, by rw [h2.length]; exact hl, F, al, env, st, ws, R, E, h2, q⟩
      · exact q.elim
end
/-! ### for -/
open Classical in
noncomputable def forL (g : Ti) (b : Sd) (chk : List (Nat × Cell)) : List Itm → Sd
  | [], env, st => if Chk chk st then .nx env st else .bad
  | y :: ys, env, st => if Chk chk st then (match g y env st with
    | some (env1, st1) => match b env1 st1 with
      | .nx env2 st2 => forL g b chk ys env2 st2
      | .ct env2 st2 => forL g b chk ys env2 st2
      | .bk env2 st2 => .nx env2 st2
      | r => r
    | none => .bad) else .bad
noncomputable def forS (c : Iv) (g : Ti) (b : Sd) : Sd := fun env st => (c env st).fl env fun I st1 => forL g b I.chk I.its env st1
section
variable {C : Cxt}
theorem ss_for {tg iter : Expr} {body : List Stmt} {c : Iv} {g : Ti} {b : Sd} {pos : Pos} (ck : Cok C) (hi : SI C tg iter c) (hg : SGI C tg g) (hb : SSs C body b) (hs : ∀ x, foldedSetIterable iter C.X.env x = pure x := by intro _; rfl) : SS C (.For tg iter body [] pos) (forS c g b) :=
  PS.imp (ps_for ck.po ck.calm hi hg hb hs) fun D σ H => by
  rintro ⟨F, al, env, st, R, E, h⟩
  refine ⟨F, al, env, st, R, E, FPost.step E h fun F0 al0 st0 H0 I eq x0 R0 E0 h0 => ?_⟩
  refine fun J hJ => ?_
  refine ⟨fun i m σ H => i ≤ I.its.length ∧ m = I.its.length - i ∧ ∃ F al env st, Ext F0 al0 F al ∧ Rel C.X.K F al st H ∧ EnvR C.X.K F al σ env ∧ FPost C.X.K C.CA F al (forL g b I.chk (I.its.drop i) env st) D C.Wx,
    ⟨_, Nat.zero_le _, rfl, F0, al0, env, st0, Ext.refl, R0, E0, h0⟩, ?_⟩
  rintro i m σ H ⟨hi, rfl, F, al, env, st, x, R, E, h⟩
  by_cases hlt : i < I.its.length
  · rw [List.drop_eq_getElem_cons hlt] at h
    unfold forL at h
    split at h
    · rename_i hck
      obtain ⟨q1, q2⟩ := hJ F al st H x R hck
      obtain ⟨hgo, hy⟩ := q1 i I.its[i] (List.getElem?_eq_some_iff.mpr ⟨hlt, rfl⟩)
      refine .inr ⟨hgo, fun σ' H' => (i + 1) ≤ I.its.length ∧ ∃ F al env st, Ext F0 al0 F al ∧ Rel C.X.K F al st H' ∧ EnvR C.X.K F al σ' env ∧ FPost C.X.K C.CA F al (forL g b I.chk (I.its.drop (i + 1)) env st) D C.Wx,
        fun σ' H' hN => ⟨I.its.length - (i + 1), by omega, hN.1, rfl, hN.2⟩, fun z H' hz => ?_⟩
      obtain ⟨F2, x2, R2, r2⟩ := hy z H' hz
      refine ⟨F2, al, env, st, I.its[i], R2, E.mono x2, r2, ?_⟩
      split at h
      · rename_i env1 st1 e1
        rw [e1]
        intro F3 al3 σ3 H3 x3 R3 E3
        refine ⟨F3, al3, env1, st1, R3, E3, ?_⟩
        have xx := x.trans (x2.trans x3)
        have h3 := h.at (x2.trans x3)
        split at h3
        · rename_i env2 st2 e2
          rw [e2]
          exact fun F4 al4 σ4 H4 x4 R4 E4 => ⟨hlt, F4, al4, env2, st2, xx.trans x4, R4, E4, h3.at x4⟩
        · rename_i env2 st2 e2
          rw [e2]
          exact fun F4 al4 σ4 H4 x4 R4 E4 => ⟨hlt, F4, al4, env2, st2, xx.trans x4, R4, E4, h3.at x4⟩
        · rename_i env2 st2 e2
          rw [e2]
          exact h3
        · rename_i r n1 n2 n3
          revert h3 n1 n2 n3
          cases b env1 st1 with
          | nx e s => exact fun n1 _ _ _ => (n1 _ _ rfl).elim
          | ct e s => exact fun _ n2 _ _ => (n2 _ _ rfl).elim
          | bk e s => exact fun _ _ n3 _ => (n3 _ _ rfl).elim
          | rt w s => exact fun _ _ _ h3 => h3
          | ex er e s => exact fun _ _ _ h3 => h3
          | bad => exact fun _ _ _ h3 => h3
      · exact h.elim
    · exact h.elim
  · have e : i = I.its.length := by omega
    subst e
    rw [List.drop_length] at h
    unfold forL at h
    split at h
    · rename_i hck
      obtain ⟨q1, q2⟩ := hJ F al st H x R hck
      exact .inl ⟨q2, h _ _ _ _ Ext.refl R E⟩
    · exact h.elim
/-! ### while -/
end
end VS
set_option Elab.async false
set_option linter.all false
set_option maxRecDepth 100000
set_option maxHeartbeats 1000000
/-! VS7: comprehensions. -/
namespace VS
open PySem PySem.Spec PyProof.Rows L2
/-! ### targets, with the slots that they store -/
def Agr (js : List Nat) (σ σ' : L2.St) : Prop := σ'.length = σ.length ∧ ∀ i, i ∉ js → σ'[i]? = σ[i]?
theorem Agr.refl {js : List Nat} {σ : L2.St} : Agr js σ σ := ⟨rfl, fun _ _ => rfl⟩
theorem Agr.trans {js : List Nat} {σ σ1 σ2 : L2.St} (a : Agr js σ σ1) (b : Agr js σ1 σ2) : Agr js σ σ2 := ⟨b.1.trans a.1, fun i h => (b.2 i h).trans (a.2 i h)⟩
theorem Agr.mono {js ks : List Nat} {σ σ' : L2.St} (a : Agr js σ σ') (h : ∀ i ∈ js, i ∈ ks) : Agr ks σ σ' := ⟨a.1, fun i q => a.2 i fun z => q (h i z)⟩
theorem wipe_get (σ : L2.St) : ∀ (vs : List Nat) (i : Nat), (wipe σ vs)[i]? = if i ∈ vs then (σ[i]?).map fun _ => none else σ[i]?
  | [], i => by simp [wipe]
  | v :: vs, i => by
    unfold wipe
    by_cases h : v = i
    · subst h
      rw [if_pos List.mem_cons_self]
      by_cases hv : v < σ.length
      · rw [List.getElem?_set_self (by rw [wipe_length]; exact hv)]
        rw [List.getElem?_eq_getElem hv]
        rfl
      · rw [List.getElem?_eq_none (by rw [List.length_set, wipe_length]; omega), List.getElem?_eq_none (by omega)]
        rfl
    · rw [List.getElem?_set_ne h, wipe_get σ vs i]
      have e : (i ∈ v :: vs) ↔ (i ∈ vs) := by
        rw [List.mem_cons]
        exact ⟨fun z => z.elim (fun z => absurd z.symm h) id, .inr⟩
      by_cases hi : i ∈ vs
      · rw [if_pos hi, if_pos (e.mpr hi)]
      · rw [if_neg hi, if_neg (fun z => hi (e.mp z))]
theorem wipe_agr {js : List Nat} {σ σ' : L2.St} (a : Agr js σ σ') : wipe σ' js = wipe σ js := by
  apply List.ext_getElem?
  intro i
  rw [wipe_get, wipe_get]
  by_cases h : i ∈ js
  · rw [if_pos h, if_pos h]
    have e : σ'[i]?.isSome = σ[i]?.isSome := by
      by_cases hl : i < σ.length
      · rw [List.getElem?_eq_getElem hl, List.getElem?_eq_getElem (by rw [a.1]; exact hl)]
        rfl
      · have hl' := a.1
        rw [List.getElem?_eq_none (by omega), List.getElem?_eq_none (by omega)]
    cases h1 : σ'[i]? <;> cases h2 : σ[i]? <;> rw [h1, h2] at e <;> first | rfl | cases e
  · rw [if_neg h, if_neg h, a.2 i h]
theorem wipe_wipe {js : List Nat} {σ : L2.St} : wipe (wipe σ js) js = wipe σ js := by
  apply List.ext_getElem?
  intro i
  rw [wipe_get, wipe_get]
  by_cases h : i ∈ js
  · rw [if_pos h, if_pos h, ]
    cases σ[i]? <;> rfl
  · rw [if_neg h, if_neg h]
def wipeE (env : Env) : List Nat → Env
  | [] => env
  | v :: vs => (wipeE env vs).set v none
theorem wipe_rel {K : Frg} {F : Hp} {al : List Addr} {σ : L2.St} {env : Env} (E : EnvR K F al σ env) : ∀ vs : List Nat, EnvR K F al (wipe σ vs) (wipeE env vs)
  | [] => E
  | v :: vs => Paired.setB (fun w e => by cases e) v (wipe_rel E vs)
def CPost (K : Frg) (F : Hp) (al : List Addr) (r : Option (Env × Store)) (js : List Nat) (σ : L2.St) (Q : L2.St → Hp → Prop) : Prop := match r with
  | some (env, st) => ∀ F' al' σ' H', Ext F al F' al' → Rel K F' al' st H' → EnvR K F' al' σ' env → Agr js σ σ' → Q σ' H'
  | none => False
theorem CPost.at {K : Frg} {F F' : Hp} {al al' : List Addr} {r : Option (Env × Store)} {js : List Nat} {σ : L2.St} {Q : L2.St → Hp → Prop} (h : CPost K F al r js σ Q) (e : Ext F al F' al') : CPost K F' al' r js σ Q := by
  cases r with
  | none => exact h
  | some p =>
    obtain ⟨env, st⟩ := p
    exact fun F2 al2 σ H x => h F2 al2 σ H (e.trans x)
def rdC (K : Frg) (g : Ti) (js : List Nat) : TG := fun v σ H Q => ∃ F al env st y, Rel K F al st H ∧ EnvR K F al σ env ∧ IR K F al v y ∧ CPost K F al (g y env st) js σ Q
def SGC (X : Cx) (e : Expr) (g : Ti) (js : List Nat) : Prop := PG X e (rdC X.K g js)
section
variable {X : Cx}
theorem agr_set {σ : L2.St} {i : Nat} {v : Option V} : Agr [i] σ (σ.set i v) := ⟨List.length_set, fun j h => List.getElem?_set_ne (fun e => h (by rw [e]; exact List.mem_singleton_self _))⟩
theorem sgc_name (nd : X.N.Nodup) (i : Nat) {x : Str} {pos : Pos} (hi : X.N[i]? = some x := by rfl) (hx : Loc X.env.scope x := by first | exact Or.inl rfl | exact Or.inr rfl) (hf : X.fn x = true ∨ X.env.scope.names.lookup x = some .local := by first | exact .inl rfl | exact .inr rfl) : SGC X (.Name x pos) (tiW (gN i)) [i] :=
  PG.imp (pg_name nd hi hx hf) fun v σ H Q => by
    rintro ⟨F, al, env, st, y, R, E, r, h⟩
    cases y with
    | w x => exact h _ _ _ _ Ext.refl R (E.set r i) agr_set
    | t ws =>
      unfold tiW at h
      simp only at h
      split at h
      · rename_i ds e
        obtain ⟨a, vs, rfl, h1, h2⟩ := r
        exact h _ _ _ _ Ext.refl R (E.set (w := .d (.tuple ds)) (Dq.tup h1 (allD_rel h2 e)) i) agr_set
      · exact h.elim
end
/-! ### the loop of a comprehension: n is the new list's cell -/
open Classical in
noncomputable def lcL (g : Ti) (t : Tst) (e : Ev) (chk : List (Nat × Cell)) (n : Nat) (env : Env) : List Itm → Store → Res W
  | [], st => if Chk chk st then .ok (.c n) st else .bad
  | y :: ys, st => if Chk chk st then (match g y env st with
    | some (env1, st1) => match t env1 st1 with
      | .ok true st2 => match e env1 st2 with
        | .ok w st3 => match st3[n]? with
          | some (.lst acc) => if acc.length < sizeLine then lcL g t e chk n env ys (st3.set n (.lst (acc ++ [w]))) else .bad
          | _ => .bad
        | _ => .bad
      | .ok false st2 => lcL g t e chk n env ys st2
      | _ => .bad
    | none => .bad) else .bad
noncomputable def lcB (I : Iv) (g : Ti) (t : Tst) (e : Ev) (vs : List Nat) (ex : Store → Res W → Res W) : Ev := fun env st => (I env st).bind fun I st1 => ex st1 (lcL g t e I.chk st1.length (wipeE env vs) I.its (st1 ++ [.lst []]))
def tYesD : Tst := fun _ st => .ok true st
/-- a block's context -/
abbrev Cxt.blk (C : Cxt) (s : Shared) (H : Hp) (scope : Scope) (cl : List (Str × Addr)) (L : Addr) (fp : List Addr) : Cxt :=
  ⟨C.X.blk s H scope (compEnvC scope cl L C.X.env) fp, C.CA, fun _ _ _ _ => False⟩
theorem blk_ok {C : Cxt} (ck : Cok C) {s : Shared} {H : Hp} {scope : Scope} {cl : List (Str × Addr)} {L : Addr} {fp : List Addr} : Cok (C.blk s H scope cl L fp) := ⟨ck.calm, ck.nd, ck.hu, ck.gd, takes0, PassesOwn.never⟩
def STs (C : Cxt) (es : List Expr) (c : Tst) : Prop := PTs C.X es (rdT C.X.K C.CA C.Wx c)
section
variable {C : Cxt}
theorem sts_nil : STs C [] tYesD := by
  refine ⟨fun pins s σ H Q I h => pts_nil.run pins s σ H Q I ?_⟩
  obtain ⟨F, al, env, st, R, E, h⟩ := h
  exact h _ _ _ Ext.refl R
theorem rd_lc {I : Iv} {g : Ti} {t : Tst} {e : Ev} {vs js : List Nat} {ex : Store → Res W → Res W} (hjs : ∀ i ∈ js, i ∈ vs)
    (hx : ∀ {F : Hp} {al : List Addr} {st : Store} {H : Hp} {r : Res W} {Q : VK} {E : Value → Option Addr → Hp → Prop}, Rel C.X.K F al st H → Post C.X.K C.CA F al (ex st r) (fun F' al' _ H' w => ∀ v, WR C.X.K F' al' v w → Q v H') E → Post C.X.K C.CA F al r (fun F' al' _ H' w => ∀ v, WR C.X.K F' al' v w → Q v H') E) :
    ∀ σ H Q, rdE C.X.K C.CA C.Wx (lcB I g t e vs ex) σ H Q → tLc (rdI C.X.K C.CA C.Wx I) (rdC C.X.K g js) (rdT C.X.K C.CA (fun _ _ _ _ => False) t) (rdE C.X.K C.CA (fun _ _ _ _ => False) e) vs σ H Q := by
  rintro σ H Q ⟨F, al, env, st, R, E, h⟩
  refine ⟨F, al, env, st, R, E, h.stepE fun F0 al0 st0 H0 Its eq x0 R0 h0 => ?_⟩
  have h1 := hx R0 h0
  intro J hJ D hD
  obtain ⟨xD, RD⟩ := R0.newC hD (o := .lst []) (c := .lst []) ⟨R0.freeF hD, [], upd_same, .nil⟩
  have hn0 : (al0 ++ [D])[st0.length]? = some D := by rw [← R0.len]; simp
  refine ⟨fun i m H => i ≤ Its.its.length ∧ m = Its.its.length - i ∧ ∃ F al st, Ext F0 (al0 ++ [D]) F al ∧ Rel C.X.K F al st H ∧
      Post C.X.K C.CA F al (lcL g t e Its.chk st0.length (wipeE env vs) (Its.its.drop i) st) (fun F' al' _ H' w => ∀ v, WR C.X.K F' al' v w → Q v H') (fun cls d H' => C.Wx cls d σ H'),
    ⟨_, Nat.zero_le _, rfl, F0, al0 ++ [D], _, Ext.refl, RD, h1.at xD⟩, ?_⟩
  rintro i m H ⟨hi, rfl, F1, al1, st1, x1, R1, h2⟩
  have E1 : EnvR C.X.K F1 al1 (wipe σ vs) (wipeE env vs) := EnvR.mono (x0.trans (xD.trans x1)) (wipe_rel E vs)
  by_cases hlt : i < Its.its.length
  · rw [List.drop_eq_getElem_cons hlt] at h2
    unfold lcL at h2
    split at h2
    · rename_i hck
      obtain ⟨q1, q2⟩ := hJ F1 al1 st1 H (xD.trans x1) R1 hck
      obtain ⟨hgo, hy⟩ := q1 i Its.its[i] (List.getElem?_eq_some_iff.mpr ⟨hlt, rfl⟩)
      refine .inr ⟨hgo, fun H' => (i + 1) ≤ Its.its.length ∧ ∃ F al st, Ext F0 (al0 ++ [D]) F al ∧ Rel C.X.K F al st H' ∧
          Post C.X.K C.CA F al (lcL g t e Its.chk st0.length (wipeE env vs) (Its.its.drop (i + 1)) st) (fun F' al' _ H' w => ∀ v, WR C.X.K F' al' v w → Q v H') (fun cls d H' => C.Wx cls d σ H'),
        fun H' hN => ⟨Its.its.length - (i + 1), by omega, hN.1, rfl, hN.2⟩, fun z H' hz => ?_⟩
      obtain ⟨F2, x2, R2, r2⟩ := hy z H' hz
      refine ⟨F2, al1, wipeE env vs, st1, Its.its[i], R2, E1.mono x2, r2, ?_⟩
      split at h2
      · rename_i env1 st2 e1
        rw [e1]
        intro F3 al3 σ3 H3 x3 R3 E3 ag
        refine ⟨by rw [wipe_agr (ag.mono hjs), wipe_wipe], F3, al3, env1, st2, R3, E3, ?_⟩
        have xx := x1.trans (x2.trans x3)
        have h3 := h2.at (x2.trans x3)
        split at h3
        · rename_i st3 e2
          rw [e2]
          intro F4 al4 H4 x4 R4
          refine iteT ⟨F4, al4, env1, st3, R4, E3.mono x4, ?_⟩
          have h4 := h3.at x4
          split at h4
          · rename_i w st4 e3
            rw [e3]
            intro F5 al5 H5 x5 R5 v rv
            have h5 := h4.at x5
            have hn := (xx.trans (x4.trans x5)).get hn0
            split at h5
            · rename_i acc e4
              split at h5
              · rename_i hlen
                obtain ⟨q, us, q3, q4⟩ := R5.cell _ _ _ hn e4
                refine ⟨us, q3, by rw [q4.length]; exact hlen, hlt, F5, al5, _, xx.trans (x4.trans x5), R5.setC (c := .lst (acc ++ [w])) hn q ⟨q, _, upd_same, Paired.app q4 (.cons rv .nil)⟩, h5⟩
              · exact h5.elim
            · exact h5.elim
          · exact h4.elim
        · rename_i st3 e2
          rw [e2]
          intro F4 al4 H4 x4 R4
          exact iteF ⟨hlt, F4, al4, st3, xx.trans x4, R4, h3.at x4⟩
        · exact h3.elim
      · exact h2.elim
    · exact h2.elim
  · have e : i = Its.its.length := by omega
    subst e
    rw [List.drop_length] at h2
    unfold lcL at h2
    split at h2
    · rename_i hck
      obtain ⟨q1, q2⟩ := hJ F1 al1 st1 H (xD.trans x1) R1 hck
      exact .inl ⟨q2, h2 _ _ _ Ext.refl R1 _ ⟨D, x1.get hn0, rfl⟩⟩
    · exact h2.elim
/-- what the block of a comprehension shows -/
abbrev BlkG (C : Cxt) (scope : Scope) (tg : Expr) (g : Ti) (js : List Nat) : Prop := ∀ (s : Shared) (H : Hp) (L : Addr) (cl : List (Str × Addr)) (fp : List Addr), SGC (C.X.blk s H scope (compEnvC scope cl L C.X.env) fp) tg g js
abbrev BlkT (C : Cxt) (scope : Scope) (es : List Expr) (t : Tst) : Prop := ∀ (s : Shared) (H : Hp) (L : Addr) (cl : List (Str × Addr)) (fp : List Addr), STs (C.blk s H scope cl L fp) es t
abbrev BlkE (C : Cxt) (scope : Scope) (x : Expr) (e : Ev) : Prop := ∀ (s : Shared) (H : Hp) (L : Addr) (cl : List (Str × Addr)) (fp : List Addr), SE (C.blk s H scope cl L fp) x e
end
end VS
set_option Elab.async false
set_option linter.all false
set_option maxRecDepth 100000
set_option maxHeartbeats 1000000
/-! VS8: built-in functions and methods. -/
namespace VS
open PySem PySem.Spec PyProof.Rows L2
section
variable {C : Cxt}
abbrev Fb := List W → Store → Res W
def ByN (C : Cxt) (f : Fb) (r : List V → Hp → VK → Prop) : Prop := ∀ (F : Hp) (al : List Addr) (st : Store) (H : Hp) (vs : List V) (ws : List W) (Q : VK), Rel C.X.K F al st H → WRs C.X.K F al vs ws →
  Post C.X.K C.CA F al (f ws st) (fun F' al' _ H' w => ∀ v, WR C.X.K F' al' v w → Q v H') (fun _ _ _ => True) → r vs H Q
def bcall (f : Fb) (a : Av) : Ev := fun env st => (a env st).bind fun ws st1 => f ws st1
theorem rd_bcall {f : Fb} {r : List V → Hp → VK → Prop} {es : List Expr} {c : Av} (hb : ByN C f r) : ∀ σ H Q, rdE C.X.K C.CA C.Wx (bcall f c) σ H Q → tCB r (rdA C.X.K C.CA C.Wx c) σ H Q := by
  rintro σ H Q ⟨F, al, env, st, R, E, h⟩
  exact ⟨F, al, env, st, R, E, h.step fun F1 al1 st1 H1 ws e1 R1 h1 vs rv => hb F1 al1 st1 H1 vs ws Q R1 rv (h1.imp (fun _ _ _ _ _ _ _ q => q) fun _ _ _ _ => trivial)⟩
theorem se_callB {x : Str} {id : String} {r : List V → Hp → VK → Prop} {f : Fb} {e : Expr} {es : List Expr} {c : Av} {p pos : Pos} (hc : CallR C.X (.builtin id) r) (hb : ByN C f r) (ha : SA C (e :: es) c) (hm : C.X.mg x = none) (hv : bootBuiltins x = some (.builtin id) := by decide +kernel) (hg : Gl C.X x := by rfl) (hn : x ≠ "__name__" := by decide) (hdb : (x == ("__debug__" : Str)) = false := by decide)
    (he : starEach (e :: es) C.X.env = (false, eval e C.X.env) :: starEach es C.X.env := by rfl) (hpl : (backTo pos (starEach es C.X.env)).any (·.1) = false := by rfl) : SE C (.Call (.Name x p) (e :: es) [] pos) (bcall f c) :=
  PE.imp (pe_callB hc hg hm hv ha.pa hn hdb he hpl) (rd_bcall (es := e :: es) hb)
theorem se_callTy {x : Str} {T : String} {r : List V → Hp → VK → Prop} {f : Fb} {e : Expr} {es : List Expr} {c : Av} {p pos : Pos} (hc : CallR C.X (.type T) r) (hb : ByN C f r) (ha : SA C (e :: es) c) (hm : C.X.mg x = none) (hv : bootBuiltins x = some (.type T) := by decide +kernel) (hg : Gl C.X x := by rfl) (hn : x ≠ "__name__" := by decide) (hdb : (x == ("__debug__" : Str)) = false := by decide)
    (he : starEach (e :: es) C.X.env = (false, eval e C.X.env) :: starEach es C.X.env := by rfl) (hpl : (backTo pos (starEach es C.X.env)).any (·.1) = false := by rfl) : SE C (.Call (.Name x p) (e :: es) [] pos) (bcall f c) :=
  PE.imp (pe_callTy hc hg hm hv ha.pa hn hdb he hpl) (rd_bcall (es := e :: es) hb)
/-! ### len -/
def lenW (st : Store) : W → Option Nat
  | .d (.list ds) => some ds.length
  | .d (.tuple ds) => some ds.length
  | .r ds => some ds.length
  | .d (.str x) => if x.length ≤ sizeLine then some x.length else none
  | .c n => match st[n]? with
    | some (.lst ws) => some ws.length
    | some (.dct ws) => some ws.length
    | some (.tup ws) => some ws.length
    | _ => none
  | _ => none
def fLen : Fb := fun ws st => match ws with
  | [w] => match lenW st w with
    | some n => .ok (.d (.int (n : Int))) st
    | none => .bad
  | _ => .bad
def rLenA (K : Frg) : List V → Hp → VK → Prop := fun xs H Q => (∃ x n, xs = [x] ∧ LenV K x H n ∧ Q (.int (n : Nat)) H) ∨ ∃ a kvs, xs = [.ref a] ∧ H a = some (.dK kvs) ∧ Q (.int kvs.length) H
theorem lenR : CallR C.X (.builtin "len") (rLenA C.X.K) := by
  intro pins s σ H xs us Q I r h
  rcases h with h | ⟨a, kvs, rfl, e, q⟩
  · exact call_len pins s σ H xs us Q I r h
  · rw [Vals.ref1 r]
    exact d_len I (.inl e) fun t s' I' => ⟨.int _, H, I', ⟨_, rfl⟩, q⟩
theorem lenW_rel {K : Frg} {F : Hp} {al : List Addr} {st : Store} {H : Hp} (R : Rel K F al st H) {v : V} {w : W} {n : Nat} (r : WR K F al v w) (h : lenW st w = some n) : (LenV K v H n) ∨ ∃ a us, v = .ref a ∧ H a = some (.dK us) ∧ us.length = n := by
  unfold lenW at h
  split at h
  · cases h
    cases r with
    | lst h1 h2 => exact .inl (.inl ⟨_, SqL.of (R.sub _ _ h1), h2.length.symm⟩)
  · cases h
    cases r with
    | tup h1 h2 => exact .inl (.inr ⟨_, Same.tupq R.sub h1, h2.length.symm⟩)
  · cases h
    obtain ⟨a, vs, rfl, h2, h3⟩ := r
    exact .inl (.inl ⟨_, Same.seq R.sub h2, h3.length.symm⟩)
  · cases r
    split at h
    · rename_i hk
      cases h
      exact .inl ⟨hk, rfl⟩
    · cases h
  · split at h
    · rename_i hn
      cases h
      obtain ⟨a, h1, rfl⟩ := r
      obtain ⟨_, vs, h3, h4⟩ := R.cell _ _ _ h1 hn
      exact .inl (.inl ⟨_, SqL.of h3, (WRs.length h4).symm⟩)
    · rename_i hn
      cases h
      obtain ⟨a, us, rfl, _, _, h4, h5⟩ := dct_get R r hn
      exact .inr ⟨a, us, rfl, h4, Paired.length h5⟩
    · rename_i hn
      cases h
      obtain ⟨a, h1, rfl⟩ := r
      obtain ⟨_, vs, h3, h4⟩ := R.cell _ _ _ h1 hn
      exact .inl (.inr ⟨_, SqT.of h3, (WRs.length h4).symm⟩)
    · cases h
  · cases h
theorem by_len : ByN C fLen (rLenA C.X.K) := by
  intro F al st H vs ws Q R r h
  unfold fLen at h
  split at h
  · cases r with
    | cons r t =>
      cases t
      split at h
      · rename_i n hn
        rcases lenW_rel R r hn with q | ⟨a, us, rfl, q1, q2⟩
        · exact .inl ⟨_, _, rfl, q, h _ _ _ Ext.refl R _ (.int _)⟩
        · refine .inr ⟨a, us, rfl, q1, ?_⟩
          rw [q2]
          exact h _ _ _ Ext.refl R _ (.int _)
      · exact h.elim
  · exact h.elim
/-! ### functions of whole numbers -/
def fAbs : Fb := fun ws st => match ws with
  | [.d (.int i)] => .ok (.d (.int (if i < 0 then -i else i))) st
  | _ => .bad
theorem by_abs : ByN C fAbs (fun xs H Q => ∃ i, xs = [.int i] ∧ Q (.int (if i < 0 then -i else i)) H) := by
  intro F al st H vs ws Q R r h
  unfold fAbs at h
  split at h
  · cases r with
    | cons r t =>
      cases t
      cases r
      exact ⟨_, rfl, h _ _ _ Ext.refl R _ (.int _)⟩
  · exact h.elim
def fInt : Fb := fun ws st => match ws with
  | [.d (.int i)] => .ok (.d (.int i)) st
  | [.d (.bool b)] => .ok (.d (.int (if b = true then 1 else 0))) st
  | _ => .bad
theorem by_int : ByN C fInt (fun xs H Q => (∃ i, xs = [.int i] ∧ Q (.int i) H) ∨ ∃ k, xs = [.bl k] ∧ Q (.int (if k then 1 else 0)) H) := by
  intro F al st H vs ws Q R r h
  unfold fInt at h
  split at h
  · cases r with
    | cons r t =>
      cases t
      cases r
      exact .inl ⟨_, rfl, h _ _ _ Ext.refl R _ (.int _)⟩
  · cases r with
    | cons r t =>
      cases t
      cases r
      exact .inr ⟨_, rfl, h _ _ _ Ext.refl R _ (.int _)⟩
  · exact h.elim
def fMax2 : Fb := fun ws st => match ws with
  | [.d (.int i), .d (.int j)] => .ok (.d (.int (if j > i then j else i))) st
  | _ => .bad
def fMin2 : Fb := fun ws st => match ws with
  | [.d (.int i), .d (.int j)] => .ok (.d (.int (if j < i then j else i))) st
  | _ => .bad
theorem by_max2 : ByN C fMax2 (fun xs H Q => ∃ i j, xs = [.int i, .int j] ∧ Q (.int (if j > i then j else i)) H) := by
  intro F al st H vs ws Q R r h
  unfold fMax2 at h
  split at h
  · cases r with
    | cons r t =>
      cases t with
      | cons r2 t =>
        cases t
        cases r
        cases r2
        exact ⟨_, _, rfl, h _ _ _ Ext.refl R _ (.int _)⟩
  · exact h.elim
theorem by_min2 : ByN C fMin2 (fun xs H Q => ∃ i j, xs = [.int i, .int j] ∧ Q (.int (if j < i then j else i)) H) := by
  intro F al st H vs ws Q R r h
  unfold fMin2 at h
  split at h
  · cases r with
    | cons r t =>
      cases t with
      | cons r2 t =>
        cases t
        cases r
        cases r2
        exact ⟨_, _, rfl, h _ _ _ Ext.refl R _ (.int _)⟩
  · exact h.elim
/-! ### list(x), tuple(x) -/
/-! ### sorted -/
def srt (ds : List PyData) : List PyData := ds.mergeSort (PySem.W.dataLe false id)
end
end VS
set_option Elab.async false
set_option linter.all false
set_option maxRecDepth 100000
set_option maxHeartbeats 1000000
/-! VS9: repr, isinstance, methods of lists and dicts, slices. -/
namespace VS
open PySem PySem.Spec PyProof.Rows L2
mutual
theorem plain_noDict : ∀ d : PyData, d.plain = true → d.hasDict = false
  | .none, _ => by simp [PyData.hasDict]
  | .bool _, _ => by simp [PyData.hasDict]
  | .int _, _ => by simp [PyData.hasDict]
  | .str _, _ => by simp [PyData.hasDict]
  | .list ds, h => by
    simp only [PyData.plain] at h
    simp only [PyData.hasDict]
    exact plain_noDictAll ds h
  | .tuple ds, h => by
    simp only [PyData.plain] at h
    simp only [PyData.hasDict]
    exact plain_noDictAll ds h
  | .dict _, h => by simp [PyData.plain] at h
theorem plain_noDictAll : ∀ ds : List PyData, PyData.plainAll ds = true → PyData.hasDictAll ds = false
  | [], _ => by simp [PyData.hasDictAll]
  | d :: ds, h => by
    simp only [PyData.plainAll, Bool.and_eq_true] at h
    simp only [PyData.hasDictAll, plain_noDict d h.1, plain_noDictAll ds h.2, Bool.or_self]
end
section
variable {C : Cxt}
/-! ### repr -/
def okShow (d : PyData) : Bool := d.showable && decide (d.depth ≤ 60) && decide (d.shown.length ≤ sizeLine)
def fRepr : Fb := fun ws st => match ws with
  | [w] => match rdW st 6 w with
    | some d => if okShow d = true then .ok (.d (.str d.shown)) st else .bad
    | none => .bad
  | _ => .bad
def rRepr (K : Frg) : List V → Hp → VK → Prop := fun vs H Q => ∃ v d, vs = [v] ∧ Dp K H v d ∧ okShow d = true ∧ Q (.str d.shown) H
theorem reprR (ck : Cok C) : CallR C.X (.builtin "repr") (rRepr C.X.K) := by
  intro pins s σ H xs us Q I r h
  obtain ⟨v, d, rfl, hd, ok, q⟩ := h
  unfold okShow at ok
  rw [Bool.and_eq_true, Bool.and_eq_true, decide_eq_true_eq, decide_eq_true_eq] at ok
  obtain ⟨⟨h1, h2⟩, h3⟩ := ok
  have hu := ck.hu
  obtain ⟨u, rfl, ru⟩ := vals1 r
  obtain ⟨as, rd⟩ := Dp.reads I d v u hd ru
  have nd : d.hasDict = false := by
    have hp := Dq.plain d v hd
    clear h1 h2 h3 rd q
    exact plain_noDict d hp
  have fin : ∀ {s' : Shared} {t : Tok}, Inv C.X pins σ H s' → EP C.X pins σ Q (.str d.shown t) s' := fun {s' t} J => ⟨.str _, H, J, ⟨_, rfl⟩, q⟩
  cases hd with
  | non =>
    cases ru
    exact PySem.P.repr_of_none (fin (I.tok _))
  | bl b =>
    cases ru
    exact PySem.P.repr_of_bool (fin (I.tok _))
  | int i =>
    obtain ⟨t, rfl⟩ := ru
    exact PySem.P.repr_of_int (of_decide_eq_true h1) (fin (I.tok _))
  | str x =>
    obtain ⟨t, rfl⟩ := ru
    exact PySem.P.repr_of_str (fin (I.tok _)) h3
  | lst hs ha =>
    cases ru
    exact repr_of_reads' rd h1 (fun z => absurd z (by rw [nd]; exact Bool.false_ne_true)) ck.gd (by omega) (fun _ _ e => e) (fun h' u tk hk => fin (I.kept (t' := tk) hk)) h3
  | tup hs ha =>
    cases ru
    exact repr_of_reads' rd h1 (fun z => absurd z (by rw [nd]; exact Bool.false_ne_true)) ck.gd (by omega) (fun _ _ e => e) (fun h' u tk hk => fin (I.kept (t' := tk) hk)) h3
theorem by_repr : ByN C fRepr (rRepr C.X.K) := by
  intro F al st H vs ws Q R r h
  unfold fRepr at h
  split at h
  · cases r with
    | cons r t =>
      cases t
      split at h
      · rename_i d hd
        split at h
        · rename_i ok
          exact ⟨_, d, rfl, rdW_rel R _ _ _ _ r hd, ok, h _ _ _ Ext.refl R _ (.str _)⟩
        · exact h.elim
      · exact h.elim
  · exact h.elim
/-! ### isinstance, a built-in type -/
def tyN (st : Store) : W → Option String
  | .d .none => some "NoneType"
  | .d (.bool _) => some "bool"
  | .d (.int _) => some "int"
  | .d (.str _) => some "str"
  | .d (.list _) => some "list"
  | .d (.tuple _) => some "tuple"
  | .r _ => some "list"
  | .c n => match st[n]? with
    | some (.lst _) => some "list"
    | some (.dct _) => some "dict"
    | some (.tup _) => some "tuple"
    | _ => none
  | _ => none
/-! ### methods -/
abbrev Fm := W → List W → Store → Res W
def isTy (T : String) (st : Store) : W → Bool
  | .d (.str _) => T == "str"
  | .d (.list _) => T == "list"
  | .r _ => T == "list"
  | .c n => match st[n]? with
    | some (.lst _) => T == "list"
    | some (.dct _) => T == "dict"
    | _ => false
  | _ => false
theorem isTy_rel {K : Frg} {F : Hp} {al : List Addr} {st : Store} {H : Hp} (R : Rel K F al st H) {v : V} {w : W} {T : String} (r : WR K F al v w) (h : isTy T st w = true) : tyV K T v H := by
  unfold isTy at h
  split at h
  · cases r; exact eq_of_beq h
  · cases r with
    | lst h1 h2 => exact .inl ⟨eq_of_beq h, _, SqL.of (R.sub _ _ h1)⟩
  · obtain ⟨a, vs, rfl, h2, h3⟩ := r
    exact .inl ⟨eq_of_beq h, _, Same.seq R.sub h2⟩
  · split at h
    · rename_i hn
      obtain ⟨a, h1, rfl⟩ := r
      obtain ⟨_, vs, h3, h4⟩ := R.cell _ _ _ h1 hn
      exact .inl ⟨eq_of_beq h, _, SqL.of h3⟩
    · rename_i hn
      obtain ⟨a, us, rfl, _, _, h4, h5⟩ := dct_get R r hn
      exact .inr (.inr (.inl ⟨eq_of_beq h, .inl ⟨_, h4⟩⟩))
    · cases h
  · cases h
def mth (T : String) (f : Fm) (o : Ev) (a : Av) : Ev := fun env st => (o env st).bind fun x st1 => if isTy T st1 x = true then (a env st1).bind fun ws st2 => f x ws st2 else .bad
def ByM (C : Cxt) (f : Fm) (r : V → List V → Hp → VK → Prop) : Prop := ∀ (F : Hp) (al : List Addr) (st : Store) (H : Hp) (v : V) (w : W) (vs : List V) (ws : List W) (Q : VK), Rel C.X.K F al st H → WR C.X.K F al v w → WRs C.X.K F al vs ws →
  Post C.X.K C.CA F al (f w ws st) (fun F' al' _ H' w => ∀ v, WR C.X.K F' al' v w → Q v H') (fun _ _ _ => True) → r v vs H Q
theorem se_bm {T id : String} {name : Str} {r : V → List V → Hp → VK → Prop} {f : Fm} {o e : Expr} {es : List Expr} {co : Ev} {c : Av} {apos cpos : Pos} (pa : PlainAttrs T) (slot : Slot T name id) (hty : typeOf (.builtin id) = pure (.type "method_descriptor")) (hm : MtR C.X id r) (hb : ByM C f r) (ho : SE C o co) (ha : SA C (e :: es) c)
    (hbase : attributeBase o name C.X.env (eval o C.X.env) = eval o C.X.env := by rfl)
    (hfew : ((backTo cpos (starEach (e :: es) C.X.env)).all (fun x => !x.1) && (backToKw cpos (keywordEach [] C.X.env)).all (fun x => x.1.isSome)
      && decide ((e :: es).length + ([] : List Keyword).length + (if ([] : List Keyword).isEmpty then 0 else 1) < 30)) = true := by rfl)
    (hline : (apos.endLine == cpos.line) = true := by rfl) (hs : starEach (e :: es) C.X.env = (false, eval e C.X.env) :: starEach es C.X.env := by rfl) (hplain : (backTo cpos (starEach es C.X.env)).any (·.1) = false := by rfl) :
    SE C (.Call (.Attribute o name apos) (e :: es) [] cpos) (mth T f co c) :=
  PE.imp (pe_bm pa slot hty hm ho ha.pa hbase hfew hline hs hplain) fun σ H Q => by
    rintro ⟨F, al, env, st, R, E, h⟩
    refine ⟨F, al, env, st, R, E, h.step fun F1 al1 st1 H1 x e1 R1 h1 v rv => ?_⟩
    split at h1
    · rename_i ht
      refine ⟨isTy_rel R1 rv ht, F1, al1, env, st1, R1, E.mono e1, h1.step fun F2 al2 st2 H2 ws e2 R2 h2 vs rvs => ?_⟩
      exact hb F2 al2 st2 H2 v x vs ws Q R2 (rv.mono e2) rvs (h2.imp (fun _ _ _ _ _ _ _ q => q) fun _ _ _ _ => trivial)
    · exact h1.elim
theorem Paired.eraseIdx {α β : Type} {R : α → β → Prop} : ∀ {xs : List α} {ys : List β} (i : Nat), Paired R xs ys → Paired R (xs.eraseIdx i) (ys.eraseIdx i)
  | _, _, _, .nil => .nil
  | _, _, 0, .cons r t => t
  | _, _, i + 1, .cons r t => .cons r (Paired.eraseIdx i t)
/-! ### d.get -/
/-! ### slices -/
def cutG {α : Type} (xs : List α) (lo hi : Option Int) : List α := (xs.drop (HT.sIx xs.length 0 lo)).take (HT.sIx xs.length xs.length hi - HT.sIx xs.length 0 lo)
abbrev Po := Env → Store → Res (Option Int)
def noP : Po := fun _ st => .ok none st
def part (a : Ev) : Po := fun env st => (a env st).bind fun w st1 => match w with
  | .d (.int i) => .ok (some i) st1
  | _ => .bad
def rdO (K : Frg) (CA : Nat → Addr) (Wx : WX) (c : Po) : TO := fun σ H Q => ∃ F al env st, Rel K F al st H ∧ EnvR K F al σ env ∧ Post K CA F al (c env st) (fun _ _ _ H' o => Q o H') (fun cls d H' => Wx cls d σ H')
def SO (C : Cxt) (e : Option Expr) (c : Po) : Prop := PO C.X e (rdO C.X.K C.CA C.Wx c)
theorem PO.imp {X : Cx} {e : Option Expr} {t t' : TO} (h : PO X e t) (k : ∀ σ H Q, t' σ H Q → t σ H Q) : PO X e t' := ⟨fun pins s σ H Q I q => h.run pins s σ H Q I (k σ H Q q)⟩
theorem so_none : SO C none noP := PO.imp po_none fun σ H Q => by
  rintro ⟨F, al, env, st, R, E, h⟩
  exact h _ _ _ Ext.refl R
theorem so_some {e : Expr} {c : Ev} (he : SE C e c) : SO C (some e) (part c) := PO.imp (po_some he) fun σ H Q => by
  rintro ⟨F, al, env, st, R, E, h⟩
  refine ⟨F, al, env, st, R, E, h.step fun F1 al1 st1 H1 w e1 R1 h1 v rv => ?_⟩
  split at h1
  · cases rv
    exact ⟨_, rfl, h1 _ _ _ Ext.refl R1⟩
  · exact h1.elim
def fCut (mk : List W → Store → Res W) (w : W) (lo hi : Option Int) (st : Store) : Res W := match w with
  | .d (.str x) => if x.length ≤ sizeLine then .ok (.d (.str (cutS x lo hi))) st else .bad
  | .d (.tuple ds) => if HT.sIx ds.length 0 lo = 0 ∧ HT.sIx ds.length ds.length hi = ds.length then .bad else .ok (.d (.tuple (cutG ds lo hi))) st
  | w => match itm st w with
    | some xs => mk (cutG xs lo hi) st
    | none => .bad
def slc (mk : List W → Store → Res W) (o : Ev) (lo hi : Po) : Ev := fun env st => (o env st).bind fun x st1 => (lo env st1).bind fun l st2 => (hi env st2).bind fun u st3 => fCut mk x l u st3
theorem Paired.drop {α β : Type} {R : α → β → Prop} : ∀ {xs : List α} {ys : List β} (n : Nat), Paired R xs ys → Paired R (xs.drop n) (ys.drop n)
  | _, _, 0, h => h
  | _, _, _ + 1, .nil => .nil
  | _, _, n + 1, .cons _ t => Paired.drop n t
theorem Paired.take {α β : Type} {R : α → β → Prop} : ∀ {xs : List α} {ys : List β} (n : Nat), Paired R xs ys → Paired R (xs.take n) (ys.take n)
  | _, _, 0, _ => .nil
  | _, _, _ + 1, .nil => .nil
  | _, _, n + 1, .cons r t => .cons r (Paired.take n t)
theorem Paired.cut {α : Type} {R : V → α → Prop} {xs : List V} {ys : List α} (h : Paired R xs ys) (lo hi : Option Int) : Paired R (cutV xs lo hi) (cutG ys lo hi) := by
  unfold cutV cutG
  rw [h.length]
  exact Paired.take _ (Paired.drop _ h)
def rSlA (K : Frg) : V → Option Int → Option Int → Hp → VK → Prop := fun x lo hi H Q => (rSlL K x lo hi H Q ∨ rSlT K x lo hi H Q) ∨ rSlS x lo hi H Q
theorem by_cut {mk : List W → Store → Res W} (hm : ∀ {F : Hp} {al : List Addr} {st : Store} {H : Hp} {ws : List W} {vs : List V} {Q : VK} {p : Addr}, Rel C.X.K F al st H → WRs C.X.K F al vs ws →
    Post C.X.K C.CA F al (mk ws st) (fun F' al' _ H' w => ∀ v, WR C.X.K F' al' v w → Q v H') (fun _ _ _ => True) → H p = none → Q (.ref p) (L2.upd H p (.lst vs)))
    {F : Hp} {al : List Addr} {st : Store} {H : Hp} {v : V} {w : W} {lo hi : Option Int} {Q : VK} (R : Rel C.X.K F al st H) (r : WR C.X.K F al v w) (h : Post C.X.K C.CA F al (fCut mk w lo hi st) (fun F' al' _ H' w => ∀ v, WR C.X.K F' al' v w → Q v H') (fun _ _ _ => True)) : rSlA C.X.K v lo hi H Q := by
  unfold fCut at h
  split at h
  · cases r
    split at h
    · rename_i hk
      exact .inr ⟨_, rfl, hk, h _ _ _ Ext.refl R _ (.str _)⟩
    · exact h.elim
  · split at h
    · exact h.elim
    · rename_i hk
      cases r with
      | tup h1 h2 =>
        refine .inl (.inr ⟨_, _, rfl, Same.tupq R.sub h1, by rw [h2.length]; exact hk, fun p hp => ?_⟩)
        obtain ⟨x, R'⟩ := R.newD hp (.tup (cutV _ lo hi))
        exact h _ _ _ x R' _ (Dq.tup (SqT.of upd_same) (Dq.monoAll x.same _ _ (DqAll.of_paired (Paired.cut (DqAll.paired h2) lo hi))))
  · split at h
    · rename_i xs hx
      obtain ⟨a, us, rfl, q1, q2⟩ := itm_rel R r hx
      exact .inl (.inl ⟨a, us, rfl, q1, fun p hp => hm R (Paired.cut q2 lo hi) h hp⟩)
    · exact h.elim
theorem rd_slc {mk : List W → Store → Res W} {o : Ev} {lo hi : Po} (hm : ∀ {F : Hp} {al : List Addr} {st : Store} {H : Hp} {ws : List W} {vs : List V} {Q : VK} {p : Addr}, Rel C.X.K F al st H → WRs C.X.K F al vs ws →
    Post C.X.K C.CA F al (mk ws st) (fun F' al' _ H' w => ∀ v, WR C.X.K F' al' v w → Q v H') (fun _ _ _ => True) → H p = none → Q (.ref p) (L2.upd H p (.lst vs))) :
    ∀ σ H Q, rdE C.X.K C.CA C.Wx (slc mk o lo hi) σ H Q → tSl (rSlA C.X.K) (rdE C.X.K C.CA C.Wx o) (rdO C.X.K C.CA C.Wx lo) (rdO C.X.K C.CA C.Wx hi) σ H Q := by
  rintro σ H Q ⟨F, al, env, st, R, E, h⟩
  refine ⟨F, al, env, st, R, E, h.step fun F1 al1 st1 H1 x e1 R1 h1 v rv => ?_⟩
  refine ⟨F1, al1, env, st1, R1, E.mono e1, h1.step fun F2 al2 st2 H2 l e2 R2 h2 => ?_⟩
  refine ⟨F2, al2, env, st2, R2, E.mono (e1.trans e2), h2.step fun F3 al3 st3 H3 u e3 R3 h3 => ?_⟩
  exact by_cut hm R3 (rv.mono (e2.trans e3)) (h3.imp (fun _ _ _ _ _ _ _ q => q) fun _ _ _ _ => trivial)
theorem se_slcC {o : Expr} {lo hi : Option Expr} {co : Ev} {cl cu : Po} {pos p2 : Pos} (ho : SE C o co) (hl : SO C lo cl) (hu : SO C hi cu) : SE C (.Subscript o (.Slice lo hi none p2) pos) (slc mkC co cl cu) :=
  PE.imp (pe_slice (SlR.or (SlR.or sl_list sl_tup) sl_str) ho hl hu) (rd_slc fun R r h hp => mkC_post R r h hp)
end
end VS
set_option Elab.async false
set_option linter.all false
set_option maxRecDepth 100000
set_option maxHeartbeats 1000000
/-! VSW: short words for derivations. -/
namespace VS
open PySem PySem.Spec PyProof.Rows L2
section
variable {C : Cxt} {a b c : Expr} {ca cb cc : Ev} {pos : Pos}
theorem e_sub (ha : SE C a ca) (hb : SE C b cb) : SE C (.BinOp a .Sub b pos) (bin fSub ca cb) := se_bin op_sub by_sub ha hb
theorem e_mul (ha : SE C a ca) (hb : SE C b cb) : SE C (.BinOp a .Mult b pos) (bin fMul ca cb) := se_bin mulR by_mul ha hb
theorem e_div (ha : SE C a ca) (hb : SE C b cb) : SE C (.BinOp a .FloorDiv b pos) (bin fDiv ca cb) := se_bin op_fdivW by_div ha hb
theorem e_mod (ha : SE C a ca) (hb : SE C b cb) : SE C (.BinOp a .Mod b pos) (bin fMod ca cb) := se_bin op_mod by_mod ha hb
theorem e_pow (ha : SE C a ca) (hb : SE C b cb) : SE C (.BinOp a .Pow b pos) (bin fPow ca cb) := se_bin powR by_pow ha hb
variable (ck : Cok C)
include ck
theorem e_eq (ha : SE C a ca) (hb : SE C b cb) : SE C (.Compare a [.Eq] [b] pos) (bin (fEq false) ca cb) := se_cmp (op_eqP ck.hu) (by_eq false) ha hb (nomark _)
theorem t_ne (ha : SE C a ca) (hb : SE C b cb) : ST C (.Compare a [.NotEq] [b] pos) (boo (bin (fEq true) ca cb)) := st_cmp (op_neP ck.hu) (by_eq true) ha hb (nomark _)
theorem t_lt (ha : SE C a ca) (hb : SE C b cb) : ST C (.Compare a [.Lt] [b] pos) (boo (bin fLt ca cb)) := st_cmp (op_ltP ck.hu) (by_ord _) ha hb (nomark _)
theorem t_gt (ha : SE C a ca) (hb : SE C b cb) : ST C (.Compare a [.Gt] [b] pos) (boo (bin fGt ca cb)) := st_cmp (op_gtP ck.hu) (by_ord _) ha hb (nomark _)
theorem o_lt : OpR C.X (compareOp .Lt) (rOrd C.X.K fun x y => PySem.W.dataLt x y) ∧ By2 C fLt (rOrd C.X.K fun x y => PySem.W.dataLt x y) := ⟨op_ltP ck.hu, by_ord _⟩
theorem o_eq : OpR C.X (compareOp .Eq) (rEqP C.X.K false) ∧ By2 C (fEq false) (rEqP C.X.K false) := ⟨op_eqP ck.hu, by_eq false⟩
theorem e_ix (ha : SE C a ca) (hb : SE C b cb) (hs : PlainIx b := by exact fun _ _ => rfl) (hs2 : NoSl b := by exact fun _ _ => rfl) : SE C (.Subscript a b pos) (bin fIx ca cb) := se_ix ck.hu ha hb hs hs2
end
/-! what a comprehension's block is shown by -/
theorem blkE {C : Cxt} (ck : Cok C) {scope : Scope} {x : Expr} {e : Ev} (h : ∀ (s : Shared) (H : Hp) (L : Addr) (cl : List (Str × Addr)) (fp : List Addr), Cok (C.blk s H scope cl L fp) → SE (C.blk s H scope cl L fp) x e) : BlkE C scope x e :=
  fun s H L cl fp => h s H L cl fp (blk_ok ck)
theorem blkT {C : Cxt} (ck : Cok C) {scope : Scope} {es : List Expr} {t : Tst} (h : ∀ (s : Shared) (H : Hp) (L : Addr) (cl : List (Str × Addr)) (fp : List Addr), Cok (C.blk s H scope cl L fp) → STs (C.blk s H scope cl L fp) es t) : BlkT C scope es t :=
  fun s H L cl fp => h s H L cl fp (blk_ok ck)
theorem blkG {C : Cxt} (ck : Cok C) {scope : Scope} {tg : Expr} {g : Ti} {js : List Nat} (h : ∀ (s : Shared) (H : Hp) (L : Addr) (cl : List (Str × Addr)) (fp : List Addr), Cok (C.blk s H scope cl L fp) → SGC (C.blk s H scope cl L fp).X tg g js) : BlkG C scope tg g js :=
  fun s H L cl fp => h s H L cl fp (blk_ok ck)
/-- a def as the top leaves it -/
def DefT (K : Frg) (mg : Str → Option Value) (x : Str) (st : Stmt) (ps : List Str) : Prop := ∃ f fd, Fun K x x st f fd ∧ mg x = some (.ref f) ∧ Binds K fd ps []
theorem fnF_mk {P : Program} {w : World} {K : Frg} {mg : Str → Option Value} {base : Heap} {CA : Nat → Addr} {x : Str} {st : Stmt} {N ps : List Str} {k : Nat} {body : Sd} (T : DefT K mg x st ps) (S : FnScope N ps (defScope st))
    (hb : ∀ (f : Addr) (cdv : Value) (A : Around) (outer : List PySem.Env) (s : Shared) (H : Hp) (E : XK), Cok (defC P w K mg base CA N x (defScope st) f cdv A outer s H E) → Room k (A.deeper (envOfC x (defScope st) s.heap.objs.size f cdv)) → SSs (defC P w K mg base CA N x (defScope st) f cdv A outer s H E) (defBody st) body) :
    FnF P w K mg base CA x (k + 1) ps (fnD N.length body) := by
  obtain ⟨f, fd, F, hm, b⟩ := T
  exact ⟨f, fd, fn_ok F S fun cdv A outer s H E gd hr => hb f cdv A outer s H E (defC_ok gd hr S) hr, hm, F.kp, b⟩
end VS
set_option Elab.async false
set_option linter.all false
set_option maxRecDepth 100000
set_option maxHeartbeats 1000000
/-! VSE: the end of a proof: what the top has written, the goal that the head leaves. -/
namespace VS
open PySem PySem.Spec PyProof.Rows L2
theorem dq_ints {K : Frg} {F : Hp} : ∀ ns : List Int, DqAll K F (ns.map V.int) (ns.map PyData.int)
  | [] => .nil
  | n :: ns => .cons (.int n) (dq_ints ns)
theorem Rel.start {K : Frg} {H : Hp} : Rel K H [] [] H := ⟨Same.refl _, rfl, .nil, fun n a c h => by cases h⟩
/-- the law is true of a script -/
def Says (φ : Fn) (ns : List Int) : Prop := ∃ st, φ [.r (ns.map .int)] [] = .ok (.d (.bool true)) st
theorem says_sp {K : Frg} {CA : Nat → Addr} {φ : Fn} {H : Hp} {a : Addr} {ns : List Int} (h : Says φ ns) (hS : SqL K H a (ns.map V.int)) : spF K CA 1 φ [.ref a] H (fun v _ => v = .bl true) fun _ _ _ => False := by
  obtain ⟨st, e⟩ := h
  refine ⟨rfl, H, [], [], [.r (ns.map .int)], Rel.start, .cons ⟨a, _, rfl, hS, dq_ints ns⟩ .nil, ?_⟩
  rw [e]
  intro F al H' x R v r
  cases r
  rfl
/-- the law's def as the top leaves it -/
def DefL (K : Frg) (mg : Str → Option Value) (st : Stmt) : Prop := ∃ f fd, Fun K "law" "law" st f fd ∧ mg "law" = some (.ref f) ∧ ∀ (s : Shared) (u : Value), BindsTo s fd ⟨[u], []⟩ [("script", u)]
section
variable {K : Frg} {h : Heap} {mg : Str → Option Value}
theorem defT_mk (X : K.In h) (G : h.Ns mainGlobals mg) {x : Str} {st : Stmt} {ps : List Str} {f : Addr} {oc : Value} {od an : Option Addr} {osl : Array (Option Value)} {kV doc pm cdv ct : Value} (a : PySem.W.nsIn K mainGlobals x = some (some (.ref f)))
    (l : K.lookup f = some ⟨oc, od, .func (PySem.W.fnOf x x (defArgs st) (defBody st) (defScope st) .none kV doc pm an cdv ct), osl⟩) (c : PySem.W.codeIn K cdv x = true) (k : PySem.W.keepIn K (.ref f) = true)
    (b : ∀ (kV doc pm : Value) (an : Option Addr) (cdv ct : Value) (us : List Value), us.length = ps.length → bindArgs (PySem.W.fnOf x x (defArgs st) (defBody st) (defScope st) .none kV doc pm an cdv ct) ⟨us, []⟩ = pure (ps.zip us)) : DefT K mg x st ps :=
  have F := fun_mk (st := st) l c k
  ⟨f, _, F, PySem.W.mg_of X G a, F.binds b⟩
theorem defL_mk (X : K.In h) (G : h.Ns mainGlobals mg) {st : Stmt} {f : Addr} {oc : Value} {od an : Option Addr} {osl : Array (Option Value)} {kV doc pm cdv ct : Value} (a : PySem.W.nsIn K mainGlobals "law" = some (some (.ref f)))
    (l : K.lookup f = some ⟨oc, od, .func (PySem.W.fnOf "law" "law" (defArgs st) (defBody st) (defScope st) .none kV doc pm an cdv ct), osl⟩) (c : PySem.W.codeIn K cdv "law" = true) (k : PySem.W.keepIn K (.ref f) = true)
    (b : ∀ (kV doc pm : Value) (an : Option Addr) (cdv ct : Value) (u : Value), bindArgs (PySem.W.fnOf "law" "law" (defArgs st) (defBody st) (defScope st) .none kV doc pm an cdv ct) ⟨[u], []⟩ = pure [(("script" : Str), u)]) : DefL K mg st :=
  ⟨f, _, fun_mk (st := st) l c k, PySem.W.mg_of X G a, fun s u => .of_eq (b _ _ _ _ _ _ u)⟩
theorem none_mk (X : K.In h) (G : h.Ns mainGlobals mg) {x : Str} (a : PySem.W.nsIn K mainGlobals x = some none) : mg x = none := PySem.W.mg_none_of X G a
end
/-- the goal that the head leaves -/
theorem walk_vs {l : PySem.W.OpenLaw} {n k : Nat} {q : Program} {loose : List Str} {XP : (Str → Option Value) → Heap → Prop} {YP : World → Heap → Prop} {d : DefRec} {K : Params → PySem.W.Frag} (CA : Frg → Nat → Addr) (φ : Fn) (st : Stmt)
    (hp : ∀ ns : List Int, ns.length ≤ n → Says φ ns) (hn : l.most = some n) (hn2 : n ≤ sizeLine) (hdf : d.params.defaults = []) (hdn : d.name = "law") (hr : Room k callerA)
    (hY : ∀ (w : World) (h : Heap), YP w h → (K w.params).In h)
    (F : ∀ (w : World) (mg : Str → Option Value) (h : Heap), (K w.params).In h → h.Ns mainGlobals mg → DefL (K w.params) mg st ∧
        ∀ (f : Addr) (fd : FuncData) (base : Heap), (K w.params).In base → base.Ns mainGlobals mg → Fun (K w.params) "law" "law" st f fd → FnG l.prog w (K w.params) mg base k f fd ["script"] (spF (K w.params) (CA (K w.params)) 1 φ)) :
    PySem.W.WalkO q loose XP YP l.row.toRowW d [] (fun f vs => PySem.call f vs) :=
  walk_ofG (sp := fun w => spF (K w.params) (CA (K w.params)) 1 φ) hn hn2 hdf hr hY (fun w mg fa h KX G hmg => by
    obtain ⟨⟨f, fd, T, hm, hb⟩, hF⟩ := F w mg h KX G
    rw [hdn, hm] at hmg
    cases hmg
    exact ⟨fd, hb, fun base kb gb => hF _ fd base kb gb T⟩) fun w H a ns hl hO hS => says_sp (hp ns hl) hS
end VS
set_option Elab.async false
set_option linter.all false
set_option maxRecDepth 100000
set_option maxHeartbeats 1000000
/-! VSA: more builtins and methods. -/
namespace VS
open PySem PySem.Spec PyProof.Rows L2
def strsOf : List W → Option (List Str)
  | [] => some []
  | .d (.str x) :: r => (strsOf r).map (x :: ·)
  | _ => none
theorem strsOf_iff : ∀ {ws : List W} {ns : List Str}, strsOf ws = some ns → ws = ns.map fun i => W.d (.str i) := by
  intro ws
  induction ws with
  | nil => intro ns h; cases h; rfl
  | cons w ws ih =>
    intro ns h
    unfold strsOf at h
    split at h
    · rename_i e; cases e
    · rename_i i r e
      cases e
      cases q : strsOf ws with
      | none => rw [q] at h; cases h
      | some l => rw [q] at h; cases h; rw [ih q]; rfl
    · cases h
section
variable {K : Frg} {F : Hp} {al : List Addr}
theorem rel_strs : ∀ {ns : List Str} {vs : List V}, WRs K F al vs (ns.map fun i => W.d (.str i)) → vs = ns.map V.str
  | [], _, .nil => rfl
  | _ :: _, _, .cons r t => by cases r; rw [rel_strs t]; rfl
theorem itm_strs {st : Store} {H : Hp} (R : Rel K F al st H) {v : V} {w : W} {ns : List Str} (r : WR K F al v w) (h : (itm st w).bind strsOf = some ns) : ∃ a, v = .ref a ∧ SqL K H a (ns.map V.str) := by
  cases e : itm st w with
  | none => rw [e] at h; cases h
  | some ws =>
    rw [e] at h
    obtain ⟨a, vs, e1, e2, e3⟩ := itm_rel R r e
    have q := strsOf_iff (show strsOf ws = some ns from h)
    subst q
    rw [rel_strs e3] at e2
    exact ⟨a, e1, e2⟩
end
section
variable {C : Cxt}
/-! ### xs[::-1] -/
/-! ### methods -/
def fJoin : Fm := fun x ws st => match x, ws with
  | .d (.str a), [w] => match (itm st w).bind strsOf with
    | some ys => if (ys.map (·.length)).sum + ys.length * a.length ≤ 16777216 then .ok (.d (.str (Txt.join a ys))) st else .bad
    | none => .bad
  | _, _ => .bad
theorem by_join : ByM C fJoin (fun x xs H Q => ∃ a p, ∃ ys : List Str, x = .str a ∧ xs = [.ref p] ∧ (SqL C.X.K H p (ys.map V.str) ∨ SqT C.X.K H p (ys.map V.str)) ∧ (ys.map (·.length)).sum + ys.length * a.length ≤ 16777216 ∧ Q (.str (Txt.join a ys)) H) := by
  intro F al st H v w vs ws Q R r rs h
  unfold fJoin at h
  split at h
  · cases rs with
    | cons r1 t =>
      cases t
      cases r
      split at h
      · rename_i hn
        split at h
        · rename_i hz
          obtain ⟨a, rfl, e⟩ := itm_strs R r1 hn
          exact ⟨_, a, _, rfl, rfl, .inl e, hz, h _ _ _ Ext.refl R _ (.str _)⟩
        · exact h.elim
      · exact h.elim
  · exact h.elim
end
end VS
set_option Elab.async false
set_option linter.all false
set_option maxRecDepth 100000
set_option maxHeartbeats 1000000
/-! VSD: dict comprehensions, d.update(e), raw comprehensions. -/
namespace VS
open PySem PySem.Spec PyProof.Rows L2
/-! ### d.update(e) -/
section
variable {C : Cxt}
/-! ### {k: v for ..} -/
/-! ### comprehensions whose items may be cells -/
noncomputable def lcR (I : Iv) (g : Ti) (t : Tst) (e : Ev) (vs : List Nat) : Ev := lcB I g t e vs fun _ r => r
theorem se_lcR {elt tg iter : Expr} {ifs : List Expr} {scope : Scope} {own : List (Str × Nat)} {pos : Pos} {I : Iv} {g : Ti} {js : List Nat} {t : Tst} {e : Ev} (ck : Cok C) (hi : SI C tg iter I) (ok : BlkOk C.X.N C.X.env.scope scope own)
    (hg : BlkG C scope tg g js) (ht : BlkT C scope ifs t) (he : BlkE C scope elt e) (hjs : ∀ i ∈ js, i ∈ own.map (·.2) := by decide) (hs : ∀ x, foldedSetIterable iter C.X.env x = pure x := by intro _; rfl) : SE C (.ListComp elt [⟨tg, iter, ifs, 0⟩] scope pos) (lcR I g t e (own.map (·.2))) :=
  PE.imp (pe_lc (g := rdC C.X.K g js) (tt := rdT C.X.K C.CA (fun _ _ _ _ => False) t) (te := rdE C.X.K C.CA (fun _ _ _ _ => False) e) ck.calm ck.nd hi ok (fun s H L cl fp => hg s H L cl fp) (fun s H L cl fp => ht s H L cl fp) (fun s H L cl fp => he s H L cl fp) hs) (rd_lc (ex := fun _ r => r) hjs fun _ h => h)
end
end VS
set_option Elab.async false
set_option linter.all false
set_option maxRecDepth 100000
set_option maxHeartbeats 1000000
/-! VSF: sorted lists of cells, zip, ranges. -/
namespace VS
open PySem PySem.Spec PyProof.Rows L2
/-! ### sorted(xs), the items cells -/
section
variable {C : Cxt}
/-! ### zip(xs, ys), data -/
/-! ### list(range(a, b)) -/
instance (a b : Int) : Decidable (RgOk a b) := by unfold RgOk; exact inferInstance
end
end VS
set_option Elab.async false
set_option linter.all false
set_option maxRecDepth 100000
set_option maxHeartbeats 1000000
/-! VSH: index, nested comprehensions. -/
namespace VS
open PySem PySem.Spec PyProof.Rows L2
end VS
set_option Elab.async false
set_option linter.all false
set_option maxRecDepth 100000
set_option maxHeartbeats 1000000
/-! VSR: operations whose lists are cells. -/
namespace VS
open PySem PySem.Spec PyProof.Rows L2
section
variable {C : Cxt}
/-- + -/
def fAddR : W → W → Store → Res W := fun w1 w2 st => match w1, w2 with
  | .d (.int i), .d (.int j) => .ok (.d (.int (i + j))) st
  | .d (.str x), .d (.str y) => if x.length + y.length ≤ sizeLine then .ok (.d (.str (x ++ y))) st else .bad
  | w1, w2 => match itm st w1, itm st w2 with
    | some xs, some ys => if xs.length + ys.length ≤ sizeLine then mkC (xs ++ ys) st else .bad
    | _, _ => .bad
theorem by_addR : By2 C fAddR (rAddA C.X.K) := by
  intro F al st H v1 v2 w1 w2 Q R r1 r2 h
  unfold fAddR at h
  split at h
  · cases r1
    cases r2
    exact .inl (.inl ⟨_, _, rfl, rfl, h F al H Ext.refl R _ (.int _)⟩)
  · cases r1
    cases r2
    split at h
    · rename_i hk
      exact .inl (.inr ⟨_, _, rfl, rfl, hk, h F al H Ext.refl R _ (.str _)⟩)
    · exact h.elim
  · split at h
    · rename_i xs ys e1 e2
      split at h
      · rename_i hk
        exact .inr (by_cat (CA := C.CA) (mk := mkC) R r1 r2 e1 e2 hk fun vs p r hp => mkC_post R r h hp)
      · exact h.elim
    · exact h.elim
theorem e_addR {a b : Expr} {ca cb : Ev} {pos : Pos} (ha : SE C a ca) (hb : SE C b cb) : SE C (.BinOp a .Add b pos) (bin fAddR ca cb) := se_bin addR by_addR ha hb
/-- list * int -/
def fRepR : W → W → Store → Res W := fun w1 w2 st => match w1, w2 with
  | .c n, .d (.int k) => match st[n]? with
    | some (.lst xs) => if k < 2 ^ 63 ∧ -(2 ^ 63) ≤ k ∧ xs.length * k.toNat ≤ sizeLine then mkC ((List.replicate k.toNat xs).flatten) st else .bad
    | _ => .bad
  | _, _ => .bad
theorem by_repR : By2 C fRepR rRep := by
  intro F al st H v1 v2 w1 w2 Q R r1 r2 h
  unfold fRepR at h
  split at h
  · split at h
    · rename_i xs e
      split at h
      · rename_i hk
        cases r2
        obtain ⟨a, h1, rfl⟩ := r1
        obtain ⟨_, vs, q1, q2⟩ := R.cell _ _ _ h1 e
        exact ⟨_, _, _, rfl, rfl, q1, hk.2.1, hk.1, by rw [q2.length]; exact hk.2.2, fun p hp => mkC_post R (WRs.rep q2 _) h hp⟩
      · exact h.elim
    · exact h.elim
  · exact h.elim
theorem e_repR {a b : Expr} {ca cb : Ev} {pos : Pos} (ha : SE C a ca) (hb : SE C b cb) : SE C (.BinOp a .Mult b pos) (bin fRepR ca cb) := se_bin op_rep by_repR ha hb
end
/-! ### zip(xs, ys) -/
/-- the items of a list, and what must stay -/
def itmC (st : Store) : W → Option (List W × List (Nat × Cell))
  | .d (.list ds) => some (ds.map W.d, [])
  | .r ds => some (ds.map W.d, [])
  | .c n => match st[n]? with
    | some (.lst ws) => some (ws, [(n, .lst ws)])
    | _ => none
  | _ => none
end VS
set_option Elab.async false
set_option linter.all false
set_option maxRecDepth 100000
set_option maxHeartbeats 1000000
/-! VSS: comprehensions with two generators. -/
namespace VS
open PySem PySem.Spec PyProof.Rows L2
end VS
set_option Elab.async false
set_option linter.all false
set_option maxRecDepth 100000
set_option maxHeartbeats 1000000
/-! VST: the pairs of a dict that is locked meanwhile. -/
namespace VS
open PySem PySem.Spec PyProof.Rows L2
def unF (F : Hp) (d : Addr) : Hp := fun b => if b = d then none else F b
theorem unF_ne {F : Hp} {d b : Addr} (h : b ≠ d) : unF F d b = F b := if_neg h
section
variable {K : Frg} {F : Hp} {d : Addr} {od : Obj} {us : List (Key × V)} (hd : F d = some (.frz od (.dK us)))
include hd
theorem drop_ne {b : Addr} {o : HO} (h : F b = some o) (hn : o ≠ .frz od (.dK us)) : unF F d b = some o := by
  rw [unF_ne fun z => by rw [z, hd] at h; cases h; exact hn rfl]
  exact h
theorem drop_rdL {b : Addr} {xs : List V} (h : Rd F b (.lst xs)) : Rd (unF F d) b (.lst xs) := by
  rcases h with h | ⟨o, h⟩
  · exact .inl (drop_ne hd h fun z => nomatch z)
  · exact .inr ⟨o, drop_ne hd h fun z => by cases z⟩
theorem drop_rdT {b : Addr} {xs : List V} (h : Rd F b (.tup xs)) : Rd (unF F d) b (.tup xs) := by
  rcases h with h | ⟨o, h⟩
  · exact .inl (drop_ne hd h fun z => nomatch z)
  · exact .inr ⟨o, drop_ne hd h fun z => by cases z⟩
theorem SqL.drop {b : Addr} {xs : List V} (h : SqL K F b xs) : SqL K (unF F d) b xs := h.elim (fun h => .inl (drop_rdL hd h)) .inr
theorem SqT.drop {b : Addr} {xs : List V} (h : SqT K F b xs) : SqT K (unF F d) b xs := h.elim (fun h => .inl (drop_rdT hd h)) .inr
mutual
theorem Dq.drop : ∀ {v : V} {x : PyData}, Dq K F v x → Dq K (unF F d) v x
  | _, _, .non => .non
  | _, _, .bl b => .bl b
  | _, _, .int i => .int i
  | _, _, .str x => .str x
  | _, _, .lst h q => .lst (drop_ne hd h fun z => nomatch z) (DqAll.drop q)
  | _, _, .tup h q => .tup (SqT.drop hd h) (DqAll.drop q)
theorem DqAll.drop : ∀ {vs : List V} {xs : List PyData}, DqAll K F vs xs → DqAll K (unF F d) vs xs
  | _, _, .nil => .nil
  | _, _, .cons h q => .cons (Dq.drop h) (DqAll.drop q)
end
theorem WR.drop {al : List Addr} {v : V} {w : W} (r : WR K F al v w) : WR K (unF F d) al v w := by
  cases w with
  | d x => exact Dq.drop hd r
  | c n => exact r
  | r xs =>
    obtain ⟨a, vs, e, q1, q2⟩ := r
    exact ⟨a, vs, e, SqL.drop hd q1, DqAll.drop hd q2⟩
theorem WRs.drop {al : List Addr} {vs : List V} {ws : List W} (r : WRs K F al vs ws) : WRs K (unF F d) al vs ws := Paired.imp' r fun v w _ r => WR.drop hd r
theorem KWR.drop {al : List Addr} {vs : List (Key × V)} {ws : List (Key × W)} (r : KWR K F al vs ws) : KWR K (unF F d) al vs ws := Paired.imp' r fun v w _ r => ⟨r.1, WR.drop hd r.2⟩
end
end VS
set_option Elab.async false
set_option linter.all false
set_option maxRecDepth 100000
set_option maxHeartbeats 1000000
/-! VSU: dict displays with entries. -/
namespace VS
open PySem PySem.Spec PyProof.Rows L2
end VS
set_option Elab.async false
set_option linter.all false
set_option maxRecDepth 100000
set_option maxHeartbeats 1000000
/-! VSZ: zip of two lists where the tuple handed out is kept by a plain name. -/
namespace VS
open PySem PySem.Spec PyProof.Rows L2
/-! in terms of the store: the items are data -/
end VS
set_option Elab.async false
set_option linter.all false
set_option maxRecDepth 100000
set_option maxHeartbeats 1000000
/-! VSC: a set comprehension of ints with two clauses, without tests. -/
namespace Sc2
open PySem PySem.Spec PyProof.Rows L2
abbrev two (el ta ia tb ib : Expr) (sc : Scope) (ps : Pos) : Expr := .SetComp el [⟨ta, ia, [], 0⟩, ⟨tb, ib, [], 0⟩] sc ps
end Sc2
namespace VS
open PySem PySem.Spec PyProof.Rows L2
end VS
set_option Elab.async false
set_option linter.all false
set_option maxRecDepth 100000
set_option maxHeartbeats 1000000
/-! VSX: list.extend by a tuple. -/
namespace VS
open PySem PySem.Spec PyProof.Rows L2
/-! ### is True, is False -/
end VS
set_option Elab.async false
set_option linter.all false
set_option maxRecDepth 100000
set_option maxHeartbeats 1000000
/-! VSY: a written table with keys that are pairs, looked up at once. -/
namespace VS
open PySem PySem.Spec PyProof.Rows L2
/-! ### in the layer -/
section
variable {K : Frg} {F : Hp} {al : List Addr} {st : Store} {H H' : Hp}
theorem Rel.same (R : Rel K F al st H) (e : Same H H') : Rel K F al st H' := ⟨R.sub.trans e, R.len, R.nd, fun n a c h1 h2 => by
  have h := R.cell n a c h1 h2
  refine h.move Ext.refl ?_ (fun q => q)
  obtain ⟨o, ho⟩ := h.some
  rw [e _ _ ho, ho]⟩
end
end VS
set_option Elab.async false
set_option linter.all false
set_option maxRecDepth 100000
set_option maxHeartbeats 1000000
/-! VSV: str(n), int(text), split, the signs of a text. -/
namespace VS
open PySem PySem.Spec PyProof.Rows L2
end VS
set_option Elab.async false
set_option linter.all false
set_option maxRecDepth 100000
set_option maxHeartbeats 1000000
/-! VSM: min and max of a tuple of ints. -/
namespace VS
open PySem PySem.Spec PyProof.Rows L2
end VS
set_option Elab.async false
set_option linter.all false
set_option maxRecDepth 100000
set_option maxHeartbeats 1000000
/-! VSN: dicts made of pairs. -/
namespace VS
open PySem PySem.Spec PyProof.Rows L2
/-! in terms of the store -/
end VS
set_option Elab.async false
set_option linter.all false
set_option maxRecDepth 100000
set_option maxHeartbeats 1000000
/-! VSP: a branch that is never come to. -/
namespace VS
open PySem PySem.Spec PyProof.Rows L2
end VS
set_option Elab.async false
set_option linter.all false
set_option maxRecDepth 100000
set_option maxHeartbeats 1000000
/-! VSQ: list.index of texts. -/
namespace VS
open PySem PySem.Spec PyProof.Rows L2
end VS
set_option Elab.async false
set_option linter.all false
set_option maxRecDepth 100000
set_option maxHeartbeats 1000000
/-! VSO: list(d), list(d.values()), d == {}. -/
namespace VS
open PySem PySem.Spec PyProof.Rows L2
/-! in terms of the store -/
end VS
set_option Elab.async false
set_option linter.all false
set_option maxRecDepth 100000
set_option maxHeartbeats 1000000
/-! VSL: slices of lists with a step. -/
namespace VS
open PySem PySem.Spec PyProof.Rows L2
/-! in terms of the store -/
end VS
set_option Elab.async false
set_option linter.all false
set_option maxRecDepth 100000
set_option maxHeartbeats 1000000
/-! VSB: how often a text stands in a list. -/
namespace VS
open PySem PySem.Spec PyProof.Rows L2
end VS
set_option Elab.async false
set_option linter.all false
set_option maxRecDepth 100000
set_option maxHeartbeats 1000000
/-! VX1: own exceptions as values: made with an own __init__, asked for their class and their field. -/
namespace VS
open PySem PySem.Spec PyProof.Rows L2
section
variable {X : Cx} {e : Expr} {es : List Expr} {ta : TA} {p p1 p2 pos : Pos}
/-- C(e, ..) as a value, C with an own __init__ -/
theorem pe_oexG {x : Str} {C fI : Addr} {k : Nat} {fd : FuncData} {ps : List Str} {sp : Sp} (T : OexC X.K C) (iC : PySem.W.findIn X.K (.ref C) "__init__" = some (some (.ref fI))) (tI : PySem.W.typeIn X.K (.ref fI) = some (.type "function"))
    (F1 : FnG X.prog X.w X.K X.mg X.base k fI fd ps sp) (gd : X.A.guards = some []) (hr : Room (k + 1) X.A) (hb : Binds X.K fd ps []) (hx : Passes (L2.CX X.prog X.w) X (fun _ _ _ => False)) (hg : Gl X x) (hm : X.mg x = some (.ref C)) (ha : PA X (e :: es) ta)
    (hdb : (x == ("__debug__" : Str)) = false := by decide) (he : starEach (e :: es) X.env = (false, eval e X.env) :: starEach es X.env := by rfl) (hpl : (backTo pos (starEach es X.env)).any (·.1) = false := by rfl) :
    PE X (.Call (.Name x p) (e :: es) [] pos) (fun σ H Q => ta σ H fun vs H1 => vs.length ≤ 1000 ∧ ∀ a, H1 a = none → sp (.ref a :: vs) (upd H1 a (exo a C none)) (fun v H2 => v = .non ∧ Q (.ref a) H2) (fun _ _ _ => False)) := by
  refine ⟨fun pins s σ H Q I h => ?_⟩
  obtain ⟨nm, q, N, bs, bm, sn, sub, ab, col, dd, k0, k1, k2, k3, k5, hC, hbm⟩ := T.cls
  refine wpAny_Call_Name_kw (ld_glob I hg hm ?_ hdb)
  refine PySem.W.callWith_K (h₀ := X.base) I.ok.mod.kin T.kC (thn (ha.run pos pins s σ H _ I h) fun us s1 ⟨vs, H1, I1, r1, hz, q1⟩ => ⟨I1.kIn, ?_⟩) he hpl
  show wpAny _ _ (call (.ref C) us) _ _ _
  obtain ⟨hp, g, dr, tk, os⟩ := s1
  have hsz : hp.objs.size ≤ hp.objs.size + 1 := Nat.le_succ _
  have hn : H1 (hp.objs.size + 1) = none := I1.hok.fresh hsz
  have hq := q1 (hp.objs.size + 1) hn
  have kk : ∀ b o, hp.get? b = some o → ((hp.push (PySem.W.kdv_tup us)).push (PySem.HandSPX.excO C hp.objs.size)).get? b = some o := fun b o e => Heap.get?_push_of_some _ (Heap.get?_push_of_some _ e)
  have hget : ((hp.push (PySem.W.kdv_tup us)).push (PySem.HandSPX.excO C hp.objs.size)).get? (hp.objs.size + 1) = some (PySem.HandSPX.excO C hp.objs.size) := by heap_get
  have I2 : Inv X pins σ (L2.upd H1 (hp.objs.size + 1) (exo (hp.objs.size + 1) C none)) ⟨(hp.push (PySem.W.kdv_tup us)).push (PySem.HandSPX.excO C hp.objs.size), g, dr, tk, os⟩ :=
    I1.laid (t' := tk) (a := hp.objs.size + 1) (o := exo (hp.objs.size + 1) C none) (h' := (hp.push (PySem.W.kdv_tup us)).push (PySem.HandSPX.excO C hp.objs.size)) kk hsz (exo_ok hget)
  have r2 : Vals (V.ref (hp.objs.size + 1) :: vs) (Value.ref (hp.objs.size + 1) :: us) := .cons rfl r1
  have hl : (Value.ref (hp.objs.size + 1) :: us).length = ps.length := by
    have e := r2.length
    rw [F1.len _ _ _ _ hq] at e
    exact e.symm
  have hus : us.length ≤ sizeLine := by
    rw [← Paired.length r1, sizeLine_eq]
    omega
  have b := hb ⟨(hp.push (PySem.W.kdv_tup us)).push (PySem.HandSPX.excO C hp.objs.size), g, dr, tk, os⟩ (Value.ref (hp.objs.size + 1) :: us) I2.kIn
  simp only [List.append_nil] at b
  have nha : ∀ {b : Addr} {o : Obj}, hp.get? b = some o → b ≠ hp.objs.size + 1 := fun {b o} z => Nat.ne_of_lt (Nat.lt_of_lt_of_le (Heap.lt_size z) hsz)
  have up : ∀ {b : Addr}, b ≠ hp.objs.size + 1 → H1 b = none → L2.upd H1 (hp.objs.size + 1) (exo (hp.objs.size + 1) C none) b = none := fun {b} hb n => by rw [upd_ne hb]; exact n
  refine wpAny_call (PySem.HandSPX.call_own F.excBase_ValueError (fun Y => PySem.HandSPX.refsVE_contains Y bm hbm) (I1.kIn _ _ hC) (PySem.W.looks_findIn I1.kIn iC) (fun self => PySem.W.bind_fn I1.kIn self tI) hus
    (codeAny_mono (F1.run _ X.stack _ _ ⟨Value.ref (hp.objs.size + 1) :: us, []⟩ (Value.ref (hp.objs.size + 1) :: us) _ _ (fun _ _ _ => False) (by exact gd) (hr.make C us []) (I2.env0.make C us []) (b hl) r2 hq) fun r s' hq' => ?_))
  cases r with
  | error er => exact hx pins σ _ _ er s' I2 hq'
  | ok fl =>
    cases fl with
    | ret u =>
      obtain ⟨v, H2, os2, bare2, un2, hok2, rv, ev, q2⟩ := hq'
      subst ev
      obtain ⟨h2, g2, d2, t2, os'⟩ := s'
      have U : Un (frs X.stack) [] H1 H2 hp h2 := {
        keep := fun b o z n hf hx => un2.keep b o (kk b o z) (up (nha z) n) hf hx
        slot := fun b o z n hf hx => un2.slot b o (kk b o z) (up (nha z) n) hf hx
        free := fun b o z n hx => un2.free b o (kk b o z) (up (nha z) n) hx
        there := fun b o z hx => un2.there b o (kk b o z) hx
        tups := fun b xs z => un2.tups b xs (by rw [upd_ne (ne_of_none z hn)]; exact z)
        frzs := fun b o v z => un2.frzs b o v (by rw [upd_ne (ne_of_none z hn)]; exact z)
        tbls := fun b ps z => by
          obtain ⟨m, e⟩ := un2.tbls b ps (by rw [upd_ne (ne_of_none z hn)]; exact z)
          exact ⟨m, e⟩ }
      have J : Inv X pins σ H2 ⟨h2, g2, d2, t2, os'⟩ := I1.call' (ch := []) os2 U hok2 bare2 (fun b z => absurd z (by simp))
      exact ⟨rv, .ref (hp.objs.size + 1), H2, J, rfl, q2⟩
    | next => exact False.elim hq'
    | brk => exact False.elim hq'
    | cont => exact False.elim hq'
/-- B.__init__(self, ..), B an own class over ValueError without own __init__ -/
theorem pe_hinit {b : Str} {Cb : Addr} {mc : Value} {pl : Sem Bool} (hg : Gl X b) (hm : X.mg b = some (.ref Cb)) (rd : PySem.W.readsIn X.K Cb mc = true) (ga : PySem.W.specialIn X.K (.ref Cb) "__getattribute__" = some (some (.builtin "type.__getattribute__")))
    (at_ : PySem.W.findCls X.K (.ref Cb) mc "__init__" = some (.val (.builtin "ValueError.__init__"))) (ha : PA X (e :: es) ta)
    (hc : eval (.Call (.Attribute (.Name b p1) "__init__" p2) (e :: es) [] pos) X.env = (do
      let ov ← eval (.Name b p1) X.env
      standAt p2.atName
      let (f, first) ← holding [ov] (getMethod ov "__init__" pl)
      callWith pos f first (backTo pos (starEach (e :: es) X.env)) (backToKw pos (keywordEach [] X.env))) := by rfl)
    (hdb : (b == ("__debug__" : Str)) = false := by decide)
    (he : starEach (e :: es) X.env = (false, eval e X.env) :: starEach es X.env := by rfl) (hpl : (backTo pos (starEach es X.env)).any (·.1) = false := by rfl) :
    PE X (.Call (.Attribute (.Name b p1) "__init__" p2) (e :: es) [] pos) (tVeI X.K ta) := by
  refine ⟨fun pins s σ H Q I h => ?_⟩
  refine PySem.W.methodCall_KW (ld_glob I hg hm ?_ hdb) hc
  refine PySem.W.method_cls I.kIn ga (PySem.W.cls_value I.kIn rd at_ (by decide +kernel) ?_)
  show wpAny _ _ (callWith pos (Value.builtin "ValueError.__init__") [] (backTo pos (starEach (e :: es) X.env)) []) _ _ _
  refine PyProof.Rows.callWith_method1 (thn (ha.run pos pins _ σ H _ (I.tok _) h) fun us s1 ⟨vs, H1, I1, r1, a, C, ws, ev, hl, T, ea, q⟩ => ?_) he hpl
  subst ev
  cases r1 with
  | @cons _ u0 _ ur ra rw' =>
    obtain rfl : u0 = Value.ref a := ra
    have hlen : ur.length ≤ sizeLine := by
      rw [← Paired.length rw', sizeLine_eq]
      omega
    exact oinit_ok T I1 ea hlen fun s' J => ⟨.non, H1, J, rfl, q⟩
end
/-- at a: an exception of the class at C, with or without a dict -/
def ErO (H : Hp) (a C : Addr) : Prop := H a = some (ExO (.ref C) a) ∨ ∃ d fs, H a = some (exo a C (some d)) ∧ H d = some (exd d fs)
/-- what the class C must say, so that isinstance asks its instances rightly -/
structure ErC (K : Frg) (C : Addr) : Prop where
  hc : (PySem.W.clsIn K C).isSome = true
  hg : PySem.W.findIn K (.ref C) "__getattribute__" = some (some (.builtin "BaseException.__getattribute__"))
  hk : PySem.W.findIn K (.ref C) "__getattr__" = some none
  hs : PySem.W.subIn K (.ref C) (.type "BaseException") = some true
  hd : PySem.W.hasDictIn K C = true
  ha : PySem.W.findIn K (.ref C) "__class__" = some (some (.builtin "object.__class__"))
  hn : PySem.W.specialIn K (.builtin "object.__class__") "__get__" = some (some (.builtin "getset_descriptor.__get__"))
  ht : PySem.W.takesIn K (.builtin "object.__class__") = some true
  hm : PySem.W.mroIn K C (.type "object") = some true
section
variable {X : Cx} {pins : List (Addr × Obj)} {σ : L2.St} {H : Hp} {s : Shared} {a C : Addr}
theorem ErO.inst (I : Inv X pins σ H s) (h : ErO H a C) : ∃ ox od, PySem.W.InstAt s.heap a ox C od := by
  rcases h with h | ⟨d, fs, h, hd⟩
  · obtain ⟨⟨oe, vs, ho, hz, hv, _⟩, _, _⟩ := I.hok a _ h
    obtain ⟨oc, oo, oda, osl⟩ := oe
    obtain ⟨h1, h2⟩ := hz
    dsimp only at h1 h2 hv
    subst h1 h2 hv
    exact ⟨_, none, ho, rfl, rfl, trivial⟩
  · obtain ⟨t1, ho⟩ := exo_at I.hok h
    obtain ⟨mA, hns, _⟩ := exd_at I.hok hd
    obtain ⟨o, es, ep, e1, _⟩ := hns
    exact ⟨_, some o, ho, rfl, rfl, e1⟩
/-- isinstance(e, c), e an exception among the values -/
def rIsEr (K : Frg) : List V → Hp → VK → Prop := fun xs H Q => ∃ (a C : Addr) (c : V) (cv : Value) (b : Bool), xs = [.ref a, c] ∧ (∀ u, RelV c u → u = cv) ∧ ErO H a C ∧ ErC K C ∧ PySem.W.kitOne K (.ref C) cv = some b ∧ Q (.bl b) H
theorem call_isEr : CallR X (.builtin "isinstance") (rIsEr X.K) := by
  intro pins s σ H xs us Q I r h
  obtain ⟨a, C, c, cv, b, rfl, hcv, ho, T, e, q⟩ := h
  cases r with
  | cons rx rr =>
    cases rr with
    | cons rt rr =>
      cases rr
      cases rx
      have ec := hcv _ rt
      subst ec
      obtain ⟨ox, od, J⟩ := ho.inst I
      exact PySem.W.kia_one (PySem.W.kitx_exc T.hc T.hg T.hk T.hs T.ha T.hn T.ht T.hm) I.kIn J e (fun z => nomatch z) fun tk => ⟨.bl b, H, I.kept (t' := tk) fun _ _ z => z, rfl, q⟩
/-- e.f, e an exception among the values -/
def tXr (K : Frg) (f : Str) (te : TE) : TE := fun σ H Q => te σ H fun x H1 => ∃ (a C dd : Addr) (fs : List (Str × V)) (v : V), x = .ref a ∧ XfC K C ∧ PySem.W.findIn K (.ref C) f = some none ∧ H1 a = some (exo a C (some dd)) ∧ H1 dd = some (exd dd fs) ∧ fs.lookup f = some v ∧ Q v H1
theorem pe_xr {e : Expr} {te : TE} {pos : Pos} {n : Str} (he : PE X e te) (hb : attributeBase e n X.env (eval e X.env) = eval e X.env := by rfl) : PE X (.Attribute e n pos) (tXr X.K n te) := by
  refine ⟨fun pins s σ H Q I h => ?_⟩
  refine attr_of hb (thn (he.run pins s σ H _ I h) fun u s1 hh => ?_)
  obtain ⟨x, H1, I1, rx, a, C, dd, fs, v, ex, T, hno, ea, ed, l, q⟩ := hh
  subst ex
  obtain rfl : u = Value.ref a := rx
  obtain ⟨t1, ho⟩ := exo_at I1.hok ea
  obtain ⟨mA, hns, hr⟩ := exd_at I1.hok ed
  obtain ⟨od, hod, hl⟩ := lookIn_ns hns
  obtain ⟨u, hu, ru⟩ := RelO.some_of (v := v) (o := mA n) (by rw [← l]; exact hr n)
  have J : PySem.W.InstAt s1.heap a _ C (some od) := ⟨ho, rfl, rfl, hod⟩
  exact HandSPX.exc_get I1.kIn J T.ga T.gg T.exC (PySem.W.findObj_own T.hdC hno rfl (by rw [hl, hu])) (handed_of ru) ⟨v, H1, I1.tok _, ru, q⟩
end
end VS
set_option Elab.async false
set_option linter.all false
set_option maxRecDepth 100000
set_option maxHeartbeats 1000000
/-! VX2: what the written part says of the program's classes of errors, all asked at once. -/
namespace VS
open PySem PySem.Spec PyProof.Rows L2
/-- a class of errors by its name, with the name of its field -/
abbrev ErN := Str × Option Str
/-- the classes of errors: all hang on the first one, that one on ValueError -/
def erS (c t : Str) : Bool := (c == t || t == ("HitchError" : Str)) || t == ("ValueError" : Str)
def clA (K : Frg) (x : Str) : Option Addr := match PySem.W.nsIn K mainGlobals x with
  | some (some (.ref C)) => some C
  | _ => none
theorem clA_ns {K : Frg} {x : Str} {C : Addr} (h : clA K x = some C) : PySem.W.nsIn K mainGlobals x = some (some (.ref C)) := by
  unfold clA at h
  split at h
  · rename_i D e
    cases h
    exact e
  · cases h
def ercB (K : Frg) (C : Addr) : Bool := (PySem.W.clsIn K C).isSome && (decide (PySem.W.findIn K (.ref C) "__getattribute__" = some (some (.builtin "BaseException.__getattribute__"))) && (decide (PySem.W.findIn K (.ref C) "__getattr__" = some none) && (decide (PySem.W.subIn K (.ref C) (.type "BaseException") = some true) &&
  (PySem.W.hasDictIn K C && (decide (PySem.W.findIn K (.ref C) "__class__" = some (some (.builtin "object.__class__"))) && (decide (PySem.W.specialIn K (.builtin "object.__class__") "__get__" = some (some (.builtin "getset_descriptor.__get__"))) &&
  (decide (PySem.W.takesIn K (.builtin "object.__class__") = some true) && decide (PySem.W.mroIn K C (.type "object") = some true))))))))
theorem ercB_ok {K : Frg} {C : Addr} (h : ercB K C = true) : ErC K C := by
  unfold ercB at h
  simp only [Bool.and_eq_true, decide_eq_true_eq] at h
  obtain ⟨h1, h2, h3, h4, h5, h6, h7, h8, h9⟩ := h
  exact ⟨h1, h2, h3, h4, h5, h6, h7, h8, h9⟩
def oexB (K : Frg) (C : Addr) : Bool := (match K.lookup C with
  | some ⟨.type "type", _, .cls cd, sl⟩ => (match cd.mro, sl.toList with
    | .ref C' :: bm, [_, _, _, _, some (.builtin n), _] => C' == C && n == "ValueError.__new__" && !cd.hasDel && cd.hasDict && PySem.HandSPX.refsVE bm
    | _, _ => false)
  | _ => false) && (decide (PySem.W.findIn K (.ref C) "__setattr__" = some (some (.builtin "object.__setattr__"))) && (decide (PySem.W.subIn K (.ref C) (.type "BaseException") = some true) && (decide (PySem.W.typeIn K (.ref C) = some (.type "type")) && PySem.W.keepIn K (.ref C))))
theorem oexB_ok {K : Frg} {C : Addr} (h : oexB K C = true) : OexC K C := by
  unfold oexB at h
  rw [Bool.and_eq_true] at h
  obtain ⟨q, h⟩ := h
  simp only [Bool.and_eq_true, decide_eq_true_eq] at h
  obtain ⟨h2, h3, h4, h5⟩ := h
  refine ⟨?_, h2, h3, h4, h5⟩
  split at q
  · rename_i dd cd sl ho
    split at q
    · rename_i C' bm k0 k1 k2 k3 n k5 hm hs
      simp only [Bool.and_eq_true, beq_iff_eq, Bool.not_eq_true'] at q
      obtain ⟨⟨⟨⟨rfl, rfl⟩, hdel⟩, hdc⟩, ht⟩ := q
      obtain ⟨nm, bs, mro, ns, qn, hd, sn, sub, ab, col, del⟩ := cd
      dsimp only at hm hdel hdc
      subst hm hdel hdc
      have hsl : sl = #[k0, k1, k2, k3, some (.builtin "ValueError.__new__"), k5] := by
        obtain ⟨l⟩ := sl
        simp only at hs
        rw [hs]
      subst hsl
      exact ⟨nm, qn, ns, bs, bm, sn, sub, ab, col, dd, k0, k1, k2, k3, k5, ho, ht⟩
    · cases q
  · cases q
abbrev veB : List Value := [.type "ValueError", .type "Exception", .type "BaseException", .type "object"]
/-- a class alone -/
def erB1 (K : Frg) (n : ErN) : Bool := match clA K n.1 with
  | none => false
  | some C => (ercB K C && PySem.W.keepIn K (.ref C)) && (match n.2 with
    | none => PySem.W.excIn K C veB "ValueError.__new__"
    | some f => oexB K C && (xfB K C && (decide (PySem.W.findIn K (.ref C) f = some none) && (match PySem.W.findIn K (.ref C) "__init__" with
      | some (some (.ref fI)) => decide (PySem.W.typeIn K (.ref fI) = some (.type "function"))
      | _ => false))))
/-- each class against each one -/
def erB2 (K : Frg) (ns : List ErN) : Bool := ns.all fun n => match clA K n.1 with
  | none => false
  | some C => decide (PySem.W.kitOne K (.ref C) (.type "ValueError") = some true) && ns.all fun m => match clA K m.1 with
    | none => false
    | some D => decide (PySem.W.kitOne K (.ref C) (.ref D) = some (erS n.1 m.1))
def erB (K : Frg) (ns : List ErN) : Bool := ns.all (erB1 K) && erB2 K ns
/-- what is known of the classes of errors -/
structure Ers (K : Frg) (ns : List ErN) : Prop where
  one : ∀ n ∈ ns, ∃ C, clA K n.1 = some C ∧ ErC K C ∧ PySem.W.keepIn K (.ref C) = true
  none_ : ∀ x, (x, none) ∈ ns → ∀ C, clA K x = some C → PySem.W.excIn K C veB "ValueError.__new__" = true
  init : ∀ x f, (x, some f) ∈ ns → ∀ C, clA K x = some C → OexC K C ∧ XfC K C ∧ PySem.W.findIn K (.ref C) f = some none ∧ ∃ fI, PySem.W.findIn K (.ref C) "__init__" = some (some (.ref fI)) ∧ PySem.W.typeIn K (.ref fI) = some (.type "function")
  ve : ∀ n ∈ ns, ∀ C, clA K n.1 = some C → PySem.W.kitOne K (.ref C) (.type "ValueError") = some true
  two : ∀ n ∈ ns, ∀ m ∈ ns, ∀ C D, clA K n.1 = some C → clA K m.1 = some D → PySem.W.kitOne K (.ref C) (.ref D) = some (erS n.1 m.1)
theorem erB_ok {K : Frg} {ns : List ErN} (h : erB K ns = true) : Ers K ns := by
  unfold erB at h
  rw [Bool.and_eq_true] at h
  obtain ⟨h1, h2⟩ := h
  have k1 : ∀ n ∈ ns, erB1 K n = true := List.all_eq_true.mp h1
  have k2 := List.all_eq_true.mp h2
  have a : ∀ n ∈ ns, ∃ C, clA K n.1 = some C := fun n hn => by
    have := k1 n hn
    unfold erB1 at this
    cases e : clA K n.1 with
    | none => rw [e] at this; cases this
    | some C => exact ⟨C, rfl⟩
  have b : ∀ n ∈ ns, ∀ C, clA K n.1 = some C → (ercB K C && PySem.W.keepIn K (.ref C)) = true ∧ (match n.2 with
    | none => PySem.W.excIn K C veB "ValueError.__new__"
    | some f => oexB K C && (xfB K C && (decide (PySem.W.findIn K (.ref C) f = some none) && (match PySem.W.findIn K (.ref C) "__init__" with
      | some (some (.ref fI)) => decide (PySem.W.typeIn K (.ref fI) = some (.type "function"))
      | _ => false)))) = true := fun n hn C e => by
    have := k1 n hn
    unfold erB1 at this
    rw [e] at this
    exact Bool.and_eq_true_iff.mp this
  have c : ∀ n ∈ ns, ∀ C, clA K n.1 = some C → decide (PySem.W.kitOne K (.ref C) (.type "ValueError") = some true) = true ∧ (ns.all fun m => match clA K m.1 with
    | none => false
    | some D => decide (PySem.W.kitOne K (.ref C) (.ref D) = some (erS n.1 m.1))) = true := fun n hn C e => by
    have := k2 n hn
    rw [e] at this
    exact Bool.and_eq_true_iff.mp this
  refine ⟨fun n hn => ?_, fun x hx C e => (b _ hx C e).2, fun x f hx C e => ?_, fun n hn C e => of_decide_eq_true (c n hn C e).1, fun n hn m hm C D e1 e2 => ?_⟩
  · obtain ⟨C, e⟩ := a n hn
    obtain ⟨q1, q2⟩ := Bool.and_eq_true_iff.mp (b n hn C e).1
    exact ⟨C, e, ercB_ok q1, q2⟩
  · have q := (b _ hx C e).2
    dsimp only at q
    rw [Bool.and_eq_true, Bool.and_eq_true, Bool.and_eq_true] at q
    obtain ⟨q1, q2, q3, q4⟩ := q
    refine ⟨oexB_ok q1, xfB_ok q2, of_decide_eq_true q3, ?_⟩
    split at q4
    · rename_i fI ef
      exact ⟨fI, ef, of_decide_eq_true q4⟩
    · cases q4
  · have q := List.all_eq_true.mp (c n hn C e1).2 m hm
    rw [e2] at q
    exact of_decide_eq_true q
end VS
set_option Elab.async false
set_option linter.all false
set_option maxRecDepth 100000
set_option maxHeartbeats 1000000
/-! VX3: exceptions as values, by denotations. -/
namespace VS
open PySem PySem.Spec PyProof.Rows L2
/-- the __init__ of an own class of errors: it keeps its argument -/
def spInit (K : Frg) (f : Str) : Sp := fun vs H Q _ => ∃ (a C : Addr) (v : V), vs = [.ref a, v] ∧ OexC K C ∧ PySem.W.findIn K (.ref C) f = some none ∧ H a = some (exo a C none) ∧
  ∀ dx, H dx = none → dx ≠ a → Q .non (L2.upd (L2.upd H dx (exd dx [(f, v)])) a (exo a C (some dx)))
theorem fnG_init {P : Program} {w : World} {K : Frg} {mg : Str → Option Value} {base : Heap} {x qual : Str} {st : Stmt} {fI : Addr} {fd : FuncData} {N ps : List Str} {k : Nat} {f m : Str} (F : Fun K x qual st fI fd) (S : FnScope N ps (defScope st)) (hl : ps.length = 2)
    (hb : ∀ (cdv : Value) (A : Around) (outer : List PySem.Env) (s : Shared) (H : Hp) (E : XK), PSs (cxOf (L2.CX P w) P w K mg base N qual (defScope st) fI cdv A outer s H E) (defBody st) (tSeq (tDrop (tVeI K (tCons (tVar 0) (tCons (tC (.str m)) tNil)))) (tOst K f (tVar 0) (tVar 1)))) :
    FnG P w K mg base (k + 1) fI fd ps (spInit K f) := by
  refine fn_ofG F S (fun vs H Q E h => by obtain ⟨a, C, v, rfl, _⟩ := h; exact hl.symm) (fun cdv A out s H vs Q E gd hr h => ⟨_, hb cdv A out s H E, ?_⟩)
  obtain ⟨a, C, v, rfl, T, no, ha, h⟩ := h
  have s0 : (L2.start N [.ref a, v])[0]? = some (some (.ref a)) := by unfold L2.start; simp
  have s1 : (L2.start N [.ref a, v])[1]? = some (some v) := by unfold L2.start; simp
  exact ⟨.ref a, s0, a, C, [.str m], rfl, (by show 1 ≤ 1000; omega), T, ha, v, s1, .ref a, s0, a, C, rfl, T, no, .inl ⟨ha, fun dx h1 h2 => h dx h1 h2⟩⟩
abbrev ErM (mg : Str → Option Value) (K : Frg) (ns : List ErN) : Prop := ∀ n ∈ ns, ∀ C, clA K n.1 = some C → mg n.1 = some (.ref C)
def mkEr0 (x : Str) (ca : Ev) : Ev := fun env st => (ca env st).bind fun _ st1 => .ok (.c st1.length) (st1 ++ [.err ⟨x, none⟩])
def mkErI (x f : Str) (ca : Ev) : Ev := fun env st => (ca env st).bind fun w st1 => match w with
  | .d y => .ok (.c st1.length) (st1 ++ [.err ⟨x, some (f, y)⟩])
  | _ => .bad
def isEr (ns : List ErN) (T : Str) (ca : Ev) : Ev := fun env st => (ca env st).bind fun w st1 => match w with
  | .c n => match st1[n]? with
    | some (.err e) => if (ns.any fun p => decide (p.1 = e.cls)) = true then .ok (.d (.bool (erS e.cls T))) st1 else .bad
    | _ => .bad
  | _ => .bad
def fldEr (ns : List ErN) (f : Str) (ca : Ev) : Ev := fun env st => (ca env st).bind fun w st1 => match w with
  | .c n => match st1[n]? with
    | some (.err e) => match e.fs with
      | some (g, y) => if g = f ∧ (e.cls, some f) ∈ ns then .ok (.d y) st1 else .bad
      | none => .bad
    | _ => .bad
  | _ => .bad
section
variable {C : Cxt} {ns : List ErN}
theorem get_last {α : Type} (xs : List α) (x : α) : (xs ++ [x])[xs.length]? = some x := by simp
theorem se_er0 {x : Str} {a : Expr} {ca : Ev} {p pos : Pos} (E : Ers C.X.K ns) (M : ErM C.X.mg C.X.K ns) (hx : (x, none) ∈ ns) (ha : SE C a ca) (hg : Gl C.X x := by rfl) (hs : starEach [a] C.X.env = (false, eval a C.X.env) :: starEach [] C.X.env := by rfl) (hdb : (x == ("__debug__" : Str)) = false := by decide) :
    SE C (.Call (.Name x p) [a] [] pos) (mkEr0 x ca) := by
  obtain ⟨D, e, T, kC⟩ := E.one _ hx
  refine PE.imp (pe_exc1 PySem.F.excBase_ValueError (E.none_ x hx D e) (M _ hx D e) kC hg ha hs hdb) fun σ H Q => ?_
  rintro ⟨F, al, env, st, R, En, h⟩
  refine ⟨F, al, env, st, R, En, h.step fun F1 al1 st1 H1 w e1 R1 h1 v rv b hb => ?_⟩
  obtain ⟨x1, R2⟩ := R1.newC (o := ExO (.ref D) b) (c := .err ⟨x, none⟩) hb ⟨R1.freeF hb, D, clA_ns e, upd_same⟩
  exact h1 _ _ _ x1 R2 _ ⟨b, by rw [← R1.len]; exact get_last _ _, rfl⟩
theorem se_isEr {T : Str} {a : Expr} {ca : Ev} {p p2 pos : Pos} (E : Ers C.X.K ns) (M : ErM C.X.mg C.X.K ns) (hT : T ∈ ns.map (·.1)) (ha : SE C a ca) (hm : C.X.mg "isinstance" = none) (hg : Gl C.X "isinstance" := by rfl) (hgT : Gl C.X T := by rfl) (hd : (T == ("__debug__" : Str)) = false := by decide)
    (hs : starEach [a, .Name T p2] C.X.env = (false, eval a C.X.env) :: starEach [.Name T p2] C.X.env := by rfl) (hs2 : starEach [.Name T p2] C.X.env = (false, eval (.Name T p2) C.X.env) :: starEach [] C.X.env := by rfl) (hpl : (backTo pos (starEach [.Name T p2] C.X.env)).any (·.1) = false := by rfl) :
    SE C (.Call (.Name "isinstance" p) [a, .Name T p2] [] pos) (isEr ns T ca) := by
  obtain ⟨m, hm1, hm2⟩ := List.mem_map.mp hT
  obtain ⟨D, e, _, _⟩ := E.one m hm1
  rw [hm2] at e
  have hD : C.X.mg T = some (.ref D) := by have := M m hm1 D (by rw [hm2]; exact e); rw [hm2] at this; exact this
  refine PE.imp (pe_callB call_isEr hg hm (by decide +kernel) (pa_cons ha (pa_cons (pe_glob (v := .ref D) hgT hD rfl hd) pa_nil hs2) hs) (by decide) (by decide) hs hpl) fun σ H Q => ?_
  rintro ⟨F, al, env, st, R, En, h⟩
  refine ⟨F, al, env, st, R, En, h.step fun F1 al1 st1 H1 w e1 R1 h1 v rv => ?_⟩
  split at h1
  · rename_i n
    split at h1
    · rename_i er hn
      split at h1
      · rename_i hc
        obtain ⟨q, hq, hqe⟩ := List.any_eq_true.mp hc
        have hqe := of_decide_eq_true hqe
        obtain ⟨b, hb, rfl⟩ := rv
        obtain ⟨_, A, hA, r⟩ := R1.cell _ _ _ hb hn
        obtain ⟨A2, eA, TA, _⟩ := E.one q hq
        have eAA : A2 = A := by
          have := clA_ns eA
          rw [hqe, hA] at this
          cases this
          rfl
        subst eAA
        have kit := E.two q hq m hm1 _ D eA (by rw [hm2]; exact e)
        rw [hqe, hm2] at kit
        have ho : ErO H1 b A2 := by
          obtain ⟨cl, fs⟩ := er
          cases fs with
          | none => exact .inl r
          | some p =>
            obtain ⟨d, v, q1, q2, _⟩ := r
            exact .inr ⟨d, _, q2, R1.sub _ _ q1⟩
        exact ⟨b, A2, .ref D, .ref D, _, rfl, fun u z => z, ho, TA, kit, h1 _ _ _ Ext.refl R1 _ (.bl _)⟩
      · exact h1.elim
    · exact h1.elim
  · exact h1.elim
theorem se_isVe {a : Expr} {ca : Ev} {p p2 pos : Pos} (E : Ers C.X.K ns) (ha : SE C a ca) (hm : C.X.mg "isinstance" = none) (hv : C.X.mg "ValueError" = none) (hg : Gl C.X "isinstance" := by rfl) (hgT : Gl C.X "ValueError" := by rfl)
    (hs : starEach [a, .Name "ValueError" p2] C.X.env = (false, eval a C.X.env) :: starEach [.Name "ValueError" p2] C.X.env := by rfl) (hs2 : starEach [.Name "ValueError" p2] C.X.env = (false, eval (.Name "ValueError" p2) C.X.env) :: starEach [] C.X.env := by rfl) (hpl : (backTo pos (starEach [.Name "ValueError" p2] C.X.env)).any (·.1) = false := by rfl) :
    SE C (.Call (.Name "isinstance" p) [a, .Name "ValueError" p2] [] pos) (isEr ns "ValueError" ca) := by
  refine PE.imp (pe_callB call_isEr hg hm (by decide +kernel) (pa_cons ha (pa_cons (pe_bltn (v := .ty "ValueError") (u := .type "ValueError") hgT hv (by decide +kernel) rfl (by decide) (by decide)) pa_nil hs2) hs) (by decide) (by decide) hs hpl) fun σ H Q => ?_
  rintro ⟨F, al, env, st, R, En, h⟩
  refine ⟨F, al, env, st, R, En, h.step fun F1 al1 st1 H1 w e1 R1 h1 v rv => ?_⟩
  split at h1
  · rename_i n
    split at h1
    · rename_i er hn
      split at h1
      · rename_i hc
        obtain ⟨q, hq, hqe⟩ := List.any_eq_true.mp hc
        have hqe := of_decide_eq_true hqe
        obtain ⟨b, hb, rfl⟩ := rv
        obtain ⟨_, A, hA, r⟩ := R1.cell _ _ _ hb hn
        obtain ⟨A2, eA, TA, _⟩ := E.one q hq
        have eAA : A2 = A := by
          have := clA_ns eA
          rw [hqe, hA] at this
          cases this
          rfl
        subst eAA
        have kit := E.ve q hq _ eA
        have ho : ErO H1 b A2 := by
          obtain ⟨cl, fs⟩ := er
          cases fs with
          | none => exact .inl r
          | some p =>
            obtain ⟨d, v, q1, q2, _⟩ := r
            exact .inr ⟨d, _, q2, R1.sub _ _ q1⟩
        have et : erS er.cls "ValueError" = true := by unfold erS; simp
        rw [et] at h1
        exact ⟨b, A2, .ty "ValueError", .type "ValueError", true, rfl, fun u z => z, ho, TA, kit, h1 _ _ _ Ext.refl R1 _ (.bl _)⟩
      · exact h1.elim
    · exact h1.elim
  · exact h1.elim
theorem se_fldEr {f : Str} {a : Expr} {ca : Ev} {pos : Pos} (E : Ers C.X.K ns) (ha : SE C a ca) (hb : attributeBase a f C.X.env (eval a C.X.env) = eval a C.X.env := by rfl) : SE C (.Attribute a f pos) (fldEr ns f ca) := by
  refine PE.imp (pe_xr ha hb) fun σ H Q => ?_
  rintro ⟨F, al, env, st, R, En, h⟩
  refine ⟨F, al, env, st, R, En, h.step fun F1 al1 st1 H1 w e1 R1 h1 v rv => ?_⟩
  split at h1
  · rename_i n
    split at h1
    · rename_i er hn
      split at h1
      · rename_i g y hfs
        split at h1
        · rename_i hc
          obtain ⟨hg, hin⟩ := hc
          obtain ⟨b, hb, rfl⟩ := rv
          obtain ⟨_, A, hA, r⟩ := R1.cell _ _ _ hb hn
          obtain ⟨A2, eA, _, _⟩ := E.one _ hin
          have eAA : A2 = A := by
            have := clA_ns eA
            rw [hA] at this
            cases this
            rfl
          subst eAA
          obtain ⟨_, xf, no, _⟩ := E.init _ _ hin _ eA
          rw [hfs] at r
          obtain ⟨d, v, q1, q2, q3⟩ := r
          subst hg
          exact ⟨b, A2, d, _, v, rfl, xf, no, q2, R1.sub _ _ q1, by simp [List.lookup], h1 _ _ _ Ext.refl R1 _ q3⟩
        · exact h1.elim
      · exact h1.elim
    · exact h1.elim
  · exact h1.elim
end
/-- the __init__ of a class of errors, at a level -/
def ErI (P : Program) (w : World) (K : Frg) (mg : Str → Option Value) (base : Heap) (ns : List ErN) (k : Nat) : Prop :=
  ∀ x f, (x, some f) ∈ ns → ∀ C fI, clA K x = some C → PySem.W.findIn K (.ref C) "__init__" = some (some (.ref fI)) → ∃ fd ps, FnG P w K mg base k fI fd ps (spInit K f) ∧ Binds K fd ps []
structure ErF (P : Program) (w : World) (K : Frg) (mg : Str → Option Value) (base : Heap) (ns : List ErN) (k : Nat) : Prop where
  e : Ers K ns
  m : ErM mg K ns
  i : ErI P w K mg base ns k
/-- the program's classes of errors -/
def ernsAll : List ErN := [("HitchError", none), ("InvalidLayout", some "index"), ("InvalidRows", some "index"), ("InvalidRings", some "index"), ("InvalidOpens", some "index"), ("InvalidText", some "part"), ("TooMany", some "limit"), ("Farther", some "moves"),
  ("InvalidPieces", none), ("InvalidEnd", none), ("InvalidMove", none), ("InvalidMoves", none), ("InvalidSight", none), ("InvalidNumber", none), ("InvalidCommand", none), ("NotBetween", none), ("MixedWays", none), ("NotFitting", none), ("Clash", none), ("NothingToUndo", none)]
section
variable {C : Cxt} {ns : List ErN} {k : Nat}
theorem se_erI {x f : Str} {a : Expr} {ca : Ev} {p pos : Pos} (ck : Cok C) (E : Ers C.X.K ns) (M : ErM C.X.mg C.X.K ns) (I : ErI C.X.prog C.X.w C.X.K C.X.mg C.X.base ns k) (hr : Room (k + 1) C.X.A) (hx : (x, some f) ∈ ns) (ha : SE C a ca) (hg : Gl C.X x := by rfl)
    (hs : starEach [a] C.X.env = (false, eval a C.X.env) :: starEach [] C.X.env := by rfl) (hdb : (x == ("__debug__" : Str)) = false := by decide) :
    SE C (.Call (.Name x p) [a] [] pos) (mkErI x f ca) := by
  obtain ⟨D, e, T, kC⟩ := E.one _ hx
  obtain ⟨ox, xf, no, fI, iC, tI⟩ := E.init x f hx D e
  obtain ⟨fd, ps, G, B⟩ := I x f hx D fI e iC
  have hp : Passes (L2.CX C.X.prog C.X.w) C.X (fun _ _ _ => False) := fun pins σ H s e s' I h => by
    obtain ⟨_, _, _, _, _, _, _, _, _, _, _, _, z⟩ := h
    exact z.elim
  refine PE.imp (pe_oexG ox iC tI G ck.gd hr B hp hg (M _ hx D e) (pa_cons ha pa_nil hs) hdb hs (by rfl)) fun σ H Q => ?_
  rintro ⟨F, al, env, st, R, En, h⟩
  refine ⟨F, al, env, st, R, En, h.step fun F1 al1 st1 H1 w e1 R1 h1 v rv => ?_⟩
  split at h1
  · rename_i y
    refine ⟨(by show 1 ≤ 1000; omega), fun b hb => ⟨b, D, v, rfl, ox, no, upd_same, fun dx hdx ne => ⟨rfl, ?_⟩⟩⟩
    rw [upd_ne ne] at hdx
    have eq : L2.upd (L2.upd (L2.upd H1 b (exo b D none)) dx (exd dx [(f, v)])) b (exo b D (some dx)) = L2.upd (L2.upd H1 dx (exd dx [(f, v)])) b (exo b D (some dx)) := by
      funext z
      by_cases z1 : z = b
      · subst z1
        rw [upd_same, upd_same]
      · rw [upd_ne z1, upd_ne z1]
        by_cases z2 : z = dx
        · subst z2
          rw [upd_same, upd_same]
        · rw [upd_ne z2, upd_ne z2, upd_ne z1]
    rw [eq]
    obtain ⟨x1, R2⟩ := R1.newD hdx (exd dx [(f, v)])
    have hb2 : L2.upd H1 dx (exd dx [(f, v)]) b = none := by rw [upd_ne ne.symm]; exact hb
    obtain ⟨x2, R3⟩ := R2.newC (o := exo b D (some dx)) (c := .err ⟨x, some (f, y)⟩) hb2 ⟨R2.freeF hb2, D, clA_ns e, dx, v, upd_same, upd_same, Dq.mono x1.same _ _ rv⟩
    exact h1 _ _ _ (x1.trans x2) R3 _ ⟨b, by rw [← R1.len]; exact get_last _ _, rfl⟩
  · exact h1.elim
end
/-- one class's __init__ -/
def EiOne (P : Program) (w : World) (K : Frg) (mg : Str → Option Value) (base : Heap) (k : Nat) (x f : Str) : Prop :=
  ∀ C fI, clA K x = some C → PySem.W.findIn K (.ref C) "__init__" = some (some (.ref fI)) → ∃ fd ps, FnG P w K mg base k fI fd ps (spInit K f) ∧ Binds K fd ps []
theorem ei_one {P : Program} {w : World} {K : Frg} {mg : Str → Option Value} {base : Heap} {k : Nat} {x f : Str} {C0 fI0 : Addr} {fd : FuncData} {ps : List Str} (a : PySem.W.nsIn K mainGlobals x = some (some (.ref C0))) (b : PySem.W.findIn K (.ref C0) "__init__" = some (some (.ref fI0)))
    (h : FnG P w K mg base k fI0 fd ps (spInit K f)) (hb : Binds K fd ps []) : EiOne P w K mg base k x f := fun C fI e1 e2 => by
  have := clA_ns e1
  rw [a] at this
  cases this
  rw [b] at e2
  cases e2
  exact ⟨fd, ps, h, hb⟩
theorem ei_all {P : Program} {w : World} {K : Frg} {mg : Str → Option Value} {base : Heap} {k : Nat} (h1 : EiOne P w K mg base k "InvalidLayout" "index") (h2 : EiOne P w K mg base k "InvalidRows" "index") (h3 : EiOne P w K mg base k "InvalidRings" "index") (h4 : EiOne P w K mg base k "InvalidOpens" "index")
    (h5 : EiOne P w K mg base k "InvalidText" "part") (h6 : EiOne P w K mg base k "TooMany" "limit") (h7 : EiOne P w K mg base k "Farther" "moves") : ErI P w K mg base ernsAll k := by
  have key : ∀ p ∈ ernsAll, ∀ f, p.2 = some f → EiOne P w K mg base k p.1 f := fun p hp => by
    simp only [ernsAll, List.mem_cons, List.not_mem_nil, or_false] at hp
    rcases hp with rfl | rfl | rfl | rfl | rfl | rfl | rfl | rfl | rfl | rfl | rfl | rfl | rfl | rfl | rfl | rfl | rfl | rfl | rfl | rfl <;> intro f hf <;> cases hf <;> assumption
  exact fun x f hx C fI => key (x, some f) hx f rfl C fI
/-- HitchError.__init__ is ValueError's -/
def HiF (K : Frg) (mg : Str → Option Value) : Prop := ∃ (Ch : Addr) (mc : Value), mg "HitchError" = some (.ref Ch) ∧ PySem.W.readsIn K Ch mc = true ∧ PySem.W.specialIn K (.ref Ch) "__getattribute__" = some (some (.builtin "type.__getattribute__")) ∧ PySem.W.findCls K (.ref Ch) mc "__init__" = some (.val (.builtin "ValueError.__init__"))
section
variable {K : Frg} {h : Heap} {mg : Str → Option Value}
theorem hi_mk (X : K.In h) (G : h.Ns mainGlobals mg) {Ch : Addr} (mc : Value) (a : PySem.W.nsIn K mainGlobals "HitchError" = some (some (.ref Ch))) (r : PySem.W.readsIn K Ch mc = true) (g : PySem.W.specialIn K (.ref Ch) "__getattribute__" = some (some (.builtin "type.__getattribute__"))) (t : PySem.W.findCls K (.ref Ch) mc "__init__" = some (.val (.builtin "ValueError.__init__"))) : HiF K mg :=
  ⟨Ch, mc, PySem.W.mg_of X G a, r, g, t⟩
theorem init_mk {qual : Str} {st : Stmt} {ps : List Str} {f : Addr} {oc : Value} {od an : Option Addr} {osl : Array (Option Value)} {kV doc pm cdv ct : Value}
    (l : K.lookup f = some ⟨oc, od, .func (PySem.W.fnOf "__init__" qual (defArgs st) (defBody st) (defScope st) .none kV doc pm an cdv ct), osl⟩) (c : PySem.W.codeIn K cdv qual = true) (k : PySem.W.keepIn K (.ref f) = true)
    (b : ∀ (kV doc pm : Value) (an : Option Addr) (cdv ct : Value) (us : List Value), us.length = ps.length → bindArgs (PySem.W.fnOf "__init__" qual (defArgs st) (defBody st) (defScope st) .none kV doc pm an cdv ct) ⟨us, []⟩ = pure (ps.zip us)) : ∃ fd, Fun K "__init__" qual st f fd ∧ Binds K fd ps [] :=
  have F := fun_mk (st := st) l c k
  ⟨_, F, F.binds b⟩
theorem erF_mk {P : Program} {w : World} {base : Heap} (X : K.In h) (G : h.Ns mainGlobals mg) (hE : erB K ernsAll = true) (hi : HiF K mg) (h1 : HiF K mg → EiOne P w K mg base 1 "InvalidLayout" "index") (h2 : HiF K mg → EiOne P w K mg base 1 "InvalidRows" "index") (h3 : HiF K mg → EiOne P w K mg base 1 "InvalidRings" "index")
    (h4 : HiF K mg → EiOne P w K mg base 1 "InvalidOpens" "index") (h5 : HiF K mg → EiOne P w K mg base 1 "InvalidText" "part") (h6 : HiF K mg → EiOne P w K mg base 1 "TooMany" "limit") (h7 : HiF K mg → EiOne P w K mg base 1 "Farther" "moves") : ErF P w K mg base ernsAll 1 :=
  ⟨erB_ok hE, fun n hn C e => PySem.W.mg_of X G (clA_ns e), ei_all (h1 hi) (h2 hi) (h3 hi) (h4 hi) (h5 hi) (h6 hi) (h7 hi)⟩
end
end VS
set_option Elab.async false
set_option linter.all false
set_option maxRecDepth 100000
set_option maxHeartbeats 1000000
set_option Elab.async false
set_option linter.all false
set_option maxRecDepth 100000
set_option maxHeartbeats 1000000
set_option Elab.async false
set_option linter.all false
set_option maxRecDepth 100000
set_option maxHeartbeats 1000000
set_option Elab.async false
set_option linter.all false
set_option maxRecDepth 100000
set_option maxHeartbeats 1000000
set_option Elab.async false
set_option linter.all false
set_option maxRecDepth 100000
set_option maxHeartbeats 1000000
set_option Elab.async false
set_option linter.all false
set_option maxRecDepth 100000
set_option maxHeartbeats 1000000
set_option Elab.async false
set_option linter.all false
set_option maxRecDepth 100000
set_option maxHeartbeats 1000000
set_option Elab.async false
set_option linter.all false
set_option maxRecDepth 100000
set_option maxHeartbeats 1000000
set_option Elab.async false
set_option linter.all false
set_option maxRecDepth 100000
set_option maxHeartbeats 1000000
set_option Elab.async false
set_option linter.all false
set_option maxRecDepth 100000
set_option maxHeartbeats 1000000
set_option Elab.async false
set_option linter.all false
set_option maxRecDepth 100000
set_option maxHeartbeats 1000000
namespace RD
open PySem VS
/-- law_well_2: 0 script 1 k 2 cell -/
noncomputable def f_law_well_2 : Fn := fnD 3
    (sq (asg 2 (vIf (boo (bin (fLt) (vr 1) (bcall fLen (aCons (vr 0) aNil)))) (bin fIx (vr 0) (vr 1)) (cst (.int 0))))
    (ret (lstC (aCons (bcall fMax2 (aCons (cst (.int 0)) (aCons (bin fSub (vr 2) (bin fPow (cst (.int 10)) (cst (.int 18)))) aNil))) (aCons (bin fAddR (bin fAddR (bin fMod (bcall fInt (aCons (bcall fAbs (aCons (vr 2) aNil)) aNil)) (bin fAddR (bin fPow (cst (.int 10)) (cst (.int 31))) (cst (.int 33)))) (bin fMul (cst (.int 6700417)) (vr 1))) (cst (.int 257))) (aCons (cst (.int 0)) aNil))))))
/-- law_pick: 0 well 1 bound 2 found 3 stirred -/
noncomputable def f_law_pick : Fn := fnD 4
    (sq (ifS (boo (bin (fGt) (bin fIx (vr 0) (cst (.int 0))) (cst (.int 0)))) (sq (asg 2 (bin fMod (bcall fInt (aCons (bin fIx (vr 0) (cst (.int 0))) aNil)) (vr 1)))
    (sq (asgG (gS (vr 0) (cst (.int 0))) (bin fDiv (bin fIx (vr 0) (cst (.int 0))) (vr 1)))
    (ret (vr 2)))) skip)
    (sq (asgG (gS (vr 0) (cst (.int 2))) (bin fAddR (bin fIx (vr 0) (cst (.int 2))) (cst (.int 1))))
    (sq (asg 3 (bin fMod (bcall fInt (aCons (bin fPow (bin fAddR (bin fIx (vr 0) (cst (.int 1))) (bin fMul (cst (.int 524287)) (bin fIx (vr 0) (cst (.int 2))))) (cst (.int 5))) aNil)) (bin fAddR (bin fPow (cst (.int 10)) (cst (.int 33))) (cst (.int 61)))))
    (sq (asg 3 (bin fMod (bcall fInt (aCons (bin fPow (bin fAddR (vr 3) (bin fMul (cst (.int 2097143)) (bin fIx (vr 0) (cst (.int 2))))) (cst (.int 3))) aNil)) (bin fAddR (bin fPow (cst (.int 10)) (cst (.int 27))) (cst (.int 103)))))
    (ret (bin fMod (bcall fInt (aCons (bin fDiv (vr 3) (cst (.int 4093))) aNil)) (vr 1)))))))
end RD
set_option Elab.async false
set_option linter.all false
set_option maxRecDepth 100000
set_option maxHeartbeats 1000000
namespace RD
open PySem VS
/-- law_kinds: 0 error 1 found -/
noncomputable def f_law_kinds : Fn := fnD 2
    (sq (asg 1 (lstC (aCons (isEr ernsAll "InvalidLayout" (vr 0)) (aCons (isEr ernsAll "InvalidRows" (vr 0)) (aCons (isEr ernsAll "InvalidRings" (vr 0)) aNil)))))
    (sq (asg 1 (bin fAddR (vr 1) (lstC (aCons (isEr ernsAll "InvalidOpens" (vr 0)) (aCons (isEr ernsAll "InvalidText" (vr 0)) (aCons (isEr ernsAll "TooMany" (vr 0)) aNil))))))
    (sq (asg 1 (bin fAddR (vr 1) (lstC (aCons (isEr ernsAll "Farther" (vr 0)) (aCons (isEr ernsAll "InvalidPieces" (vr 0)) (aCons (isEr ernsAll "InvalidEnd" (vr 0)) aNil))))))
    (sq (asg 1 (bin fAddR (vr 1) (lstC (aCons (isEr ernsAll "InvalidMove" (vr 0)) (aCons (isEr ernsAll "InvalidMoves" (vr 0)) (aCons (isEr ernsAll "InvalidSight" (vr 0)) aNil))))))
    (sq (asg 1 (bin fAddR (vr 1) (lstC (aCons (isEr ernsAll "InvalidNumber" (vr 0)) (aCons (isEr ernsAll "InvalidCommand" (vr 0)) (aCons (isEr ernsAll "NotBetween" (vr 0)) aNil))))))
    (sq (asg 1 (bin fAddR (vr 1) (lstC (aCons (isEr ernsAll "MixedWays" (vr 0)) (aCons (isEr ernsAll "NotFitting" (vr 0)) (aCons (isEr ernsAll "Clash" (vr 0)) aNil))))))
    (ret (bin fAddR (vr 1) (lstC (aCons (isEr ernsAll "NothingToUndo" (vr 0)) aNil))))))))))
/-- law_created: 0 text 1 spot 2 bound 3 found -/
noncomputable def f_law_created : Fn := fnD 4
    (sq (asg 3 (lstC (aCons (mkErI "InvalidLayout" "index" (vr 1)) (aCons (mkErI "InvalidRows" "index" (vr 1)) (aCons (mkErI "InvalidRings" "index" (vr 1)) (aCons (mkErI "InvalidOpens" "index" (vr 1)) (aCons (mkErI "InvalidText" "part" (vr 1)) aNil)))))))
    (sq (asg 3 (bin fAddR (vr 3) (lstC (aCons (mkErI "TooMany" "limit" (vr 2)) (aCons (mkErI "Farther" "moves" (vr 2)) (aCons (mkEr0 "InvalidPieces" (vr 0)) (aCons (mkEr0 "InvalidEnd" (vr 0)) (aCons (mkEr0 "InvalidMove" (vr 0)) aNil))))))))
    (sq (asg 3 (bin fAddR (vr 3) (lstC (aCons (mkEr0 "InvalidMoves" (vr 0)) (aCons (mkEr0 "InvalidSight" (vr 0)) (aCons (mkEr0 "InvalidNumber" (vr 0)) (aCons (mkEr0 "InvalidCommand" (vr 0)) aNil)))))))
    (ret (bin fAddR (vr 3) (lstC (aCons (mkEr0 "NotBetween" (vr 0)) (aCons (mkEr0 "MixedWays" (vr 0)) (aCons (mkEr0 "NotFitting" (vr 0)) (aCons (mkEr0 "Clash" (vr 0)) (aCons (mkEr0 "NothingToUndo" (vr 0)) aNil)))))))))))
/-- law_k31: 0 script 1 k 2 well 3 text 4 turn 5 spot 6 bound 7 rows 8 rank 9 one 10 other 11 told 12 plain -/
noncomputable def f_law_k31 : Fn := fnD 13
    (sq (forS (iRg1 (aCons (bcall fMax2 (aCons (cst (.int 1)) (aCons (bcall fMin2 (aCons (cst (.int 3)) (aCons (bcall fLen (aCons (vr 0) aNil)) aNil))) aNil))) aNil)) (tiW (gN 1)) (sq (asg 2 (calR f_law_well_2 (aCons (vr 0) (aCons (vr 1) aNil))))
    (sq (asg 3 (mth "str" fJoin (cst (.str "")) (aCons (lcR (iRg1 (aCons (calR f_law_pick (aCons (vr 2) (aCons (cst (.int 9)) aNil))) aNil)) (tiW (gN 4)) tYesD (bin fIx (cst (.str "abc (-")) (calR f_law_pick (aCons (vr 2) (aCons (cst (.int 6)) aNil)))) [4]) aNil)))
    (sq (asg 5 (bin fIx (lstC (aCons (cst .none) (aCons (cst (.int 0)) (aCons (calR f_law_pick (aCons (vr 2) (aCons (cst (.int 400)) aNil))) (aCons (bin fPow (cst (.int 10)) (cst (.int 30))) aNil))))) (calR f_law_pick (aCons (vr 2) (aCons (cst (.int 4)) aNil)))))
    (sq (asg 6 (bin fIx (lstC (aCons (cst (.int 500)) (aCons (calR f_law_pick (aCons (vr 2) (aCons (cst (.int 900)) aNil))) (aCons (bin fPow (cst (.int 10)) (cst (.int 30))) aNil)))) (calR f_law_pick (aCons (vr 2) (aCons (cst (.int 3)) aNil)))))
    (sq (asg 7 (calR f_law_created (aCons (vr 3) (aCons (vr 5) (aCons (vr 6) aNil)))))
    (sq (forS (iEnu (vr 7)) (tiT 2 (gsCons (gN 8) (gsCons (gN 9) gsNil))) (sq (ifS (tOrD (tNotD (tru (isEr ernsAll "HitchError" (vr 9)))) (tNotD (tru (isEr ernsAll "ValueError" (vr 9))))) (ret (cst (.bool false))) skip)
    (ifS (boo (bin (fEq true) (calR f_law_kinds (aCons (vr 9) aNil)) (lcR (iRg1 (aCons (cst (.int 19)) aNil)) (tiW (gN 10)) tYesD (bin (fEq false) (vr 10) (vr 8)) [10]))) (ret (cst (.bool false))) skip)))
    (sq (asg 11 (bin fAddR (lcR (iSeq (slc mkC (vr 7) noP (part (cst (.int 4))))) (tiW (gN 9)) tYesD (fldEr ernsAll "index" (vr 9)) [9]) (lstC (aCons (fldEr ernsAll "part" (bin fIx (vr 7) (cst (.int 4)))) (aCons (fldEr ernsAll "limit" (bin fIx (vr 7) (cst (.int 5)))) (aCons (fldEr ernsAll "moves" (bin fIx (vr 7) (cst (.int 6)))) aNil))))))
    (sq (ifS (boo (bin (fEq true) (bcall fRepr (aCons (vr 11) aNil)) (bcall fRepr (aCons (bin fAddR (bin fRepR (lstC (aCons (vr 5) aNil)) (cst (.int 5))) (bin fRepR (lstC (aCons (vr 6) aNil)) (cst (.int 2)))) aNil)))) (ret (cst (.bool false))) skip)
    (sq (asg 12 (mkEr0 "HitchError" (vr 3)))
    (ifS (tOrD (boo (bin (fEq true) (calR f_law_kinds (aCons (vr 12) aNil)) (bin fRepR (lstC (aCons (cst (.bool false)) aNil)) (cst (.int 19))))) (tNotD (tru (isEr ernsAll "ValueError" (vr 12))))) (ret (cst (.bool false))) skip)))))))))))
    (ret (cst (.bool true))))
end RD
set_option Elab.async false
set_option linter.all false
set_option maxRecDepth 100000
set_option maxHeartbeats 1000000
/-! TR1: values as trees, cells owned or shared. -/
namespace VS.TR
open PySem PySem.Spec PyProof.Rows L2 VS
/-- a value as a tree: data, a list cell, a dict cell, a tuple cell, the script -/
inductive Tr where
  | d (x : PyData)
  | l (ts : List Tr)
  | k (kvs : List (Key × Tr))
  | t (ts : List Tr)
  | s (xs : List PyData)
  | e (x : Er)
mutual
/-- w is the tree; the cells of its first j layers are owned (listed), those below are shared -/
inductive At (st : Store) (S : Nat → Prop) : Nat → W → Tr → List Nat → Prop
  | d {j : Nat} (x : PyData) : At st S j (.d x) (.d x) []
  | r {j : Nat} (xs : List PyData) : At st S j (.r xs) (.s xs) []
  | sl {n : Nat} {ws : List W} {ts : List Tr} {M : List Nat} : S n → st[n]? = some (.lst ws) → AtL st S 0 ws ts M → At st S 0 (.c n) (.l ts) []
  | su {n : Nat} {ws : List W} {ts : List Tr} {M : List Nat} : S n → st[n]? = some (.tup ws) → AtL st S 0 ws ts M → At st S 0 (.c n) (.t ts) []
  | sk {n : Nat} {ws : List (Key × W)} {ts : List (Key × Tr)} {M : List Nat} : S n → st[n]? = some (.dct ws) → AtK st S 0 ws ts M → At st S 0 (.c n) (.k ts) []
  | ol {j n : Nat} {ws : List W} {ts : List Tr} {M : List Nat} : st[n]? = some (.lst ws) → AtL st S j ws ts M → At st S (j + 1) (.c n) (.l ts) (n :: M)
  | ou {j n : Nat} {ws : List W} {ts : List Tr} {M : List Nat} : st[n]? = some (.tup ws) → AtL st S j ws ts M → At st S (j + 1) (.c n) (.t ts) (n :: M)
  | ok {j n : Nat} {ws : List (Key × W)} {ts : List (Key × Tr)} {M : List Nat} : st[n]? = some (.dct ws) → AtK st S j ws ts M → At st S (j + 1) (.c n) (.k ts) (n :: M)
  | oe {j n : Nat} {x : Er} : st[n]? = some (.err x) → At st S (j + 1) (.c n) (.e x) [n]
  | se {j n : Nat} {x : Er} : S n → st[n]? = some (.err x) → At st S j (.c n) (.e x) []
inductive AtL (st : Store) (S : Nat → Prop) : Nat → List W → List Tr → List Nat → Prop
  | nil {j : Nat} : AtL st S j [] [] []
  | cons {j : Nat} {w : W} {t : Tr} {ws : List W} {ts : List Tr} {M N : List Nat} : At st S j w t M → AtL st S j ws ts N → AtL st S j (w :: ws) (t :: ts) (M ++ N)
inductive AtK (st : Store) (S : Nat → Prop) : Nat → List (Key × W) → List (Key × Tr) → List Nat → Prop
  | nil {j : Nat} : AtK st S j [] [] []
  | cons {j : Nat} {q : Key} {w : W} {t : Tr} {ws : List (Key × W)} {ts : List (Key × Tr)} {M N : List Nat} : At st S j w t M → AtK st S j ws ts N → AtK st S j ((q, w) :: ws) ((q, t) :: ts) (M ++ N)
end
section
variable {st st' : Store} {S S' : Nat → Prop}
mutual
theorem At.mono (hS : ∀ n, S n → S' n) (hs : ∀ n, S n → st'[n]? = st[n]?) : ∀ {j : Nat} {w : W} {t : Tr} {M : List Nat}, At st S j w t M → (∀ n ∈ M, st'[n]? = st[n]?) → At st' S' j w t M
  | _, _, _, _, .d x, _ => .d x
  | _, _, _, _, .r xs, _ => .r xs
  | _, _, _, _, .sl a b c, _ => .sl (hS _ a) ((hs _ a).trans b) (AtL.mono hS hs c (AtL.m0 c))
  | _, _, _, _, .su a b c, _ => .su (hS _ a) ((hs _ a).trans b) (AtL.mono hS hs c (AtL.m0 c))
  | _, _, _, _, .sk a b c, _ => .sk (hS _ a) ((hs _ a).trans b) (AtK.mono hS hs c (AtK.m0 c))
  | _, _, _, _, .ol b c, h => .ol ((h _ List.mem_cons_self).trans b) (AtL.mono hS hs c fun n hn => h n (List.mem_cons_of_mem _ hn))
  | _, _, _, _, .ou b c, h => .ou ((h _ List.mem_cons_self).trans b) (AtL.mono hS hs c fun n hn => h n (List.mem_cons_of_mem _ hn))
  | _, _, _, _, .ok b c, h => .ok ((h _ List.mem_cons_self).trans b) (AtK.mono hS hs c fun n hn => h n (List.mem_cons_of_mem _ hn))
  | _, _, _, _, .oe b, h => .oe ((h _ List.mem_cons_self).trans b)
  | _, _, _, _, .se a b, _ => .se (hS _ a) ((hs _ a).trans b)
theorem AtL.mono (hS : ∀ n, S n → S' n) (hs : ∀ n, S n → st'[n]? = st[n]?) : ∀ {j : Nat} {ws : List W} {ts : List Tr} {M : List Nat}, AtL st S j ws ts M → (∀ n ∈ M, st'[n]? = st[n]?) → AtL st' S' j ws ts M
  | _, _, _, _, .nil, _ => .nil
  | _, _, _, _, .cons a b, h => .cons (At.mono hS hs a fun n hn => h n (List.mem_append_left _ hn)) (AtL.mono hS hs b fun n hn => h n (List.mem_append_right _ hn))
theorem AtK.mono (hS : ∀ n, S n → S' n) (hs : ∀ n, S n → st'[n]? = st[n]?) : ∀ {j : Nat} {ws : List (Key × W)} {ts : List (Key × Tr)} {M : List Nat}, AtK st S j ws ts M → (∀ n ∈ M, st'[n]? = st[n]?) → AtK st' S' j ws ts M
  | _, _, _, _, .nil, _ => .nil
  | _, _, _, _, .cons a b, h => .cons (At.mono hS hs a fun n hn => h n (List.mem_append_left _ hn)) (AtK.mono hS hs b fun n hn => h n (List.mem_append_right _ hn))
theorem At.m0 : ∀ {w : W} {t : Tr} {M : List Nat}, At st S 0 w t M → ∀ n ∈ M, st'[n]? = st[n]?
  | _, _, _, .d x => fun n h => nomatch h
  | _, _, _, .r xs => fun n h => nomatch h
  | _, _, _, .sl a b c => fun n h => nomatch h
  | _, _, _, .su a b c => fun n h => nomatch h
  | _, _, _, .sk a b c => fun n h => nomatch h
  | _, _, _, .se a b => fun n h => nomatch h
theorem AtL.m0 : ∀ {ws : List W} {ts : List Tr} {M : List Nat}, AtL st S 0 ws ts M → ∀ n ∈ M, st'[n]? = st[n]?
  | _, _, _, .nil => fun n h => nomatch h
  | _, _, _, .cons a b => fun n h => (List.mem_append.mp h).elim (At.m0 a n) (AtL.m0 b n)
theorem AtK.m0 : ∀ {ws : List (Key × W)} {ts : List (Key × Tr)} {M : List Nat}, AtK st S 0 ws ts M → ∀ n ∈ M, st'[n]? = st[n]?
  | _, _, _, .nil => fun n h => nomatch h
  | _, _, _, .cons a b => fun n h => (List.mem_append.mp h).elim (At.m0 a n) (AtK.m0 b n)
end
theorem At.z : ∀ {w : W} {t : Tr} {M : List Nat}, At st S 0 w t M → M = []
  | _, _, _, .d x => rfl
  | _, _, _, .r xs => rfl
  | _, _, _, .sl a b c => rfl
  | _, _, _, .su a b c => rfl
  | _, _, _, .sk a b c => rfl
  | _, _, _, .se a b => rfl
theorem AtL.z : ∀ {ws : List W} {ts : List Tr} {M : List Nat}, AtL st S 0 ws ts M → M = []
  | _, _, _, .nil => rfl
  | _, _, _, .cons a b => by rw [At.z a, AtL.z b]; rfl
theorem AtK.z : ∀ {ws : List (Key × W)} {ts : List (Key × Tr)} {M : List Nat}, AtK st S 0 ws ts M → M = []
  | _, _, _, .nil => rfl
  | _, _, _, .cons a b => by rw [At.z a, AtK.z b]; rfl
mutual
/-- given up for good -/
theorem At.share (hS : ∀ n, S n → S' n) : ∀ {j : Nat} {w : W} {t : Tr} {M : List Nat}, At st S j w t M → (∀ n ∈ M, S' n) → At st S' 0 w t []
  | _, _, _, _, .d x, _ => .d x
  | _, _, _, _, .r xs, _ => .r xs
  | _, _, _, _, .sl a b c, _ => .sl (hS _ a) b (AtL.share hS c (by rw [AtL.z c]; exact fun n h => nomatch h))
  | _, _, _, _, .su a b c, _ => .su (hS _ a) b (AtL.share hS c (by rw [AtL.z c]; exact fun n h => nomatch h))
  | _, _, _, _, .sk a b c, _ => .sk (hS _ a) b (AtK.share hS c (by rw [AtK.z c]; exact fun n h => nomatch h))
  | _, _, _, _, .ol b c, h => .sl (h _ List.mem_cons_self) b (AtL.share hS c fun n hn => h n (List.mem_cons_of_mem _ hn))
  | _, _, _, _, .ou b c, h => .su (h _ List.mem_cons_self) b (AtL.share hS c fun n hn => h n (List.mem_cons_of_mem _ hn))
  | _, _, _, _, .ok b c, h => .sk (h _ List.mem_cons_self) b (AtK.share hS c fun n hn => h n (List.mem_cons_of_mem _ hn))
  | _, _, _, _, .oe b, h => .se (h _ List.mem_cons_self) b
  | _, _, _, _, .se a b, _ => .se (hS _ a) b
theorem AtL.share (hS : ∀ n, S n → S' n) : ∀ {j : Nat} {ws : List W} {ts : List Tr} {M : List Nat}, AtL st S j ws ts M → (∀ n ∈ M, S' n) → AtL st S' 0 ws ts []
  | _, _, _, _, .nil, _ => .nil
  | _, _, _, _, .cons a b, h => .cons (M := []) (N := []) (At.share hS a fun n hn => h n (List.mem_append_left _ hn)) (AtL.share hS b fun n hn => h n (List.mem_append_right _ hn))
theorem AtK.share (hS : ∀ n, S n → S' n) : ∀ {j : Nat} {ws : List (Key × W)} {ts : List (Key × Tr)} {M : List Nat}, AtK st S j ws ts M → (∀ n ∈ M, S' n) → AtK st S' 0 ws ts []
  | _, _, _, _, .nil, _ => .nil
  | _, _, _, _, .cons a b, h => .cons (M := []) (N := []) (At.share hS a fun n hn => h n (List.mem_append_left _ hn)) (AtK.share hS b fun n hn => h n (List.mem_append_right _ hn))
end
end
/-! ### what can be read -/
mutual
inductive Rp (st : Store) : W → Tr → Prop
  | d (x : PyData) : Rp st (.d x) (.d x)
  | r (xs : List PyData) : Rp st (.r xs) (.s xs)
  | l {n : Nat} {ws : List W} {ts : List Tr} : st[n]? = some (.lst ws) → RpL st ws ts → Rp st (.c n) (.l ts)
  | u {n : Nat} {ws : List W} {ts : List Tr} : st[n]? = some (.tup ws) → RpL st ws ts → Rp st (.c n) (.t ts)
  | k {n : Nat} {ws : List (Key × W)} {ts : List (Key × Tr)} : st[n]? = some (.dct ws) → RpK st ws ts → Rp st (.c n) (.k ts)
  | e {n : Nat} {x : Er} : st[n]? = some (.err x) → Rp st (.c n) (.e x)
inductive RpL (st : Store) : List W → List Tr → Prop
  | nil : RpL st [] []
  | cons {w : W} {t : Tr} {ws : List W} {ts : List Tr} : Rp st w t → RpL st ws ts → RpL st (w :: ws) (t :: ts)
inductive RpK (st : Store) : List (Key × W) → List (Key × Tr) → Prop
  | nil : RpK st [] []
  | cons {q : Key} {w : W} {t : Tr} {ws : List (Key × W)} {ts : List (Key × Tr)} : Rp st w t → RpK st ws ts → RpK st ((q, w) :: ws) ((q, t) :: ts)
end
section
variable {st st' : Store} {S S' : Nat → Prop}
mutual
theorem At.rp : ∀ {j : Nat} {w : W} {t : Tr} {M : List Nat}, At st S j w t M → Rp st w t
  | _, _, _, _, .d x => .d x
  | _, _, _, _, .r xs => .r xs
  | _, _, _, _, .sl a b c => .l b (AtL.rp c)
  | _, _, _, _, .su a b c => .u b (AtL.rp c)
  | _, _, _, _, .sk a b c => .k b (AtK.rp c)
  | _, _, _, _, .ol b c => .l b (AtL.rp c)
  | _, _, _, _, .ou b c => .u b (AtL.rp c)
  | _, _, _, _, .ok b c => .k b (AtK.rp c)
  | _, _, _, _, .oe b => .e b
  | _, _, _, _, .se a b => .e b
theorem AtL.rp : ∀ {j : Nat} {ws : List W} {ts : List Tr} {M : List Nat}, AtL st S j ws ts M → RpL st ws ts
  | _, _, _, _, .nil => .nil
  | _, _, _, _, .cons a b => .cons (At.rp a) (AtL.rp b)
theorem AtK.rp : ∀ {j : Nat} {ws : List (Key × W)} {ts : List (Key × Tr)} {M : List Nat}, AtK st S j ws ts M → RpK st ws ts
  | _, _, _, _, .nil => .nil
  | _, _, _, _, .cons a b => .cons (At.rp a) (AtK.rp b)
end
/-! ### lists of data -/
theorem AtL.dat {j : Nat} : ∀ ds : List PyData, AtL st S j (ds.map W.d) (ds.map Tr.d) []
  | [] => .nil
  | d :: ds => .cons (M := []) (N := []) (.d d) (AtL.dat ds)
theorem RpL.inv : ∀ {ds : List PyData} {ws : List W}, RpL st ws (ds.map Tr.d) → ws = ds.map W.d
  | [], _, h => by cases h; rfl
  | d :: ds, _, h => by
    cases h with
    | cons a b =>
      cases a
      rw [RpL.inv b]
      rfl
theorem RpL.len : ∀ {ws : List W} {ts : List Tr}, RpL st ws ts → ws.length = ts.length
  | _, _, .nil => rfl
  | _, _, .cons _ b => by rw [List.length_cons, List.length_cons, RpL.len b]
theorem RpK.len : ∀ {ws : List (Key × W)} {ts : List (Key × Tr)}, RpK st ws ts → ws.length = ts.length
  | _, _, .nil => rfl
  | _, _, .cons _ b => by rw [List.length_cons, List.length_cons, RpK.len b]
theorem RpL.get : ∀ {ws : List W} {ts : List Tr}, RpL st ws ts → ∀ {i : Nat} {t : Tr}, ts[i]? = some t → ∃ w, ws[i]? = some w ∧ Rp st w t
  | _, _, .nil, i, t, h => by simp at h
  | _, _, .cons a b, 0, t, h => by
    cases h
    exact ⟨_, rfl, a⟩
  | _, _, .cons a b, i + 1, t, h => RpL.get b (i := i) h
/-- some items, as at depth 0 -/
theorem AtL.get0 : ∀ {ws : List W} {ts : List Tr} {M : List Nat}, AtL st S 0 ws ts M → ∀ {i : Nat} {t : Tr}, ts[i]? = some t → ∃ w, ws[i]? = some w ∧ At st S 0 w t []
  | _, _, _, .nil, i, t, h => by simp at h
  | _, _, _, .cons a b, 0, t, h => by
    cases h
    have e := At.z a
    subst e
    exact ⟨_, rfl, a⟩
  | _, _, _, .cons a b, i + 1, t, h => AtL.get0 b (i := i) h
theorem AtL.app {j : Nat} : ∀ {ws us : List W} {ts rs : List Tr} {M N : List Nat}, AtL st S j ws ts M → AtL st S j us rs N → AtL st S j (ws ++ us) (ts ++ rs) (M ++ N)
  | _, _, _, _, _, _, .nil, h => h
  | _, _, _, _, _, _, .cons a b, h => by
    rw [List.append_assoc]
    exact .cons a (AtL.app b h)
theorem AtL.erase {j : Nat} : ∀ {ws : List W} {ts : List Tr} {M : List Nat}, AtL st S j ws ts M → ∀ i : Nat, ∃ N, AtL st S j (ws.eraseIdx i) (ts.eraseIdx i) N ∧ ∀ a, N.count a ≤ M.count a
  | _, _, _, .nil, i => ⟨[], .nil, fun _ => Nat.le_refl _⟩
  | _, _, _, .cons a b, 0 => ⟨_, b, fun a => by rw [List.count_append]; omega⟩
  | _, _, _, .cons a b, i + 1 => by
    obtain ⟨N, h1, h2⟩ := AtL.erase b i
    exact ⟨_, .cons a h1, fun a => by rw [List.count_append, List.count_append]; have := h2 a; omega⟩
theorem AtL.put {j : Nat} : ∀ {ws : List W} {ts : List Tr} {M : List Nat}, AtL st S j ws ts M → ∀ (i : Nat) {w : W} {t : Tr} {N : List Nat}, At st S j w t N → ∃ L, AtL st S j (ws.set i w) (ts.set i t) L ∧ ∀ a, L.count a ≤ N.count a + M.count a
  | _, _, _, .nil, i, _, _, _, _ => ⟨[], .nil, fun a => by simp⟩
  | _, _, _, .cons a b, 0, _, _, N, h => ⟨_, .cons h b, fun a => by rw [List.count_append, List.count_append]; omega⟩
  | _, _, _, .cons a b, i + 1, _, _, _, h => by
    obtain ⟨L, h1, h2⟩ := AtL.put b i h
    exact ⟨_, .cons a h1, fun a => by rw [List.count_append, List.count_append]; have := h2 a; omega⟩
/-- a part of the items -/
theorem AtL.sub {j : Nat} : ∀ {ws : List W} {ts : List Tr} {M : List Nat}, AtL st S j ws ts M → ∀ (a n : Nat), ∃ N, AtL st S j ((ws.drop a).take n) ((ts.drop a).take n) N ∧ ∀ x, N.count x ≤ M.count x
  | _, _, _, .nil, a, n => ⟨[], by simp; exact .nil, fun _ => Nat.le_refl _⟩
  | _, _, _, .cons h b, 0, 0 => ⟨[], by simp; exact .nil, fun x => by simp⟩
  | _, _, _, .cons h b, 0, n + 1 => by
    obtain ⟨N, h1, h2⟩ := AtL.sub b 0 n
    exact ⟨_, .cons h h1, fun x => by rw [List.count_append, List.count_append]; have := h2 x; omega⟩
  | _, _, _, .cons h b, a + 1, n => by
    obtain ⟨N, h1, h2⟩ := AtL.sub b a n
    exact ⟨N, h1, fun x => by rw [List.count_append]; have := h2 x; omega⟩
end
/-! ### slots -/
/-- what a slot or an operand holds: nothing to be said; a tree with j owned layers; (an operand) the same as a variable -/
inductive Sl where
  | any
  | o (j : Nat) (t : Tr)
  | al (i : Nat)
def Sl.isAl : Sl → Bool
  | .al _ => true
  | _ => false
def SlV (st : Store) (S : Nat → Prop) (o : Option W) : Sl → List Nat → Prop
  | .any, M => M = []
  | .o j t, M => ∃ w, o = some w ∧ At st S j w t M
  | .al _, _ => False
def SlD (st : Store) (S : Nat → Prop) (env : Env) (w : W) : Sl → List Nat → Prop
  | .any, M => M = []
  | .o j t, M => At st S j w t M
  | .al i, M => M = [] ∧ env[i]? = some (some w)
inductive GR (st : Store) (S : Nat → Prop) : Env → List Sl → List Nat → Prop
  | nil : GR st S [] [] []
  | cons {o : Option W} {sl : Sl} {env : Env} {Γ : List Sl} {M N : List Nat} : SlV st S o sl M → GR st S env Γ N → GR st S (o :: env) (sl :: Γ) (M ++ N)
inductive DR (st : Store) (S : Nat → Prop) (env : Env) : List W → List Sl → List Nat → Prop
  | nil : DR st S env [] [] []
  | cons {w : W} {sl : Sl} {δ : List W} {Δ : List Sl} {M N : List Nat} : SlD st S env w sl M → DR st S env δ Δ N → DR st S env (w :: δ) (sl :: Δ) (M ++ N)
section
variable {st st' : Store} {S S' : Nat → Prop} {env : Env}
theorem SlV.mono (hS : ∀ n, S n → S' n) (hs : ∀ n, S n → st'[n]? = st[n]?) {o : Option W} {sl : Sl} {M : List Nat} (h : SlV st S o sl M) (hm : ∀ n ∈ M, st'[n]? = st[n]?) : SlV st' S' o sl M := by
  cases sl with
  | any => exact h
  | al i => exact h
  | o j t =>
    obtain ⟨w, e, a⟩ := h
    exact ⟨w, e, a.mono hS hs hm⟩
theorem SlD.mono (hS : ∀ n, S n → S' n) (hs : ∀ n, S n → st'[n]? = st[n]?) {w : W} {sl : Sl} {M : List Nat} (h : SlD st S env w sl M) (hm : ∀ n ∈ M, st'[n]? = st[n]?) : SlD st' S' env w sl M := by
  cases sl with
  | any => exact h
  | al i => exact h
  | o j t => exact At.mono hS hs h hm
theorem GR.mono (hS : ∀ n, S n → S' n) (hs : ∀ n, S n → st'[n]? = st[n]?) : ∀ {env : Env} {Γ : List Sl} {M : List Nat}, GR st S env Γ M → (∀ n ∈ M, st'[n]? = st[n]?) → GR st' S' env Γ M
  | _, _, _, .nil, _ => .nil
  | _, _, _, .cons a b, h => .cons (a.mono hS hs fun n hn => h n (List.mem_append_left _ hn)) (GR.mono hS hs b fun n hn => h n (List.mem_append_right _ hn))
theorem DR.mono (hS : ∀ n, S n → S' n) (hs : ∀ n, S n → st'[n]? = st[n]?) : ∀ {δ : List W} {Δ : List Sl} {M : List Nat}, DR st S env δ Δ M → (∀ n ∈ M, st'[n]? = st[n]?) → DR st' S' env δ Δ M
  | _, _, _, .nil, _ => .nil
  | _, _, _, .cons a b, h => .cons (a.mono hS hs fun n hn => h n (List.mem_append_left _ hn)) (DR.mono hS hs b fun n hn => h n (List.mem_append_right _ hn))
theorem GR.len : ∀ {env : Env} {Γ : List Sl} {M : List Nat}, GR st S env Γ M → env.length = Γ.length
  | _, _, _, .nil => rfl
  | _, _, _, .cons _ b => by rw [List.length_cons, List.length_cons, GR.len b]
theorem DR.len : ∀ {δ : List W} {Δ : List Sl} {M : List Nat}, DR st S env δ Δ M → δ.length = Δ.length
  | _, _, _, .nil => rfl
  | _, _, _, .cons _ b => by rw [List.length_cons, List.length_cons, DR.len b]
/-- what a variable holds is taken out of it -/
theorem GR.take : ∀ {env : Env} {Γ : List Sl} {M : List Nat}, GR st S env Γ M → ∀ {i : Nat} {sl : Sl}, Γ[i]? = some sl → ∃ o N L, env[i]? = some o ∧ SlV st S o sl N ∧ GR st S env (Γ.set i .any) L ∧ ∀ a, M.count a = N.count a + L.count a
  | _, _, _, .nil, i, sl, h => by simp at h
  | _, _, _, .cons a b, 0, sl, h => by
    cases h
    exact ⟨_, _, _, rfl, a, .cons (M := []) rfl b, fun x => by rw [List.count_append]; rfl⟩
  | _, _, _, .cons a b, i + 1, sl, h => by
    obtain ⟨o, N, L, h1, h2, h3, h4⟩ := GR.take b (i := i) h
    exact ⟨o, N, _, h1, h2, .cons a h3, fun x => by rw [List.count_append, List.count_append, h4 x]; omega⟩
theorem GR.put : ∀ {env : Env} {Γ : List Sl} {M : List Nat}, GR st S env Γ M → ∀ (i : Nat) {o : Option W} {sl : Sl} {N : List Nat}, SlV st S o sl N → ∃ L, GR st S (env.set i o) (Γ.set i sl) L ∧ ∀ a, L.count a ≤ N.count a + M.count a
  | _, _, _, .nil, i, _, _, _, _ => ⟨[], .nil, fun a => by simp⟩
  | _, _, _, .cons a b, 0, _, _, _, h => ⟨_, .cons h b, fun x => by rw [List.count_append, List.count_append]; omega⟩
  | _, _, _, .cons a b, i + 1, _, _, _, h => by
    obtain ⟨L, h1, h2⟩ := GR.put b i h
    exact ⟨_, .cons a h1, fun x => by rw [List.count_append, List.count_append]; have := h2 x; omega⟩
theorem DR.app : ∀ {δ δ2 : List W} {Δ Δ2 : List Sl} {M N : List Nat}, DR st S env δ Δ M → DR st S env δ2 Δ2 N → DR st S env (δ ++ δ2) (Δ ++ Δ2) (M ++ N)
  | _, _, _, _, _, _, .nil, h => h
  | _, _, _, _, _, _, .cons a b, h => by
    rw [List.append_assoc]
    exact .cons a (DR.app b h)
theorem DR.split : ∀ {Δ : List Sl} {δ : List W} {Δ2 : List Sl} {M : List Nat} {δ0 : List W}, δ.length = Δ.length → DR st S env (δ ++ δ0) (Δ ++ Δ2) M → ∃ N L, DR st S env δ Δ N ∧ DR st S env δ0 Δ2 L ∧ M = N ++ L
  | [], [], _, _, _, _, h => ⟨[], _, .nil, h, rfl⟩
  | sl :: Δ, w :: δ, _, _, _, e, h => by
    cases h with
    | cons a b =>
      obtain ⟨N, L, h1, h2, rfl⟩ := DR.split (by simpa using e) b
      exact ⟨_, _, .cons a h1, h2, by rw [List.append_assoc]⟩
theorem DR.one {w : W} {sl : Sl} {M : List Nat} (h : SlD st S env w sl M) : DR st S env [w] [sl] M := by
  have := DR.cons (N := []) h .nil
  rw [List.append_nil] at this
  exact this
end
/-! ### the state -/
/-- a step: c tells what is owned -/
structure Tn (S : Nat → Prop) (st : Store) (c : Nat → Nat) (S' : Nat → Prop) (st' : Store) (c' : Nat → Nat) : Prop where
  le : st.length ≤ st'.length
  same : ∀ n, n < st.length → c n = 0 → st'[n]? = st[n]?
  up : ∀ n, S n → S' n
  dn : ∀ n, n < st.length → S' n → S n ∨ 0 < c n
  ow : ∀ n, n < st.length → 0 < c' n → 0 < c n
structure Own (S : Nat → Prop) (st : Store) (c : Nat → Nat) : Prop where
  one : ∀ a, c a ≤ 1
  ow : ∀ a, 0 < c a → ¬ S a ∧ a < st.length
  bd : ∀ n, S n → n < st.length
def ctn (M N : List Nat) : Nat → Nat := fun a => M.count a + N.count a
section
variable {S S1 S2 : Nat → Prop} {st st1 st2 : Store} {c c1 c2 : Nat → Nat}
theorem Tn.refl : Tn S st c S st c := ⟨Nat.le_refl _, fun _ _ _ => rfl, fun _ h => h, fun _ _ h => .inl h, fun _ _ h => h⟩
theorem Tn.trans (a : Tn S st c S1 st1 c1) (b : Tn S1 st1 c1 S2 st2 c2) : Tn S st c S2 st2 c2 := by
  refine ⟨Nat.le_trans a.le b.le, fun n h1 h2 => ?_, fun n h => b.up n (a.up n h), fun n h1 h2 => ?_, fun n h1 h2 => a.ow n h1 (b.ow n (Nat.lt_of_lt_of_le h1 a.le) h2)⟩
  · rw [b.same n (Nat.lt_of_lt_of_le h1 a.le) ?_, a.same n h1 h2]
    rcases Nat.eq_zero_or_pos (c1 n) with h | h
    · exact h
    · have := a.ow n h1 h
      omega
  · rcases b.dn n (Nat.lt_of_lt_of_le h1 a.le) h2 with h | h
    · exact a.dn n h1 h
    · exact .inr (a.ow n h1 h)
/-- what else is owned stays -/
theorem Tn.frame {f : Nat → Nat} (a : Tn S st c S1 st1 c1) : Tn S st (fun n => c n + f n) S1 st1 (fun n => c1 n + f n) := by
  refine ⟨a.le, fun n h1 h2 => a.same n h1 (by omega), a.up, fun n h1 h2 => ?_, fun n h1 h2 => ?_⟩
  · rcases a.dn n h1 h2 with h | h
    · exact .inl h
    · exact .inr (by omega)
  · by_cases h : 0 < c1 n
    · have := a.ow n h1 h
      omega
    · omega
theorem Own.sub (h : Own S st c) (hc : ∀ a, c1 a ≤ c a) : Own S st c1 := ⟨fun a => Nat.le_trans (hc a) (h.one a), fun a ha => h.ow a (Nat.lt_of_lt_of_le ha (hc a)), h.bd⟩
theorem Tn.less (hc : ∀ a, c1 a ≤ c a) : Tn S st c S st c1 := ⟨Nat.le_refl _, fun _ _ _ => rfl, fun _ h => h, fun _ _ h => .inl h, fun n _ h => Nat.lt_of_lt_of_le h (hc n)⟩
/-- a new cell -/
theorem Own.new (h : Own S st c) (x : Cell) (hc : ∀ a, c1 a ≤ c a + (if a = st.length then 1 else 0)) : Own S (st ++ [x]) c1 := by
  refine ⟨fun a => ?_, fun a ha => ?_, fun n hn => by rw [List.length_append]; exact Nat.lt_of_lt_of_le (h.bd n hn) (Nat.le_add_right _ _)⟩
  · have h1 := hc a
    split at h1
    · rename_i e
      subst e
      have : c st.length = 0 := by
        rcases Nat.eq_zero_or_pos (c st.length) with q | q
        · exact q
        · exact absurd (h.ow _ q).2 (Nat.lt_irrefl _)
      omega
    · have := h.one a
      omega
  · have h1 := hc a
    split at h1
    · rename_i e
      subst e
      exact ⟨fun q => Nat.lt_irrefl _ (h.bd _ q), by simp⟩
    · obtain ⟨q1, q2⟩ := h.ow a (by omega)
      exact ⟨q1, by rw [List.length_append]; omega⟩
theorem Tn.new (h : Own S st c) (x : Cell) (hc : ∀ a, c1 a ≤ c a + (if a = st.length then 1 else 0)) : Tn S st c S (st ++ [x]) c1 := by
  refine ⟨by rw [List.length_append]; omega, fun n h1 _ => List.getElem?_append_left h1, fun _ q => q, fun _ _ q => .inl q, fun n h1 h2 => ?_⟩
  have := hc n
  rw [if_neg (by omega)] at this
  omega
/-- an own cell is changed -/
theorem Own.set (h : Own S st c) (n : Nat) (x : Cell) (hc : ∀ a, c1 a ≤ c a) : Own S (st.set n x) c1 :=
  ⟨fun a => Nat.le_trans (hc a) (h.one a), fun a ha => by rw [List.length_set]; exact h.ow a (Nat.lt_of_lt_of_le ha (hc a)), fun n hn => by rw [List.length_set]; exact h.bd n hn⟩
theorem Tn.set (n : Nat) (hn : 0 < c n) (x : Cell) (hc : ∀ a, c1 a ≤ c a) : Tn S st c S (st.set n x) c1 :=
  ⟨by rw [List.length_set]; exact Nat.le_refl _, fun m h1 h2 => by rw [List.getElem?_set_ne]; intro e; subst e; omega, fun _ q => q, fun _ _ q => .inl q, fun n _ h => Nat.lt_of_lt_of_le h (hc n)⟩
/-- own cells are shared -/
theorem Own.shr (h : Own S st c) {X : List Nat} (hc : ∀ a, c1 a + X.count a ≤ c a) : Own (fun n => S n ∨ n ∈ X) st c1 := by
  refine ⟨fun a => by have := hc a; have := h.one a; omega, fun a ha => ?_, fun n hn => ?_⟩
  · have h1 := hc a
    have h2 := h.one a
    have q := h.ow a (by omega)
    exact ⟨fun z => z.elim q.1 fun z => by have := List.count_pos_iff.mpr z; omega, q.2⟩
  · rcases hn with q | q
    · exact h.bd n q
    · have := List.count_pos_iff.mpr q
      have := hc n
      exact (h.ow n (by omega)).2
theorem Tn.shr {X : List Nat} (hc : ∀ a, c1 a + X.count a ≤ c a) : Tn S st c (fun n => S n ∨ n ∈ X) st c1 := by
  refine ⟨Nat.le_refl _, fun _ _ _ => rfl, fun _ q => .inl q, fun n _ q => ?_, fun n _ q => ?_⟩
  · rcases q with q | q
    · exact .inl q
    · have := List.count_pos_iff.mpr q
      have := hc n
      exact .inr (by omega)
  · have := hc n
    omega
end
/-- where a def began, and what it must not lose: (variable, object) -/
structure Base where
  S : Nat → Prop
  st : Store
  c : Nat → Nat
  P : List (Nat × W)
structure SatM (pi : List Nat) (B : Base) (S : Nat → Prop) (Γ : List Sl) (env : Env) (Δ : List Sl) (δ : List W) (st : Store) (M N : List Nat) : Prop where
  gr : GR st S env Γ M
  dr : DR st S env δ Δ N
  own : Own S st (ctn M N)
  tn : Tn B.S B.st B.c S st (ctn M N)
  pi : B.P.map Prod.fst = pi
  pn : ∀ p ∈ B.P, env[p.1]? = some (some p.2)
def Sat (pi : List Nat) (B : Base) (S : Nat → Prop) (Γ : List Sl) (env : Env) (Δ : List Sl) (δ : List W) (st : Store) : Prop := ∃ M N, SatM pi B S Γ env Δ δ st M N
theorem ctn_mem {M N : List Nat} {a : Nat} : 0 < ctn M N a ↔ a ∈ M ∨ a ∈ N := by
  unfold ctn
  constructor
  · intro h
    by_cases q : 0 < M.count a
    · exact .inl (List.count_pos_iff.mp q)
    · exact .inr (List.count_pos_iff.mp (by omega))
  · rintro (h | h)
    · have := List.count_pos_iff.mpr h
      omega
    · have := List.count_pos_iff.mpr h
      omega
end VS.TR
set_option Elab.async false
set_option linter.all false
set_option maxRecDepth 100000
set_option maxHeartbeats 1000000
/-! TR2: steps of the state; expressions. -/
namespace VS.TR
open PySem PySem.Spec PyProof.Rows L2 VS
/-- what a cell holds -/
inductive CA (st : Store) (S : Nat → Prop) (j : Nat) : Cell → Tr → List Nat → Prop
  | l {ws : List W} {ts : List Tr} {M : List Nat} : AtL st S j ws ts M → CA st S j (.lst ws) (.l ts) M
  | u {ws : List W} {ts : List Tr} {M : List Nat} : AtL st S j ws ts M → CA st S j (.tup ws) (.t ts) M
  | k {ws : List (Key × W)} {ts : List (Key × Tr)} {M : List Nat} : AtK st S j ws ts M → CA st S j (.dct ws) (.k ts) M
  | e {x : Er} : CA st S j (.err x) (.e x) []
section
variable {st st' : Store} {S S' : Nat → Prop} {j : Nat} {c : Cell} {t : Tr} {M : List Nat}
theorem CA.at (h : CA st S j c t M) {n : Nat} (e : st[n]? = some c) : At st S (j + 1) (.c n) t (n :: M) := by
  cases h with
  | l a => exact .ol e a
  | u a => exact .ou e a
  | k a => exact .ok e a
  | e => exact .oe (by assumption)
theorem CA.mono (hS : ∀ n, S n → S' n) (hs : ∀ n, S n → st'[n]? = st[n]?) (h : CA st S j c t M) (hm : ∀ n ∈ M, st'[n]? = st[n]?) : CA st' S' j c t M := by
  cases h with
  | l a => exact .l (a.mono hS hs hm)
  | u a => exact .u (a.mono hS hs hm)
  | k a => exact .k (a.mono hS hs hm)
  | e => exact .e
def Tr.cell : Tr → Bool
  | .d _ => false
  | .s _ => false
  | .e _ => false
  | _ => true
theorem At.ca {w : W} (h : At st S (j + 1) w t M) (ht : t.cell = true) : ∃ n c K, w = .c n ∧ st[n]? = some c ∧ CA st S j c t K ∧ M = n :: K := by
  cases h with
  | d x => cases ht
  | r x => cases ht
  | ol a b => exact ⟨_, _, _, rfl, a, .l b, rfl⟩
  | ou a b => exact ⟨_, _, _, rfl, a, .u b, rfl⟩
  | ok a b => exact ⟨_, _, _, rfl, a, .k b, rfl⟩
  | oe b => cases ht
  | se a b => cases ht
end
section
variable {pi : List Nat} {B : Base} {S : Nat → Prop} {Γ : List Sl} {env : Env} {Δ : List Sl} {δ : List W} {st : Store}
theorem Sat.lenD (h : Sat pi B S Γ env Δ δ st) : δ.length = Δ.length := by
  obtain ⟨M, N, h⟩ := h
  exact h.dr.len
/-- an operand that owns nothing -/
theorem Sat.push (h : Sat pi B S Γ env Δ δ st) {w : W} {sl : Sl} (hs : SlD st S env w sl []) : Sat pi B S Γ env (Δ ++ [sl]) (δ ++ [w]) st := by
  obtain ⟨M, N, h⟩ := h
  have e : ctn M (N ++ []) = ctn M N := by rw [List.append_nil]
  exact ⟨M, N ++ [], h.gr, h.dr.app (DR.one hs), e ▸ h.own, e ▸ h.tn, h.pi, h.pn⟩
theorem Sat.pushD (h : Sat pi B S Γ env Δ δ st) (x : PyData) : Sat pi B S Γ env (Δ ++ [.o 0 (.d x)]) (δ ++ [.d x]) st := h.push (.d x)
/-- the last operands go -/
theorem Sat.drop {Δ2 : List Sl} {δ2 : List W} (h : Sat pi B S Γ env (Δ ++ Δ2) (δ ++ δ2) st) (hl : δ.length = Δ.length) : Sat pi B S Γ env Δ δ st := by
  obtain ⟨M, N, h⟩ := h
  obtain ⟨N1, N2, h1, h2, rfl⟩ := DR.split hl h.dr
  have e : ∀ a, ctn M N1 a ≤ ctn M (N1 ++ N2) a := fun a => by
    unfold ctn
    rw [List.count_append]
    omega
  exact ⟨M, N1, h.gr, h1, h.own.sub e, h.tn.trans (Tn.less e), h.pi, h.pn⟩
/-- fewer owned in the operands -/
theorem Sat.oper {Δ2 Δ3 : List Sl} {δ2 δ3 : List W} (h : Sat pi B S Γ env (Δ ++ Δ2) (δ ++ δ2) st) (hl : δ.length = Δ.length) (k : ∀ N, DR st S env δ2 Δ2 N → ∃ L, DR st S env δ3 Δ3 L ∧ ∀ a, L.count a ≤ N.count a) : Sat pi B S Γ env (Δ ++ Δ3) (δ ++ δ3) st := by
  obtain ⟨M, N, h⟩ := h
  obtain ⟨N1, N2, h1, h2, rfl⟩ := DR.split hl h.dr
  obtain ⟨L, q1, q2⟩ := k N2 h2
  have e : ∀ a, ctn M (N1 ++ L) a ≤ ctn M (N1 ++ N2) a := fun a => by
    unfold ctn
    rw [List.count_append, List.count_append]
    have := q2 a
    omega
  exact ⟨M, N1 ++ L, h.gr, h1.app q1, h.own.sub e, h.tn.trans (Tn.less e), h.pi, h.pn⟩
/-- a new cell made of the last operands -/
theorem Sat.fresh {sls : List Sl} {ws : List W} (h : Sat pi B S Γ env (Δ ++ sls) (δ ++ ws) st) (hl : δ.length = Δ.length) {j : Nat} {x : Cell} {t : Tr} (k : ∀ N, DR st S env ws sls N → ∃ K, CA st S j x t K ∧ ∀ a, K.count a ≤ N.count a) :
    Sat pi B S Γ env (Δ ++ [.o (j + 1) t]) (δ ++ [.c st.length]) (st ++ [x]) := by
  obtain ⟨M, N, h⟩ := h
  obtain ⟨N1, N2, h1, h2, rfl⟩ := DR.split hl h.dr
  obtain ⟨K, q1, q2⟩ := k N2 h2
  have lt : ∀ n, n ∈ M ∨ n ∈ N1 ++ N2 → n < st.length := fun n hn => (h.own.ow n (ctn_mem.mpr hn)).2
  have sm : ∀ n, n < st.length → (st ++ [x])[n]? = st[n]? := fun n hn => List.getElem?_append_left hn
  have hS : ∀ n, S n → (st ++ [x])[n]? = st[n]? := fun n hn => sm n (h.own.bd n hn)
  have hK : ∀ n ∈ K, n < st.length := fun n hn => by
    have := List.count_pos_iff.mpr hn
    have := q2 n
    exact lt n (.inr (List.mem_append_right _ (List.count_pos_iff.mp (by omega))))
  have hc : ∀ a, ctn M (N1 ++ (st.length :: K)) a ≤ ctn M (N1 ++ N2) a + (if a = st.length then 1 else 0) := fun a => by
    unfold ctn
    rw [List.count_append, List.count_append, List.count_cons]
    have := q2 a
    by_cases e : st.length = a
    · rw [if_pos (by simpa using e), if_pos e.symm]
      omega
    · rw [if_neg (by simpa using e), if_neg (fun z => e z.symm)]
      omega
  refine ⟨M, N1 ++ (st.length :: K), h.gr.mono (fun _ q => q) hS fun n hn => sm n (lt n (.inl hn)), (h1.mono (fun _ q => q) hS fun n hn => sm n (lt n (.inr (List.mem_append_left _ hn)))).app (DR.one ?_), h.own.new x hc, h.tn.trans (Tn.new h.own x hc), h.pi, h.pn⟩
  exact (q1.mono (fun _ q => q) hS fun n hn => sm n (hK n hn)).at (by simp)
/-- a variable's value is taken out of it -/
theorem Sat.take (h : Sat pi B S Γ env Δ δ st) {i j : Nat} {t : Tr} (hi : Γ[i]? = some (.o j t)) : ∃ w, env[i]? = some (some w) ∧ Sat pi B S (Γ.set i .any) env (Δ ++ [.o j t]) (δ ++ [w]) st := by
  obtain ⟨M, N, h⟩ := h
  obtain ⟨o, K, L, e1, ⟨w, rfl, a⟩, g, q⟩ := h.gr.take hi
  have e : ∀ a, ctn L (N ++ K) a ≤ ctn M N a := fun a => by
    unfold ctn
    rw [List.count_append]
    have := q a
    omega
  exact ⟨w, e1, L, N ++ K, g, h.dr.app (DR.one a), h.own.sub e, h.tn.trans (Tn.less e), h.pi, h.pn⟩
/-- and is put back -/
theorem Sat.back {sl : Sl} {w : W} (h : Sat pi B S Γ env (Δ ++ [sl]) (δ ++ [w]) st) (hl : δ.length = Δ.length) (ha : sl.isAl = false) {i : Nat} (hi : env[i]? = some (some w)) : Sat pi B S (Γ.set i sl) env Δ δ st := by
  obtain ⟨M, N, h⟩ := h
  obtain ⟨N1, N2, h1, h2, rfl⟩ := DR.split hl h.dr
  cases h2 with
  | cons q1 q2 =>
    cases q2
    rename_i K
    have hv : SlV st S (some w) sl K := by
      cases sl with
      | any => exact q1
      | o j t => exact ⟨w, rfl, q1⟩
      | al i => cases ha
    obtain ⟨L, g1, g2⟩ := h.gr.put i hv
    have es : env.set i (some w) = env := by
      have l := (List.getElem?_eq_some_iff.mp hi).1
      apply List.ext_getElem?
      intro m
      by_cases hm : i = m
      · subst hm
        rw [List.getElem?_set_self l, hi]
      · rw [List.getElem?_set_ne hm]
    rw [es] at g1
    have e : ∀ a, ctn L N1 a ≤ ctn M (N1 ++ (K ++ [])) a := fun a => by
      unfold ctn
      rw [List.append_nil, List.count_append]
      have := g2 a
      omega
    exact ⟨L, N1, g1, h1, h.own.sub e, h.tn.trans (Tn.less e), h.pi, h.pn⟩
theorem SlD.ren {S : Nat → Prop} {st : Store} {w : W} {sl : Sl} {M : List Nat} {env' : Env} (h : SlD st S env w sl M) (ha : sl.isAl = false) : SlD st S env' w sl M := by
  cases sl with
  | any => exact h
  | o j t => exact h
  | al i => cases ha
theorem DR.ren {S : Nat → Prop} {st : Store} {env' : Env} : ∀ {δ : List W} {Δ : List Sl} {M : List Nat}, DR st S env δ Δ M → (∀ sl ∈ Δ, sl.isAl = false) → DR st S env' δ Δ M
  | _, _, _, .nil, _ => .nil
  | _, _, _, .cons a b, h => .cons (a.ren (h _ List.mem_cons_self)) (DR.ren b fun sl q => h sl (List.mem_cons_of_mem _ q))
/-- the last operand becomes a variable -/
theorem Sat.store {sl : Sl} {w : W} (h : Sat pi B S Γ env (Δ ++ [sl]) (δ ++ [w]) st) (hl : δ.length = Δ.length) (hΔ : ∀ sl ∈ Δ, sl.isAl = false) (ha : sl.isAl = false) {i : Nat} (hi : i ∉ pi) : Sat pi B S (Γ.set i sl) (env.set i (some w)) Δ δ st := by
  obtain ⟨M, N, h⟩ := h
  obtain ⟨N1, N2, h1, h2, rfl⟩ := DR.split hl h.dr
  cases h2 with
  | cons q1 q2 =>
    cases q2
    rename_i K
    have hv : SlV st S (some w) sl K := by
      cases sl with
      | any => exact q1
      | o j t => exact ⟨w, rfl, q1⟩
      | al i => cases ha
    obtain ⟨L, g1, g2⟩ := h.gr.put i hv
    have e : ∀ a, ctn L N1 a ≤ ctn M (N1 ++ (K ++ [])) a := fun a => by
      unfold ctn
      rw [List.append_nil, List.count_append]
      have := g2 a
      omega
    refine ⟨L, N1, g1, h1.ren hΔ, h.own.sub e, h.tn.trans (Tn.less e), h.pi, fun p hp => ?_⟩
    rw [List.getElem?_set_ne]
    · exact h.pn p hp
    · intro z
      rw [z, ← h.pi] at hi
      exact hi (List.mem_map.mpr ⟨p, hp, rfl⟩)
/-- a variable that is forgotten -/
theorem Sat.forget (h : Sat pi B S Γ env Δ δ st) (i : Nat) : Sat pi B S (Γ.set i .any) env Δ δ st := by
  obtain ⟨M, N, h⟩ := h
  by_cases hi : i < Γ.length
  · obtain ⟨o, K, L, e1, e2, g, q⟩ := h.gr.take (List.getElem?_eq_getElem hi)
    have e : ∀ a, ctn L N a ≤ ctn M N a := fun a => by
      unfold ctn
      have := q a
      omega
    exact ⟨L, N, g, h.dr, h.own.sub e, h.tn.trans (Tn.less e), h.pi, h.pn⟩
  · rw [List.set_eq_of_length_le (by omega)]
    exact ⟨M, N, h⟩
/-- the last operand is shared from now on -/
theorem Sat.shareD {j : Nat} {t : Tr} {w : W} (h : Sat pi B S Γ env (Δ ++ [.o j t]) (δ ++ [w]) st) (hl : δ.length = Δ.length) : ∃ S', (∀ n, S n → S' n) ∧ Sat pi B S' Γ env (Δ ++ [.o 0 t]) (δ ++ [w]) st := by
  obtain ⟨M, N, h⟩ := h
  obtain ⟨N1, N2, h1, h2, rfl⟩ := DR.split hl h.dr
  cases h2 with
  | cons q1 q2 =>
    cases q2
    rename_i K
    have hc : ∀ a, ctn M (N1 ++ []) a + K.count a ≤ ctn M (N1 ++ (K ++ [])) a := fun a => by
      unfold ctn
      rw [List.append_nil, List.append_nil, List.count_append]
      omega
    refine ⟨fun n => S n ∨ n ∈ K, fun n q => .inl q, M, N1 ++ [], h.gr.mono (fun _ q => .inl q) (fun _ _ => rfl) fun _ _ => rfl, (h1.mono (fun _ q => .inl q) (fun _ _ => rfl) fun _ _ => rfl).app (DR.one ?_), h.own.shr hc, h.tn.trans (Tn.shr hc), h.pi, h.pn⟩
    exact At.share (fun _ q => .inl q) q1 fun n hn => .inr hn
/-- a variable is shared from now on -/
theorem Sat.shareV (h : Sat pi B S Γ env Δ δ st) {i j : Nat} {t : Tr} (hi : Γ[i]? = some (.o j t)) : ∃ S', (∀ n, S n → S' n) ∧ Sat pi B S' (Γ.set i (.o 0 t)) env Δ δ st := by
  obtain ⟨w, e, h1⟩ := h.take hi
  obtain ⟨S', hS, h2⟩ := h1.shareD h.lenD
  have h3 := h2.back h.lenD rfl e
  rw [List.set_set] at h3
  exact ⟨S', hS, h3⟩
/-- a variable that is shared, once more -/
theorem Sat.copy (h : Sat pi B S Γ env Δ δ st) {i : Nat} {t : Tr} (hi : Γ[i]? = some (.o 0 t)) : ∃ w, env[i]? = some (some w) ∧ Sat pi B S Γ env (Δ ++ [.o 0 t]) (δ ++ [w]) st := by
  obtain ⟨M, N, q⟩ := h
  obtain ⟨o, K, L, e1, ⟨w, rfl, a⟩, g, _⟩ := q.gr.take hi
  have := At.z a
  subst this
  exact ⟨w, e1, Sat.push ⟨M, N, q⟩ a⟩
/-- a variable's object is changed; operands go into it, one comes out -/
theorem Sat.mut {sls : List Sl} {ws : List W} (h : Sat pi B S Γ env (Δ ++ sls) (δ ++ ws) st) (hl : δ.length = Δ.length) {i j : Nat} {t : Tr} (hi : Γ[i]? = some (.o (j + 1) t)) (ht : t.cell = true) :
    ∃ n c K L, env[i]? = some (some (.c n)) ∧ st[n]? = some c ∧ CA st S j c t K ∧ DR st S env ws sls L ∧
      ∀ x t' K' sl w N', CA st S j x t' K' → SlD st S env w sl N' → (∀ a, K'.count a + N'.count a ≤ K.count a + L.count a) → Sat pi B S (Γ.set i (.o (j + 1) t')) env (Δ ++ [sl]) (δ ++ [w]) (st.set n x) := by
  obtain ⟨M, N, h⟩ := h
  obtain ⟨N1, N2, h1, h2, rfl⟩ := DR.split hl h.dr
  obtain ⟨o, K0, L, e1, ⟨w, rfl, a⟩, g, q⟩ := h.gr.take hi
  obtain ⟨n, c, K, rfl, hn, hc, rfl⟩ := a.ca ht
  refine ⟨n, c, K, N2, e1, hn, hc, h2, fun x t' K' sl w N' k1 k2 k3 => ?_⟩
  have tot : ∀ a, ctn M (N1 ++ N2) a = (if n = a then 1 else 0) + K.count a + L.count a + N1.count a + N2.count a := fun a => by
    unfold ctn
    rw [q a, List.count_append, List.count_cons]
    by_cases e : n = a
    · rw [if_pos e, if_pos (by simpa using e)]; omega
    · rw [if_neg e, if_neg (by simpa using e)]; omega
  have cn : ctn M (N1 ++ N2) n = 1 := by
    have := tot n
    rw [if_pos rfl] at this
    have := h.own.one n
    omega
  have lt := (h.own.ow n (by omega)).2
  have nS := (h.own.ow n (by omega)).1
  have sm : ∀ m, m ≠ n → (st.set n x)[m]? = st[m]? := fun m hm => List.getElem?_set_ne (Ne.symm hm)
  have nin : ∀ {X : List Nat}, (∀ a, X.count a ≤ K.count a + L.count a + N1.count a + N2.count a) → ∀ m ∈ X, (st.set n x)[m]? = st[m]? := fun {X} hX m hm => sm m fun e => by
    subst e
    have h1 := List.count_pos_iff.mpr hm
    have h2 := hX m
    have h3 := tot m
    rw [if_pos rfl] at h3
    omega
  have hS : ∀ m, S m → (st.set n x)[m]? = st[m]? := fun m hm => sm m fun e => nS (e ▸ hm)
  have a1 : At (st.set n x) S (j + 1) (.c n) t' (n :: K') := (k1.mono (fun _ q => q) hS (nin fun a => by have := k3 a; omega)).at (List.getElem?_set_self lt)
  have g1 := g.mono (st' := st.set n x) (fun _ q => q) hS (nin fun a => by omega)
  obtain ⟨L2, g2, g3⟩ := g1.put i (o := some (.c n)) (sl := .o (j + 1) t') (N := n :: K') ⟨_, rfl, a1⟩
  have es : env.set i (some (.c n)) = env := by
    have l := (List.getElem?_eq_some_iff.mp e1).1
    apply List.ext_getElem?
    intro m
    by_cases hm : i = m
    · subst hm
      rw [List.getElem?_set_self l, e1]
    · rw [List.getElem?_set_ne hm]
  rw [es, List.set_set] at g2
  have hc' : ∀ a, ctn L2 (N1 ++ N') a ≤ ctn M (N1 ++ N2) a := fun a => by
    rw [tot a]
    unfold ctn
    have p1 := g3 a
    have p2 := k3 a
    rw [List.count_cons] at p1
    rw [List.count_append]
    by_cases e : n = a
    · rw [if_pos (by simpa using e)] at p1
      rw [if_pos e]
      omega
    · rw [if_neg (by simpa using e)] at p1
      rw [if_neg e]
      omega
  refine ⟨L2, N1 ++ N', g2, (h1.mono (fun _ q => q) hS (nin fun a => by omega)).app (DR.one (k2.mono (fun _ q => q) hS (nin fun a => by have := k3 a; omega))), h.own.set n x hc', h.tn.trans (Tn.set n (by omega) x hc'), h.pi, h.pn⟩
/-- an operand that is looked at -/
theorem Sat.last {sls : List Sl} {ws : List W} (h : Sat pi B S Γ env (Δ ++ sls) (δ ++ ws) st) (hl : δ.length = Δ.length) : ∃ N, DR st S env ws sls N := by
  obtain ⟨M, N, h⟩ := h
  obtain ⟨N1, N2, h1, h2, rfl⟩ := DR.split hl h.dr
  exact ⟨N2, h2⟩
end
/-! ### expressions -/
section
variable (pi : List Nat) (Γ : List Sl)
def Xe (e : Ev) (κ : Sl → List Sl → Prop) : Prop :=
  ∀ (B : Base) (S : Nat → Prop) (Δ : List Sl) (env : Env) (δ : List W) (st : Store), Sat pi B S Γ env Δ δ st →
    ∃ w st' S' sl Γ', e env st = .ok w st' ∧ Sat pi B S' Γ' env (Δ ++ [sl]) (δ ++ [w]) st' ∧ κ sl Γ'
def Xa (a : Av) (κ : List Sl → List Sl → Prop) : Prop :=
  ∀ (B : Base) (S : Nat → Prop) (Δ : List Sl) (env : Env) (δ : List W) (st : Store), Sat pi B S Γ env Δ δ st →
    ∃ ws st' S' sls Γ', a env st = .ok ws st' ∧ ws.length = sls.length ∧ Sat pi B S' Γ' env (Δ ++ sls) (δ ++ ws) st' ∧ κ sls Γ'
def Xt (t : Tst) (κ : Bool → List Sl → Prop) : Prop :=
  ∀ (B : Base) (S : Nat → Prop) (Δ : List Sl) (env : Env) (δ : List W) (st : Store), Sat pi B S Γ env Δ δ st →
    ∃ b st' S' Γ', t env st = .ok b st' ∧ Sat pi B S' Γ' env Δ δ st' ∧ κ b Γ'
/-- an operation on operands -/
def Of (f : List W → Store → Res W) (sls : List Sl) (κ : Sl → List Sl → Prop) : Prop :=
  ∀ (B : Base) (S : Nat → Prop) (Δ : List Sl) (env : Env) (δ ws : List W) (st : Store), ws.length = sls.length → δ.length = Δ.length → Sat pi B S Γ env (Δ ++ sls) (δ ++ ws) st →
    ∃ w st' S' sl Γ', f ws st = .ok w st' ∧ Sat pi B S' Γ' env (Δ ++ [sl]) (δ ++ [w]) st' ∧ κ sl Γ'
end
def f2 (f : W → W → Store → Res W) : List W → Store → Res W := fun ws st => match ws with
  | [x, y] => f x y st
  | _ => .bad
section
variable {pi : List Nat} {Γ : List Sl} {κ : Sl → List Sl → Prop}
theorem x_cst {x : PyData} (k : κ (.o 0 (.d x)) Γ) : Xe pi Γ (cst x) κ := fun B S Δ env δ st h =>
  ⟨.d x, st, S, _, Γ, rfl, h.pushD x, k⟩
/-- a name: its value once more (shared); the variable itself; its value, taken out of it; its value, shared from now on -/
theorem x_cp {i : Nat} {t : Tr} (hi : Γ[i]? = some (.o 0 t)) (k : κ (.o 0 t) Γ) : Xe pi Γ (vr i) κ := fun B S Δ env δ st h => by
  obtain ⟨w, e, q⟩ := h.copy hi
  exact ⟨w, st, S, _, Γ, by simp only [vr, e], q, k⟩
theorem x_al {i j : Nat} {t : Tr} (hi : Γ[i]? = some (.o j t)) (k : κ (.al i) Γ) : Xe pi Γ (vr i) κ := fun B S Δ env δ st h => by
  obtain ⟨w, e, _⟩ := h.take hi
  exact ⟨w, st, S, _, Γ, by simp only [vr, e], h.push (sl := .al i) ⟨rfl, e⟩, k⟩
theorem x_sh {i j : Nat} {t : Tr} (hi : Γ[i]? = some (.o j t)) (k : κ (.o 0 t) (Γ.set i (.o 0 t))) : Xe pi Γ (vr i) κ := fun B S Δ env δ st h => by
  obtain ⟨S', _, q⟩ := h.shareV hi
  have l := (List.getElem?_eq_some_iff.mp hi).1
  obtain ⟨w, e, q2⟩ := q.copy (i := i) (t := t) (by rw [List.getElem?_set_self l])
  exact ⟨w, st, S', _, _, by simp only [vr, e], q2, k⟩
theorem Xe.imp {e : Ev} {κ' : Sl → List Sl → Prop} (h : Xe pi Γ e κ) (k : ∀ sl Γ', κ sl Γ' → κ' sl Γ') : Xe pi Γ e κ' := fun B S Δ env δ st q => by
  obtain ⟨w, st', S', sl, Γ', h1, h2, h3⟩ := h B S Δ env δ st q
  exact ⟨w, st', S', sl, Γ', h1, h2, k _ _ h3⟩
theorem Of.imp {f : List W → Store → Res W} {sls : List Sl} {κ' : Sl → List Sl → Prop} (h : Of pi Γ f sls κ) (k : ∀ sl Γ', κ sl Γ' → κ' sl Γ') : Of pi Γ f sls κ' := fun B S Δ env δ ws st h1 h2 q => by
  obtain ⟨w, st', S', sl, Γ', q1, q2, q3⟩ := h B S Δ env δ ws st h1 h2 q
  exact ⟨w, st', S', sl, Γ', q1, q2, k _ _ q3⟩
theorem a_nil {κ : List Sl → List Sl → Prop} (k : κ [] Γ) : Xa pi Γ aNil κ := fun B S Δ env δ st h =>
  ⟨[], st, S, [], Γ, rfl, rfl, by rw [List.append_nil, List.append_nil]; exact h, k⟩
theorem a_cons {a : Ev} {r : Av} {κ : List Sl → List Sl → Prop} (h : Xe pi Γ a fun sl Γ1 => Xa pi Γ1 r fun sls Γ2 => κ (sl :: sls) Γ2) : Xa pi Γ (aCons a r) κ := fun B S Δ env δ st q => by
  obtain ⟨w, st1, S1, sl, Γ1, h1, h2, h3⟩ := h B S Δ env δ st q
  obtain ⟨ws, st2, S2, sls, Γ2, g1, g2, g3, g4⟩ := h3 B S1 _ env _ st1 h2
  rw [List.append_assoc, List.append_assoc] at g3
  refine ⟨w :: ws, st2, S2, sl :: sls, Γ2, ?_, by rw [List.length_cons, List.length_cons, g2], g3, g4⟩
  simp only [aCons, h1, Res.bind, g1]
theorem x_bin {f : W → W → Store → Res W} {a b : Ev} (h : Xa pi Γ (aCons a (aCons b aNil)) fun sls Γ' => Of pi Γ' (f2 f) sls κ) : Xe pi Γ (bin f a b) κ := fun B S Δ env δ st q => by
  obtain ⟨ws, st1, S1, sls, Γ1, h1, h2, h3, h4⟩ := h B S Δ env δ st q
  obtain ⟨w, st2, S2, sl, Γ2, g1, g2, g3⟩ := h4 B S1 Δ env δ ws st1 h2 q.lenD h3
  refine ⟨w, st2, S2, sl, Γ2, ?_, g2, g3⟩
  simp only [aCons, aNil, Res.bind] at h1
  unfold bin
  cases ha : a env st with
  | bad => rw [ha] at h1; cases h1
  | exn e s => rw [ha] at h1; cases h1
  | ok x s1 =>
    rw [ha] at h1
    simp only at h1
    cases hb : b env s1 with
    | bad => rw [hb] at h1; cases h1
    | exn e s => rw [hb] at h1; cases h1
    | ok y s2 =>
      rw [hb] at h1
      cases h1
      simp only [Res.bind, hb]
      exact g1
theorem x_bcall {f : Fb} {a : Av} (h : Xa pi Γ a fun sls Γ' => Of pi Γ' f sls κ) : Xe pi Γ (bcall f a) κ := fun B S Δ env δ st q => by
  obtain ⟨ws, st1, S1, sls, Γ1, h1, h2, h3, h4⟩ := h B S Δ env δ st q
  obtain ⟨w, st2, S2, sl, Γ2, g1, g2, g3⟩ := h4 B S1 Δ env δ ws st1 h2 q.lenD h3
  exact ⟨w, st2, S2, sl, Γ2, by simp only [bcall, h1, Res.bind, g1], g2, g3⟩
end
/-! ### views of operands -/
/-- the operand is the tree -/
inductive Vw (Γ : List Sl) : Sl → Tr → Prop
  | o {j : Nat} {t : Tr} : Vw Γ (.o j t) t
  | al {i j : Nat} {t : Tr} : Γ[i]? = some (.o j t) → Vw Γ (.al i) t
/-- the operand is a list of these items, which are shared -/
inductive Vi (Γ : List Sl) : Sl → List Tr → Prop
  | o0 {ts : List Tr} : Vi Γ (.o 0 (.l ts)) ts
  | o1 {ts : List Tr} : Vi Γ (.o 1 (.l ts)) ts
  | a0 {i : Nat} {ts : List Tr} : Γ[i]? = some (.o 0 (.l ts)) → Vi Γ (.al i) ts
  | a1 {i : Nat} {ts : List Tr} : Γ[i]? = some (.o 1 (.l ts)) → Vi Γ (.al i) ts
  | d {sl : Sl} {ds : List PyData} : Vw Γ sl (.l (ds.map Tr.d)) → Vi Γ sl (ds.map Tr.d)
section
variable {pi : List Nat} {B : Base} {S : Nat → Prop} {Γ : List Sl} {env : Env} {Δ : List Sl} {δ : List W} {st : Store}
theorem DR.at {sls : List Sl} {ws : List W} {N : List Nat} : DR st S env ws sls N → ∀ {k : Nat} {sl : Sl}, sls[k]? = some sl → ∃ w M, ws[k]? = some w ∧ SlD st S env w sl M
  | .nil, k, sl, h => by simp at h
  | .cons a b, 0, sl, h => by
    cases h
    exact ⟨_, _, rfl, a⟩
  | .cons a b, k + 1, sl, h => DR.at b (k := k) h
theorem Sat.var (h : Sat pi B S Γ env Δ δ st) {i j : Nat} {t : Tr} (hi : Γ[i]? = some (.o j t)) : ∃ w M, env[i]? = some (some w) ∧ At st S j w t M := by
  obtain ⟨M, N, h⟩ := h
  obtain ⟨o, K, L, e1, ⟨w, rfl, a⟩, _⟩ := h.gr.take hi
  exact ⟨w, K, e1, a⟩
theorem Sat.view {sls : List Sl} {ws : List W} (h : Sat pi B S Γ env (Δ ++ sls) (δ ++ ws) st) (hl : δ.length = Δ.length) {k : Nat} {sl : Sl} {w : W} {t : Tr} (h1 : sls[k]? = some sl) (h2 : ws[k]? = some w) (v : Vw Γ sl t) : Rp st w t := by
  obtain ⟨N, d⟩ := h.last hl
  obtain ⟨w', M, e, a⟩ := d.at h1
  rw [h2] at e
  cases e
  cases v with
  | o => exact At.rp a
  | al hi =>
    obtain ⟨w2, M2, e2, a2⟩ := h.var hi
    rw [a.2] at e2
    cases e2
    exact a2.rp
theorem itm_of_rp {w : W} {ts : List Tr} (h : Rp st w (.l ts)) : ∃ ws, itm st w = some ws ∧ RpL st ws ts := by
  cases h with
  | l e a =>
    refine ⟨_, ?_, a⟩
    simp only [itm, e]
theorem itm_of_at {j : Nat} {w : W} {ts : List Tr} {M : List Nat} (h : At st S j w (.l ts) M) : ∃ ws K, itm st w = some ws ∧ AtL st S (j - 1) ws ts K ∧ ∀ a, K.count a ≤ M.count a := by
  cases h with
  | sl s e a =>
    have := AtL.z a
    subst this
    exact ⟨_, [], by simp only [itm, e], a, fun a => Nat.le_refl _⟩
  | ol e a => exact ⟨_, _, by simp only [itm, e], a, fun a => by rw [List.count_cons]; omega⟩
theorem Sat.items {sls : List Sl} {ws : List W} (h : Sat pi B S Γ env (Δ ++ sls) (δ ++ ws) st) (hl : δ.length = Δ.length) {k : Nat} {sl : Sl} {w : W} {ts : List Tr} (h1 : sls[k]? = some sl) (h2 : ws[k]? = some w) (v : Vi Γ sl ts) : ∃ xs, itm st w = some xs ∧ AtL st S 0 xs ts [] := by
  obtain ⟨N, d⟩ := h.last hl
  obtain ⟨w', M, e, a⟩ := d.at h1
  rw [h2] at e
  cases e
  have fin : ∀ {j : Nat} {M : List Nat}, At st S j w (.l ts) M → j - 1 = 0 → ∃ xs, itm st w = some xs ∧ AtL st S 0 xs ts [] := fun {j M} a hj => by
    obtain ⟨xs, K, q1, q2, _⟩ := itm_of_at a
    rw [hj] at q2
    have := AtL.z q2
    subst this
    exact ⟨xs, q1, q2⟩
  cases v with
  | o0 => exact fin a rfl
  | o1 => exact fin a rfl
  | a0 hi =>
    obtain ⟨w2, M2, e2, a2⟩ := h.var hi
    rw [a.2] at e2
    cases e2
    exact fin a2 rfl
  | a1 hi =>
    obtain ⟨w2, M2, e2, a2⟩ := h.var hi
    rw [a.2] at e2
    cases e2
    exact fin a2 rfl
  | d v =>
    obtain ⟨xs, q1, q2⟩ := itm_of_rp (h.view hl h1 h2 v)
    rw [RpL.inv q2] at q1
    exact ⟨_, q1, AtL.dat _⟩
end
/-! ### operations that hand back data -/
section
variable {pi : List Nat} {Γ : List Sl} {κ : Sl → List Sl → Prop}
theorem of_d1 {f : List W → Store → Res W} {a : Sl} {t : Tr} {x : PyData} (va : Vw Γ a t) (hf : ∀ (st : Store) (w : W), Rp st w t → f [w] st = .ok (.d x) st) (k : κ (.o 0 (.d x)) Γ) : Of pi Γ f [a] κ := fun B S Δ env δ ws st hl hd h => by
  match ws, hl with
  | [w], _ => exact ⟨.d x, st, S, _, Γ, hf st w (h.view hd (k := 0) rfl rfl va), (h.drop hd).pushD x, k⟩
theorem of_d2 {f : W → W → Store → Res W} {a b : Sl} {t1 t2 : Tr} {x : PyData} (va : Vw Γ a t1) (vb : Vw Γ b t2) (hf : ∀ (st : Store) (w1 w2 : W), Rp st w1 t1 → Rp st w2 t2 → f w1 w2 st = .ok (.d x) st) (k : κ (.o 0 (.d x)) Γ) : Of pi Γ (f2 f) [a, b] κ := fun B S Δ env δ ws st hl hd h => by
  match ws, hl with
  | [w1, w2], _ => exact ⟨.d x, st, S, _, Γ, hf st w1 w2 (h.view hd (k := 0) rfl rfl va) (h.view hd (k := 1) rfl rfl vb), (h.drop hd).pushD x, k⟩
theorem of_d2' {f : List W → Store → Res W} {a b : Sl} {t1 t2 : Tr} {x : PyData} (va : Vw Γ a t1) (vb : Vw Γ b t2) (hf : ∀ (st : Store) (w1 w2 : W), Rp st w1 t1 → Rp st w2 t2 → f [w1, w2] st = .ok (.d x) st) (k : κ (.o 0 (.d x)) Γ) : Of pi Γ f [a, b] κ := fun B S Δ env δ ws st hl hd h => by
  match ws, hl with
  | [w1, w2], _ => exact ⟨.d x, st, S, _, Γ, hf st w1 w2 (h.view hd (k := 0) rfl rfl va) (h.view hd (k := 1) rfl rfl vb), (h.drop hd).pushD x, k⟩
theorem of_new2 {f : W → W → Store → Res W} {a b : Sl} {ts us ts' : List Tr} (va : Vi Γ a ts) (vb : Vi Γ b us) (hf : ∀ (st : Store) (S : Nat → Prop) (w1 w2 : W) (xs ys : List W), itm st w1 = some xs → AtL st S 0 xs ts [] → itm st w2 = some ys → AtL st S 0 ys us [] → ∃ zs, f w1 w2 st = .ok (.c st.length) (st ++ [.lst zs]) ∧ AtL st S 0 zs ts' []) (k : κ (.o 1 (.l ts')) Γ) : Of pi Γ (f2 f) [a, b] κ := fun B S Δ env δ ws st hl hd h => by
  match ws, hl with
  | [w1, w2], _ =>
    obtain ⟨xs, q1, q2⟩ := h.items hd (k := 0) rfl rfl va
    obtain ⟨ys, p1, p2⟩ := h.items hd (k := 1) rfl rfl vb
    obtain ⟨zs, e, q⟩ := hf st S w1 w2 xs ys q1 q2 p1 p2
    exact ⟨_, _, S, _, Γ, e, h.fresh hd fun N _ => ⟨[], .l q, fun a => by simp⟩, k⟩
end
end VS.TR
set_option Elab.async false
set_option linter.all false
set_option maxRecDepth 100000
set_option maxHeartbeats 1000000
/-! TR3: statements. -/
namespace VS.TR
open PySem PySem.Spec PyProof.Rows L2 VS
/-- how a block ends, by value -/
inductive Ct (σ τ ρ : Type) where
  | nx (s : σ)
  | bk (s : τ)
  | ct (s : τ)
  | rt (r : ρ)
  | ex (e : Exn)
  | bad
/-- how a call ends -/
inductive Out (ρ : Type) where
  | ok (r : ρ)
  | ex (e : Exn)
  | bad
def Ct.fin {σ τ ρ : Type} (m : Ct σ τ ρ) : Out ρ := match m with
  | .rt r => .ok r
  | .ex e => .ex e
  | _ => .bad
def Ct.bd {σ σ' τ ρ : Type} (m : Ct σ τ ρ) (k : σ → Ct σ' τ ρ) : Ct σ' τ ρ := match m with
  | .nx s => k s
  | .bk s => .bk s
  | .ct s => .ct s
  | .rt r => .rt r
  | .ex e => .ex e
  | .bad => .bad
def ob {α σ τ ρ : Type} (m : Option α) (k : α → Ct σ τ ρ) : Ct σ τ ρ := match m with
  | some x => k x
  | none => .bad
/-- a call that raises nothing -/
def obn {α σ τ ρ : Type} (m : Out α) (k : α → Ct σ τ ρ) : Ct σ τ ρ := match m with
  | .ok x => k x
  | _ => .bad
def lt {α β : Type} (x : α) (k : α → β) : β := k x
def cd {α : Type} (c : Bool) (a b : α) : α := if c = true then a else b
def loop {α σ τ ρ : Type} (f : σ → α → Ct σ σ ρ) : σ → List α → Ct σ τ ρ
  | s, [] => .nx s
  | s, x :: xs => match f s x with
    | .nx s => loop f s xs
    | .ct s => loop f s xs
    | .bk s => .nx s
    | .rt r => .rt r
    | .ex e => .ex e
    | .bad => .bad
/-- the ways out of a block: break and continue; return; an error -/
structure Exits (τ ρ : Type) where
  U : τ → List Sl
  R : ρ → Sl → List Sl → Prop
  E : Exn → List Sl → Prop
/-- an outcome -/
def Oc (pi : List Nat) {σ τ ρ : Type} (B : Base) (Δ : List Sl) (δ : List W) (r : Fl) (m : Ct σ τ ρ) (V : σ → List Sl) (X : Exits τ ρ) : Prop :=
    match m with
    | .nx s => ∃ env' st' S', r = .nx env' st' ∧ Sat pi B S' (V s) env' Δ δ st'
    | .bk s => ∃ env' st' S', r = .bk env' st' ∧ Sat pi B S' (X.U s) env' Δ δ st'
    | .ct s => ∃ env' st' S', r = .ct env' st' ∧ Sat pi B S' (X.U s) env' Δ δ st'
    | .rt x => ∃ w st' S' env' Γ' sl, r = .rt w st' ∧ Sat pi B S' Γ' env' (Δ ++ [sl]) (δ ++ [w]) st' ∧ X.R x sl Γ'
    | .ex e => ∃ env' st' S' Γ', r = .ex e env' st' ∧ Sat pi B S' Γ' env' Δ δ st' ∧ X.E e Γ'
    | .bad => True
/-- a statement -/
def Tq (pi : List Nat) {σ τ ρ : Type} (Γ : List Sl) (b : Sd) (m : Ct σ τ ρ) (V : σ → List Sl) (X : Exits τ ρ) : Prop :=
  ∀ (B : Base) (S : Nat → Prop) (Δ : List Sl) (env : Env) (δ : List W) (st : Store), (∀ sl ∈ Δ, sl.isAl = false) → Sat pi B S Γ env Δ δ st → Oc pi B Δ δ (b env st) m V X
/-- fewer claims -/
inductive Wk : List Sl → List Sl → Prop
  | nil : Wk [] []
  | same {sl : Sl} {a b : List Sl} : Wk a b → Wk (sl :: a) (sl :: b)
  | any {sl : Sl} {a b : List Sl} : Wk a b → Wk (sl :: a) (.any :: b)
  | sh {j : Nat} {t : Tr} {a b : List Sl} : Wk a b → Wk (.o j t :: a) (.o 0 t :: b)
theorem set_mid {α : Type} (p : List α) (x y : α) (r : List α) : (p ++ x :: r).set p.length y = p ++ y :: r := by
  rw [List.set_append_right _ _ (Nat.le_refl _), Nat.sub_self]
  rfl
theorem get_mid {α : Type} (p : List α) (x : α) (r : List α) : (p ++ x :: r)[p.length]? = some x := by
  rw [List.getElem?_append_right (Nat.le_refl _), Nat.sub_self]
  rfl
section
variable {pi : List Nat} {B : Base} {S : Nat → Prop} {Δ : List Sl} {env : Env} {δ : List W} {st : Store}
theorem Sat.weak' : ∀ {a b : List Sl}, Wk a b → ∀ (p : List Sl) S, Sat pi B S (p ++ a) env Δ δ st → ∃ S', Sat pi B S' (p ++ b) env Δ δ st
  | _, _, .nil, p, S, h => ⟨S, h⟩
  | sl :: a, _ :: b, .same w, p, S, h => by
    have q := Sat.weak' w (p ++ [sl]) S (by rw [List.append_assoc]; exact h)
    rw [List.append_assoc] at q
    exact q
  | sl :: a, _ :: b, .any w, p, S, h => by
    have h2 := h.forget p.length
    rw [set_mid] at h2
    have q := Sat.weak' w (p ++ [.any]) S (by rw [List.append_assoc]; exact h2)
    rw [List.append_assoc] at q
    exact q
  | .o j t :: a, _ :: b, .sh w, p, S, h => by
    obtain ⟨S2, hS2, h2⟩ := h.shareV (i := p.length) (get_mid _ _ _)
    rw [set_mid] at h2
    have q := Sat.weak' w (p ++ [.o 0 t]) S2 (by rw [List.append_assoc]; exact h2)
    rw [List.append_assoc] at q
    exact q
theorem Sat.weak {a b : List Sl} (w : Wk a b) (h : Sat pi B S a env Δ δ st) : ∃ S', Sat pi B S' b env Δ δ st := Sat.weak' w [] S h
end
section
variable {pi : List Nat} {σ σ' τ τ' ρ α : Type} {Γ Γ1 : List Sl} {a b rest : Sd} {m : Ct σ τ ρ} {V : σ → List Sl} {V1 : σ' → List Sl} {X : Exits τ ρ}
theorem q_nx {s : σ} (w : Wk Γ (V s)) : Tq pi Γ skip (.nx s) V X := fun B S Δ env δ st hΔ h => by
  obtain ⟨S', h'⟩ := h.weak w
  exact ⟨env, st, S', rfl, h'⟩
theorem q_assoc {c : Sd} (h : Tq pi Γ (sq a (sq b c)) m V X) : Tq pi Γ (sq (sq a b) c) m V X := by
  have e : sq (sq a b) c = sq a (sq b c) := by
    funext env st
    unfold sq
    cases a env st <;> rfl
  rw [e]
  exact h
theorem q_skip (h : Tq pi Γ rest m V X) : Tq pi Γ (sq skip rest) m V X := h
theorem q_bad : Tq pi Γ b (.bad : Ct σ τ ρ) V X := fun B S Δ env δ st hΔ h => trivial
theorem q_ifs {t : Tst} (h : Tq pi Γ (ifS t (sq a rest) (sq b rest)) m V X) : Tq pi Γ (sq (ifS t a b) rest) m V X := by
  have e : sq (ifS t a b) rest = ifS t (sq a rest) (sq b rest) := by
    funext env st
    unfold sq ifS Res.fl
    cases t env st with
    | ok x st1 =>
      cases x <;> rfl
    | exn e st1 => rfl
    | bad => rfl
  rw [e]
  exact h
theorem q_ob {m1 : Option α} {K : α → Ct σ τ ρ} (h : ∀ r, m1 = some r → Tq pi Γ b (K r) V X) : Tq pi Γ b (ob m1 K) V X := by
  cases e : m1 with
  | none => exact q_bad
  | some r => exact h r e
theorem q_obn {m1 : Out α} {K : α → Ct σ τ ρ} (h : ∀ r, m1 = .ok r → Tq pi Γ b (K r) V X) : Tq pi Γ b (obn m1 K) V X := by
  cases e : m1 with
  | bad => exact q_bad
  | ex x => exact q_bad
  | ok r => exact h r e
theorem q_asg {i : Nat} {e : Ev} (hp : i ∉ pi) (h : Xe pi Γ e fun sl Γ' => sl.isAl = false ∧ Tq pi (Γ'.set i sl) rest m V X) : Tq pi Γ (sq (asg i e) rest) m V X := fun B S Δ env δ st hΔ q => by
  obtain ⟨w, st', S', sl, Γ', h1, h2, h3, h4⟩ := h B S Δ env δ st q
  have q2 := h2.store q.lenD hΔ h3 hp
  have e1 : sq (asg i e) rest env st = rest (env.set i (some w)) st' := by
    simp only [sq, asg, h1, Res.fl]
  rw [e1]
  exact h4 B S' Δ _ δ st' hΔ q2
/-- a name for a value -/
theorem q_let {i : Nat} {e : Ev} {x : α} {K : α → Ct σ τ ρ} (E : α → Sl) (hp : i ∉ pi) (hE : ∀ x, (E x).isAl = false) (h : Xe pi Γ e fun sl Γ' => sl = E x ∧ Γ' = Γ1) (k : ∀ x, Tq pi (Γ1.set i (E x)) rest (K x) V X) : Tq pi Γ (sq (asg i e) rest) (lt x K) V X :=
  q_asg hp (h.imp fun sl Γ' q => by
    obtain ⟨rfl, rfl⟩ := q
    exact ⟨hE x, k x⟩)
theorem q_ret {e : Ev} {r : ρ} (h : Xe pi Γ e fun sl Γ' => X.R r sl Γ') : Tq pi Γ (ret e) (.rt r : Ct σ τ ρ) V X := fun B S Δ env δ st hΔ q => by
  obtain ⟨w, st', S', sl, Γ', h1, h2, h3⟩ := h B S Δ env δ st q
  exact ⟨w, st', S', env, Γ', sl, by simp only [ret, h1, Res.fl], h2, h3⟩
theorem q_rets {e : Ev} (h : Tq pi Γ (ret e) m V X) : Tq pi Γ (sq (ret e) rest) m V X := by
  have e1 : sq (ret e) rest = ret e := by
    funext env st
    unfold sq ret
    cases e env st <;> rfl
  rw [e1]
  exact h
theorem q_if {t : Tst} {c : Bool} {m1 m2 : Ct σ τ ρ} (h : Xt pi Γ t fun x Γ' => x = c ∧ Γ' = Γ1) (h1 : Tq pi Γ1 a m1 V X) (h2 : Tq pi Γ1 b m2 V X) : Tq pi Γ (ifS t a b) (cd c m1 m2) V X := fun B S Δ env δ st hΔ q => by
  obtain ⟨x, st', S', Γ', g1, g2, rfl, rfl⟩ := h B S Δ env δ st q
  cases x with
  | true =>
    have e1 : ifS t a b env st = a env st' := by simp only [ifS, g1, Res.fl, if_true]
    rw [e1]
    exact h1 B S' Δ env δ st' hΔ g2
  | false =>
    have e1 : ifS t a b env st = b env st' := by simp only [ifS, g1, Res.fl, Bool.false_eq_true, if_false]
    rw [e1]
    exact h2 B S' Δ env δ st' hΔ g2
/-- a block, and what stands behind it -/
theorem q_sq {m1 : Ct σ' τ ρ} {K : σ' → Ct σ τ ρ} (h : Tq pi Γ a m1 V1 X) (k : ∀ s, Tq pi (V1 s) rest (K s) V X) : Tq pi Γ (sq a rest) (m1.bd K) V X := fun B S Δ env δ st hΔ q => by
  have h1 := h B S Δ env δ st hΔ q
  cases m1 with
  | nx s =>
    obtain ⟨env', st', S', e, q2⟩ := h1
    have e1 : sq a rest env st = rest env' st' := by simp only [sq, e]
    rw [e1]
    exact k s B S' Δ env' δ st' hΔ q2
  | bk s =>
    obtain ⟨env', st', S', e, q2⟩ := h1
    exact ⟨env', st', S', by simp only [sq, e], q2⟩
  | ct s =>
    obtain ⟨env', st', S', e, q2⟩ := h1
    exact ⟨env', st', S', by simp only [sq, e], q2⟩
  | rt s =>
    obtain ⟨w, st', S', env', Γ', sl, e, q2⟩ := h1
    exact ⟨w, st', S', env', Γ', sl, by simp only [sq, e], q2⟩
  | ex x =>
    obtain ⟨env', st', S', Γ', e, q2⟩ := h1
    exact ⟨env', st', S', Γ', by simp only [sq, e], q2⟩
  | bad => trivial
/-! ### errors -/
end
/-! ### loops -/
/-- an item: a value, or a new tuple -/
inductive Io where
  | w (t : Tr)
  | t (ts : List Tr)
inductive IoR (st : Store) (S : Nat → Prop) : Itm → Io → Prop
  | w {w : W} {t : Tr} : At st S 0 w t [] → IoR st S (.w w) (.w t)
  | t {ws : List W} {ts : List Tr} : AtL st S 0 ws ts [] → IoR st S (.t ws) (.t ts)
theorem IoR.mono {st st' : Store} {S S' : Nat → Prop} (hS : ∀ n, S n → S' n) (hs : ∀ n, S n → st'[n]? = st[n]?) {y : Itm} {i : Io} (h : IoR st S y i) : IoR st' S' y i := by
  cases h with
  | w a => exact .w (a.mono hS hs fun _ q => nomatch q)
  | t a => exact .t (a.mono hS hs fun _ q => nomatch q)
/-- what is gone through -/
def Xi (pi : List Nat) (Γ : List Sl) (c : Iv) (κ : List Io → List Sl → Prop) : Prop :=
  ∀ (B : Base) (S : Nat → Prop) (Δ : List Sl) (env : Env) (δ : List W) (st : Store), Sat pi B S Γ env Δ δ st →
    ∃ I st' S' Γ' its, c env st = .ok I st' ∧ Sat pi B S' Γ' env Δ δ st' ∧ (∀ p ∈ I.chk, S' p.1 ∧ st'[p.1]? = some p.2) ∧ Paired (IoR st' S') I.its its ∧ κ its Γ'
def Ag (js : List Nat) (env' env : Env) : Prop := env'.length = env.length ∧ ∀ k, k ∉ js → env'[k]? = env[k]?
/-- a target takes an item; it sets the variables js -/
def Xg (pi : List Nat) (Γ : List Sl) (g : Ti) (y : Io) (js : List Nat) (κ : List Sl → Prop) : Prop :=
  ∀ (B : Base) (S : Nat → Prop) (Δ : List Sl) (env : Env) (δ : List W) (st : Store) (i : Itm), (∀ sl ∈ Δ, sl.isAl = false) → Sat pi B S Γ env Δ δ st → IoR st S i y →
    ∃ env' st' S' Γ', g i env st = some (env', st') ∧ Sat pi B S' Γ' env' Δ δ st' ∧ Ag js env' env ∧ κ Γ'
section
variable {pi : List Nat} {B : Base} {S : Nat → Prop} {Γ : List Sl} {env : Env} {Δ : List Sl} {δ : List W} {st : Store}
/-- a new beginning -/
theorem Sat.rebase (h : Sat pi B S Γ env Δ δ st) : ∃ c, Own S st c ∧ Sat pi ⟨S, st, c, B.P⟩ S Γ env Δ δ st ∧ (∀ {S' : Nat → Prop} {Γ' : List Sl} {env' : Env} {Δ' : List Sl} {δ' : List W} {st' : Store}, Sat pi ⟨S, st, c, B.P⟩ S' Γ' env' Δ' δ' st' → Sat pi B S' Γ' env' Δ' δ' st') := by
  obtain ⟨M, N, h⟩ := h
  exact ⟨ctn M N, h.own, ⟨M, N, h.gr, h.dr, h.own, Tn.refl, h.pi, h.pn⟩, fun ⟨M', N', h'⟩ => ⟨M', N', h'.gr, h'.dr, h'.own, h.tn.trans h'.tn, h.pi, h'.pn⟩⟩
/-- what is shared stays -/
theorem Sat.stays {S0 : Nat → Prop} {st0 : Store} {c : Nat → Nat} {P : List (Nat × W)} (o : Own S0 st0 c) (h : Sat pi ⟨S0, st0, c, P⟩ S Γ env Δ δ st) : (∀ n, S0 n → S n) ∧ ∀ n, S0 n → st[n]? = st0[n]? := by
  obtain ⟨M, N, h⟩ := h
  refine ⟨h.tn.up, fun n hn => h.tn.same n (o.bd n hn) ?_⟩
  rcases Nat.eq_zero_or_pos (c n) with q | q
  · exact q
  · exact absurd hn (o.ow n q).1
end
theorem Oc.base {pi : List Nat} {σ τ ρ : Type} {B B' : Base} {Δ : List Sl} {δ : List W} {r : Fl} {m : Ct σ τ ρ} {V : σ → List Sl} {X : Exits τ ρ}
    (k : ∀ {S' : Nat → Prop} {Γ' : List Sl} {env' : Env} {Δ' : List Sl} {δ' : List W} {st' : Store}, Sat pi B' S' Γ' env' Δ' δ' st' → Sat pi B S' Γ' env' Δ' δ' st') (h : Oc pi B' Δ δ r m V X) : Oc pi B Δ δ r m V X := by
  cases m with
  | nx s =>
    obtain ⟨env', st', S', e, q⟩ := h
    exact ⟨env', st', S', e, k q⟩
  | bk s =>
    obtain ⟨env', st', S', e, q⟩ := h
    exact ⟨env', st', S', e, k q⟩
  | ct s =>
    obtain ⟨env', st', S', e, q⟩ := h
    exact ⟨env', st', S', e, k q⟩
  | rt s =>
    obtain ⟨w, st', S', env', Γ', sl, e, q, z⟩ := h
    exact ⟨w, st', S', env', Γ', sl, e, k q, z⟩
  | ex x =>
    obtain ⟨env', st', S', Γ', e, q, z⟩ := h
    exact ⟨env', st', S', Γ', e, k q, z⟩
  | bad => trivial
section
variable {pi : List Nat} {σ τ ρ α υ : Type} {Γ : List Sl} {rest b : Sd} {m : Ct σ τ ρ} {V : σ → List Sl} {X : Exits τ ρ}
theorem loop_ok {V0 : υ → List Sl} {g : Ti} {js : List Nat} {q : α → Io} {f : υ → α → Ct υ υ ρ} {chk : List (Nat × Cell)} (hb : ∀ s x, Xg pi (V0 s) g (q x) js fun Γ' => Tq pi Γ' b (f s x) V0 ⟨V0, X.R, X.E⟩)
    {B : Base} {Δ : List Sl} {δ : List W} (hΔ : ∀ sl ∈ Δ, sl.isAl = false) (hc : ∀ (S : Nat → Prop) (s : υ) (env : Env) (st : Store), Sat pi B S (V0 s) env Δ δ st → Chk chk st)
    {its : List Itm} (hi : ∀ (S : Nat → Prop) (s : υ) (env : Env) (st : Store), Sat pi B S (V0 s) env Δ δ st → ∀ y i, IoR B.st B.S y i → IoR st S y i) : ∀ (its : List Itm) (xs : List α), Paired (IoR B.st B.S) its (xs.map q) → ∀ (s : υ) (S : Nat → Prop) (env : Env) (st : Store), Sat pi B S (V0 s) env Δ δ st →
    Oc pi B Δ δ (forL g b chk its env st) (loop f s xs : Ct υ τ ρ) V0 X
  | _, [], .nil, s, S, env, st, h => ⟨env, st, S, by unfold forL; rw [if_pos (hc S s env st h)], h⟩
  | y :: its, x :: xs, .cons r rs, s, S, env, st, h => by
    obtain ⟨env1, st1, S1, Γ1, e1, h1, _, k⟩ := hb s x B S Δ env δ st y hΔ h (hi S s env st h _ _ r)
    have h2 := k B S1 Δ env1 δ st1 hΔ h1
    unfold forL
    rw [if_pos (hc S s env st h), e1]
    unfold loop
    cases hm : f s x with
    | nx s' =>
      rw [hm] at h2
      obtain ⟨env2, st2, S2, e2, h3⟩ := h2
      simp only [e2]
      exact loop_ok hb hΔ hc (its := its) hi its xs rs s' S2 env2 st2 h3
    | ct s' =>
      rw [hm] at h2
      obtain ⟨env2, st2, S2, e2, h3⟩ := h2
      simp only [e2]
      exact loop_ok hb hΔ hc (its := its) hi its xs rs s' S2 env2 st2 h3
    | bk s' =>
      rw [hm] at h2
      obtain ⟨env2, st2, S2, e2, h3⟩ := h2
      simp only [e2]
      exact ⟨env2, st2, S2, rfl, h3⟩
    | rt r =>
      rw [hm] at h2
      obtain ⟨w, st2, S2, env2, Γ2, sl, e2, h3⟩ := h2
      simp only [e2]
      exact ⟨w, st2, S2, env2, Γ2, sl, rfl, h3⟩
    | ex x =>
      rw [hm] at h2
      obtain ⟨env2, st2, S2, Γ2, e2, h3⟩ := h2
      simp only [e2]
      exact ⟨env2, st2, S2, Γ2, rfl, h3⟩
    | bad => trivial
theorem q_for {V0 : υ → List Sl} {c : Iv} {g : Ti} {js : List Nat} {xs : List α} {q : α → Io} {f : υ → α → Ct υ υ ρ} {s0 : υ} {K : υ → Ct σ τ ρ} (hi : Xi pi Γ c fun its Γ' => its = xs.map q ∧ Wk Γ' (V0 s0))
    (hb : ∀ s x, Xg pi (V0 s) g (q x) js fun Γ' => Tq pi Γ' b (f s x) V0 ⟨V0, X.R, X.E⟩) (k : ∀ s, Tq pi (V0 s) rest (K s) V X) : Tq pi Γ (sq (forS c g b) rest) (Ct.bd (loop f s0 xs) K) V X := by
  refine q_sq (V1 := V0) (fun B S Δ env δ st hΔ h => ?_) k
  obtain ⟨I, st1, S1, Γ1, its, e1, h1, hck, hits, rfl, hw⟩ := hi B S Δ env δ st h
  obtain ⟨c1, o1, h2, back⟩ := h1.rebase
  obtain ⟨S2, h3⟩ := h2.weak hw
  have e2 : forS c g b env st = forL g b I.chk I.its env st1 := by
    simp only [forS, e1, Res.fl]
  rw [e2]
  refine Oc.base back (loop_ok hb hΔ (fun S s env' st' h4 => ?_) (its := I.its) (fun S s env' st' h4 y i r => ?_) I.its xs hits s0 S2 env st1 h3)
  · intro p hp
    obtain ⟨q1, q2⟩ := hck p hp
    exact ((h4.stays o1).2 p.1 q1).trans q2
  · exact r.mono (h4.stays o1).1 (h4.stays o1).2
end
end VS.TR
set_option Elab.async false
set_option linter.all false
set_option maxRecDepth 100000
set_option maxHeartbeats 1000000
/-! TR4: functions and calls. -/
namespace VS.TR
open PySem PySem.Spec PyProof.Rows L2 VS
/-- what a def does with arguments of these kinds: what comes back, what its arguments are then -/
def FnS {ρ : Type} (φ : Fn) (Γa : List Sl) (m : Out ρ) (o : ρ → Sl) (G : ρ → List Sl) : Prop :=
  ∀ (st : Store) (S : Nat → Prop) (ws : List W) (N : List Nat), DR st S [] ws Γa N → (∀ sl ∈ Γa, sl.isAl = false) → Own S st (fun a => N.count a) →
    match m with
    | .ok r => ∃ w st' S' N', φ ws st = .ok w st' ∧ DR st' S' [] (ws ++ [w]) (G r ++ [o r]) N' ∧ (G r).length = ws.length ∧ Own S' st' (fun a => N'.count a) ∧ Tn S st (fun a => N.count a) S' st' (fun a => N'.count a)
    | .ex e => ∃ st' S', φ ws st = .exn e st' ∧ Own S' st' (fun _ => 0) ∧ Tn S st (fun a => N.count a) S' st' (fun _ => 0)
    | .bad => True
/-- what is kept of the parameters -/
inductive Pk (pi : List Nat) : Nat → List Sl → List Sl → Prop
  | nil {i : Nat} {Γ : List Sl} : Pk pi i [] Γ
  | any {i : Nat} {sl : Sl} {a Γ : List Sl} : Pk pi (i + 1) a Γ → Pk pi i (.any :: a) (sl :: Γ)
  | same {i : Nat} {sl : Sl} {a Γ : List Sl} : i ∈ pi → Pk pi (i + 1) a Γ → Pk pi i (sl :: a) (sl :: Γ)
theorem Pk.dr {pi : List Nat} {st : Store} {S : Nat → Prop} : ∀ {a Γ : List Sl} {env : Env} {M : List Nat} {i : Nat} {ws : List W}, Pk pi i a Γ → GR st S env Γ M → a.length = ws.length → (∀ k w, i + k ∈ pi → ws[k]? = some w → env[k]? = some (some w)) → ∃ N, DR st S [] ws a N ∧ ∀ x, N.count x ≤ M.count x
  | _, _, _, _, i, [], .nil, _, _, _ => ⟨[], .nil, fun x => by simp⟩
  | _ :: a, _ :: Γ, _, _, i, w :: ws, .any h, .cons q r, e, k => by
    obtain ⟨N, n1, n2⟩ := Pk.dr h r (by simpa using e) fun k' w' h1 h2 => k (k' + 1) w' (by rw [show i + (k' + 1) = i + 1 + k' by omega]; exact h1) h2
    exact ⟨[] ++ N, .cons (M := []) rfl n1, fun x => by simp only [List.count_append, List.count_nil]; have := n2 x; omega⟩
  | sl :: a, _ :: Γ, _, _, i, w :: ws, .same hi h, .cons (M := K) q r, e, k => by
    obtain ⟨N, n1, n2⟩ := Pk.dr h r (by simpa using e) fun k' w' h1 h2 => k (k' + 1) w' (by rw [show i + (k' + 1) = i + 1 + k' by omega]; exact h1) h2
    have e0 := k 0 w hi rfl
    have hd : SlD st S [] w sl K := by
      cases sl with
      | any => exact q
      | al z => exact q.elim
      | o j t =>
        obtain ⟨w', e1, q'⟩ := q
        rw [List.getElem?_cons_zero] at e0
        cases e0
        cases e1
        exact q'
    exact ⟨K ++ N, .cons hd n1, fun x => by rw [List.count_append, List.count_append]; have := n2 x; omega⟩
theorem GR.args {st : Store} {S : Nat → Prop} : ∀ {ws : List W} {Γa : List Sl} {N : List Nat}, DR st S [] ws Γa N → (∀ sl ∈ Γa, sl.isAl = false) → ∀ k, GR st S (ws.map some ++ List.replicate k none) (Γa ++ List.replicate k .any) N
  | _, _, _, .nil, _, k => by
    induction k with
    | zero => exact .nil
    | succ k ih => exact .cons (M := []) (N := []) rfl ih
  | w :: ws, sl :: Γa, _, .cons a b, h, k => by
    refine .cons ?_ (GR.args b (fun s q => h s (List.mem_cons_of_mem _ q)) k)
    have := h sl List.mem_cons_self
    cases sl with
    | any => exact a
    | o j t => exact ⟨w, rfl, a⟩
    | al i => cases this
/-- what is wished of a def's body -/
def fX {τ ρ : Type} (pi : List Nat) (U : τ → List Sl) (o : ρ → Sl) (G : ρ → List Sl) : Exits τ ρ := ⟨U, fun r sl Γ => sl = o r ∧ sl.isAl = false ∧ Pk pi 0 (G r) Γ, fun _ _ => True⟩
theorem fn_ok {σ τ ρ : Type} {Γa : List Sl} {k : Nat} {body : Sd} {m : Ct σ τ ρ} {V : σ → List Sl} {U : τ → List Sl} {o : ρ → Sl} {G : ρ → List Sl} (pi : List Nat) (hp : ∀ i ∈ pi, i < Γa.length) (hG : ∀ r, (G r).length = Γa.length)
    (h : Tq pi (Γa ++ List.replicate k .any) body m V (fX pi U o G)) : FnS (fnD (Γa.length + k) body) Γa m.fin o G := by
  intro st S ws N hd hna ho
  have hl := hd.len
  let P : List (Nat × W) := pi.map fun i => (i, ws.getD i (.d .none))
  have hP : P.map Prod.fst = pi := by
    simp only [P, List.map_map]
    exact (List.map_congr_left fun _ _ => rfl).trans (List.map_id _)
  have e0 : ∀ a, ctn N [] a = N.count a := fun a => by unfold ctn; simp
  have ec : ctn N [] = fun a => N.count a := funext e0
  have h0 : Sat pi ⟨S, st, fun a => N.count a, P⟩ S (Γa ++ List.replicate k .any) (ws.map some ++ List.replicate k none) [] [] st := by
    refine ⟨N, [], GR.args hd hna k, .nil, by rw [ec]; exact ho, by rw [ec]; exact Tn.refl, hP, fun p hp2 => ?_⟩
    obtain ⟨i, hi, rfl⟩ := List.mem_map.mp hp2
    have := hp i hi
    rw [List.getElem?_append_left (by rw [List.length_map, hl]; exact this), List.getElem?_map, List.getElem?_eq_getElem (by rw [hl]; exact this), Option.map_some, List.getD_eq_getElem?_getD, List.getElem?_eq_getElem (by rw [hl]; exact this)]
    rfl
  have h1 := h _ S [] _ [] st (fun _ z => nomatch z) h0
  have eb : fnD (Γa.length + k) body ws st = fin (body (ws.map some ++ List.replicate k none) st) := by
    unfold fnD ent
    rw [hl, show Γa.length + k - Γa.length = k by omega]
  cases m with
  | nx s => trivial
  | bk s => trivial
  | ct s => trivial
  | bad => trivial
  | ex e =>
    obtain ⟨env', st', S', Γ', e1, ⟨M', N', q⟩, _⟩ := h1
    exact ⟨st', S', by rw [eb, e1]; rfl, q.own.sub fun a => Nat.zero_le _, q.tn.trans (Tn.less fun a => Nat.zero_le _)⟩
  | rt r =>
    obtain ⟨w, st', S', env', Γ', sl, e1, ⟨M', N', q⟩, rfl, ha, pk⟩ := h1
    rw [List.nil_append, List.nil_append] at q
    obtain ⟨N2, d1, d2⟩ := pk.dr (ws := ws) q.gr (by rw [hG, hl]) fun i w' hi hw => by
      rw [Nat.zero_add] at hi
      have := q.pn (i, ws.getD i (.d .none)) (List.mem_map.mpr ⟨i, hi, rfl⟩)
      rw [this, List.getD_eq_getElem?_getD, hw]
      rfl
    have d3 : DR st' S' [] [w] [o r] N' := q.dr.ren fun s hs => by
      rw [List.mem_singleton] at hs
      subst hs
      exact ha
    have ec2 : ∀ a, (N2 ++ N').count a ≤ ctn M' N' a := fun a => by
      unfold ctn
      rw [List.count_append]
      have := d2 a
      omega
    exact ⟨w, st', S', N2 ++ N', by rw [eb, e1]; rfl, d1.app d3, by rw [hG, hl], q.own.sub ec2, q.tn.trans (Tn.less ec2)⟩
/-! ### calls -/
/-- operands become arguments: shared; as they are; once more; a variable is lent -/
inductive Pr : List Sl → List Sl → List Sl → List Sl → Prop
  | nil {Γ : List Sl} : Pr Γ [] Γ []
  | sh {Γ sls Γ1 Γa : List Sl} {j : Nat} {t : Tr} : Pr Γ sls Γ1 Γa → Pr Γ (.o j t :: sls) Γ1 (.o 0 t :: Γa)
  | ow {Γ sls Γ1 Γa : List Sl} {j : Nat} {t : Tr} : Pr Γ sls Γ1 Γa → Pr Γ (.o j t :: sls) Γ1 (.o j t :: Γa)
  | cp {Γ sls Γ1 Γa : List Sl} {i : Nat} {t : Tr} : Γ[i]? = some (.o 0 t) → Pr Γ sls Γ1 Γa → Pr Γ (.al i :: sls) Γ1 (.o 0 t :: Γa)
  | bo {Γ sls Γ1 Γa : List Sl} {i j : Nat} {t : Tr} : Γ[i]? = some (.o j t) → Pr (Γ.set i .any) sls Γ1 Γa → Pr Γ (.al i :: sls) Γ1 (.o j t :: Γa)
/-- variables get their objects back -/
def upG : List Sl → List Sl → List Sl → List Sl
  | Γ, .al i :: sls, .o j t :: Γp => upG (Γ.set i (.o j t)) sls Γp
  | Γ, _ :: sls, _ :: Γp => upG Γ sls Γp
  | Γ, _, _ => Γ
theorem Pr.go {st : Store} {S : Nat → Prop} {env : Env} : ∀ {Γ sls Γ1 Γa : List Sl}, Pr Γ sls Γ1 Γa → ∀ {M : List Nat} {ws : List W} {N : List Nat}, GR st S env Γ M → DR st S env ws sls N →
    ∃ M1 Nc X : List Nat, GR st S env Γ1 M1 ∧ DR st (fun n => S n ∨ n ∈ X) [] ws Γa Nc ∧ (∀ sl ∈ Γa, sl.isAl = false) ∧ ∀ a, M1.count a + Nc.count a + X.count a ≤ M.count a + N.count a
  | _, _, _, _, .nil, M, _, _, g, .nil => ⟨M, [], [], g, .nil, (fun _ h => nomatch h), fun a => by simp⟩
  | _, _, _, _, .sh (t := t) p, M, _, _, g, .cons (M := K) a b => by
    obtain ⟨M1, Nc, X, q1, q2, q3, q4⟩ := p.go g b
    refine ⟨M1, [] ++ Nc, K ++ X, q1, .cons (M := []) ?_ (q2.mono (fun n h => h.elim .inl fun h => .inr (List.mem_append_right _ h)) (fun _ _ => rfl) fun _ _ => rfl), ?_, fun x => ?_⟩
    · exact At.share (fun _ h => .inl h) a fun n hn => .inr (List.mem_append_left _ hn)
    · intro sl h
      rcases List.mem_cons.mp h with rfl | h
      · rfl
      · exact q3 sl h
    · simp only [List.count_append, List.count_nil]
      have := q4 x
      omega
  | _, _, _, _, .ow (j := j) (t := t) p, M, _, _, g, .cons (M := K) a b => by
    obtain ⟨M1, Nc, X, q1, q2, q3, q4⟩ := p.go g b
    refine ⟨M1, K ++ Nc, X, q1, .cons ?_ q2, ?_, fun x => ?_⟩
    · exact At.mono (fun _ h => .inl h) (fun _ _ => rfl) a fun _ _ => rfl
    · intro sl h
      rcases List.mem_cons.mp h with rfl | h
      · rfl
      · exact q3 sl h
    · rw [List.count_append, List.count_append]
      have := q4 x
      omega
  | _, _, _, _, .cp (i := i) (t := t) hi p, M, w :: ws, _, g, .cons (M := K) a b => by
    obtain ⟨M1, Nc, X, q1, q2, q3, q4⟩ := p.go g b
    obtain ⟨rfl, ea⟩ := a
    obtain ⟨o, K2, L, e1, ⟨w', rfl, a'⟩, _⟩ := g.take hi
    rw [ea] at e1
    cases e1
    have := At.z a'
    subst this
    refine ⟨M1, [] ++ Nc, X, q1, .cons (M := []) ?_ q2, ?_, fun x => ?_⟩
    · exact At.mono (fun _ h => .inl h) (fun _ _ => rfl) a' fun _ _ => rfl
    · intro sl h
      rcases List.mem_cons.mp h with rfl | h
      · rfl
      · exact q3 sl h
    · simp only [List.count_append, List.count_nil]
      have := q4 x
      omega
  | _, _, _, _, .bo (i := i) (j := j) (t := t) hi p, M, w :: ws, _, g, .cons (M := K) a b => by
    obtain ⟨rfl, ea⟩ := a
    obtain ⟨o, K2, L, e1, ⟨w', rfl, a'⟩, g2, q⟩ := g.take hi
    rw [ea] at e1
    cases e1
    obtain ⟨M1, Nc, X, q1, q2, q3, q4⟩ := p.go g2 b
    refine ⟨M1, K2 ++ Nc, X, q1, .cons ?_ q2, ?_, fun x => ?_⟩
    · exact At.mono (fun _ h => .inl h) (fun _ _ => rfl) a' fun _ _ => rfl
    · intro sl h
      rcases List.mem_cons.mp h with rfl | h
      · rfl
      · exact q3 sl h
    · simp only [List.count_append, List.count_nil]
      have := q4 x
      have := q x
      omega
theorem env_same {env : Env} {i : Nat} {o : Option W} (h : env[i]? = some o) : env.set i o = env := by
  have l := (List.getElem?_eq_some_iff.mp h).1
  apply List.ext_getElem?
  intro m
  by_cases hm : i = m
  · subst hm
    rw [List.getElem?_set_self l, h]
  · rw [List.getElem?_set_ne hm]
theorem upG_ok {st0 st : Store} {S0 S : Nat → Prop} {env : Env} : ∀ {sls : List Sl} {ws : List W} {N0 : List Nat}, DR st0 S0 env ws sls N0 → ∀ {Γp : List Sl} {N : List Nat} {Γ : List Sl} {M : List Nat}, DR st S [] ws Γp N → GR st S env Γ M → ∃ M', GR st S env (upG Γ sls Γp) M' ∧ ∀ a, M'.count a ≤ M.count a + N.count a
  | _, _, _, .nil, _, _, Γ, M, .nil, g => ⟨M, by unfold upG; exact g, fun a => by omega⟩
  | sl :: sls, w :: ws, _, .cons a b, sp :: Γp, _, Γ, M, .cons (M := K) (N := K2) c d, g => by
    have skip : ∃ M', GR st S env (upG Γ sls Γp) M' ∧ ∀ a, M'.count a ≤ M.count a + (K ++ K2).count a := by
      obtain ⟨M', q1, q2⟩ := upG_ok b d g
      exact ⟨M', q1, fun x => by rw [List.count_append]; have := q2 x; omega⟩
    cases sl with
    | any => unfold upG; exact skip
    | o j t => unfold upG; exact skip
    | al i =>
      cases sp with
      | any => unfold upG; exact skip
      | al j => unfold upG; exact skip
      | o j t =>
        obtain ⟨_, ea⟩ := a
        obtain ⟨L, g1, g2⟩ := g.put i (o := some w) (sl := .o j t) (N := K) ⟨w, rfl, c⟩
        rw [env_same ea] at g1
        obtain ⟨M', q1, q2⟩ := upG_ok b d g1
        refine ⟨M', by unfold upG; exact q1, fun x => ?_⟩
        rw [List.count_append]
        have := q2 x
        have := g2 x
        omega
section
variable {pi : List Nat} {Γ : List Sl} {κ : Sl → List Sl → Prop} {ρ : Type} {φ : Fn} {Γa : List Sl} {m : Out ρ} {o : ρ → Sl} {G : ρ → List Sl} {r : ρ} {a : Av}
theorem x_cal (hf : FnS φ Γa m o G) (hm : m = .ok r) (ho : (o r).isAl = false) (h : Xa pi Γ a fun sls Γ' => ∃ Γ1, Pr Γ' sls Γ1 Γa ∧ κ (o r) (upG Γ1 sls (G r))) : Xe pi Γ (calR φ a) κ := fun B S Δ env δ st q => by
  obtain ⟨ws, st1, S1, sls, Γ2, e1, hl, ⟨M, N, s⟩, Γ1, hp, hk⟩ := h B S Δ env δ st q
  obtain ⟨N0, N1, d0, d1, rfl⟩ := DR.split q.lenD s.dr
  obtain ⟨M1, Nc, X, p1, p2, p3, p4⟩ := hp.go s.gr d1
  subst hm
  have cc : ∀ a, (ctn M1 N0 a + Nc.count a) + X.count a ≤ ctn M (N0 ++ N1) a := fun a => by
    unfold ctn
    rw [List.count_append]
    have := p4 a
    omega
  have own1 := s.own.shr (c1 := fun a => ctn M1 N0 a + Nc.count a) cc
  have tn1 := s.tn.trans (Tn.shr (c1 := fun a => ctn M1 N0 a + Nc.count a) cc)
  obtain ⟨w, st2, S2, N2, e2, d2, hg, own2, tn2⟩ := hf st1 _ ws Nc p2 p3 (own1.sub fun a => by show Nc.count a ≤ ctn M1 N0 a + Nc.count a; omega)
  obtain ⟨N3, N4, d3, d4, rfl⟩ := DR.split hg.symm d2
  have fr := tn2.frame (f := ctn M1 N0)
  have fr' : Tn (fun n => S1 n ∨ n ∈ X) st1 (fun a => ctn M1 N0 a + Nc.count a) S2 st2 (fun a => (N3 ++ N4).count a + ctn M1 N0 a) := by
    have e : (fun n => Nc.count n + ctn M1 N0 n) = fun a => ctn M1 N0 a + Nc.count a := funext fun a => Nat.add_comm _ _
    rw [← e]
    exact fr
  -- the rest is as it was
  have keep : ∀ n, 0 < ctn M1 N0 n → st2[n]? = st1[n]? ∧ ¬ S2 n ∧ n < st2.length ∧ (N3 ++ N4).count n = 0 := fun n hn => by
    have h1 := own1.one n
    have h2 := own1.ow n (by show 0 < ctn M1 N0 n + Nc.count n; omega)
    have z : Nc.count n = 0 := by
      have : ctn M1 N0 n + Nc.count n ≤ 1 := h1
      omega
    refine ⟨tn2.same n h2.2 z, fun hs => ?_, Nat.lt_of_lt_of_le h2.2 tn2.le, ?_⟩
    · rcases tn2.dn n h2.2 hs with q | q
      · exact h2.1 q
      · have : 0 < Nc.count n := q
        omega
    · rcases Nat.eq_zero_or_pos ((N3 ++ N4).count n) with q | q
      · exact q
      · have := tn2.ow n h2.2 q
        have : 0 < Nc.count n := this
        omega
  have own3 : Own S2 st2 (fun a => (N3 ++ N4).count a + ctn M1 N0 a) := by
    refine ⟨fun a => ?_, fun a ha => ?_, own2.bd⟩
    · show (N3 ++ N4).count a + ctn M1 N0 a ≤ 1
      by_cases q : 0 < ctn M1 N0 a
      · have := (keep a q).2.2.2
        have := own1.one a
        have : ctn M1 N0 a + Nc.count a ≤ 1 := this
        omega
      · have : (N3 ++ N4).count a ≤ 1 := own2.one a
        omega
    · by_cases q : 0 < ctn M1 N0 a
      · exact ⟨(keep a q).2.1, (keep a q).2.2.1⟩
      · refine own2.ow a ?_
        show 0 < (N3 ++ N4).count a
        have : 0 < (N3 ++ N4).count a + ctn M1 N0 a := ha
        omega
  have hup : ∀ n, S1 n → S2 n := fun n hn => tn2.up n (.inl hn)
  have hsm : ∀ n, S1 n → st2[n]? = st1[n]? := fun n hn => by
    refine tn2.same n (s.own.bd n hn) ?_
    rcases Nat.eq_zero_or_pos (Nc.count n) with q | q
    · exact q
    · have := own1.ow n (by show 0 < ctn M1 N0 n + Nc.count n; omega)
      exact absurd (.inl hn) this.1
  have g2 := p1.mono hup hsm fun n hn => (keep n (ctn_mem.mpr (.inl hn))).1
  have d0' := d0.mono hup hsm fun n hn => (keep n (ctn_mem.mpr (.inr hn))).1
  obtain ⟨M2, g3, g4⟩ := upG_ok d1 d3 g2
  have cc2 : ∀ a, ctn M2 (N0 ++ N4) a ≤ (N3 ++ N4).count a + ctn M1 N0 a := fun a => by
    unfold ctn
    rw [List.count_append, List.count_append]
    have := g4 a
    omega
  refine ⟨w, st2, S2, o r, _, by simp only [calR, e1, Res.bind, e2], ⟨M2, N0 ++ N4, g3, d0'.app (d4.ren fun sl hs => ?_), own3.sub cc2, ?_, s.pi, s.pn⟩, hk⟩
  · rw [List.mem_singleton] at hs
    subst hs
    exact ho
  · exact (tn1.trans fr').trans (Tn.less cc2)
end
/-- the law itself -/
theorem says_of {φ : Fn} {ns : List Int} {m : Out Bool} {G : Bool → List Sl} (h : FnS φ [.o 0 (.s (ns.map PyData.int))] m (fun b => .o 0 (.d (.bool b))) G) (hm : m = .ok true) : Says φ ns := by
  subst hm
  have d : DR [] (fun _ => False) [] [W.r (ns.map PyData.int)] [Sl.o 0 (.s (ns.map PyData.int))] [] := DR.one (At.r _)
  obtain ⟨w, st', S', N', e, d', hg, _⟩ := h [] (fun _ => False) _ [] d (fun sl hs => by
    rw [List.mem_singleton] at hs
    subst hs
    rfl) ⟨fun a => Nat.zero_le _, fun a ha => absurd ha (by simp), fun n hn => hn.elim⟩
  obtain ⟨N3, N4, _, d4, _⟩ := DR.split hg.symm d'
  cases d4 with
  | cons a b =>
    cases b
    cases a
    exact ⟨st', e⟩
end VS.TR
set_option Elab.async false
set_option linter.all false
set_option maxRecDepth 100000
set_option maxHeartbeats 1000000
/-! TR5: typed values; operations. -/
namespace VS.TR
open PySem PySem.Spec PyProof.Rows L2 VS
open PySem.W (Datum DatumOrd)
def datas : List Tr → Option (List PyData)
  | [] => some []
  | .d x :: r => (datas r).map (x :: ·)
  | _ :: _ => none
/-- a tuple -/
def tupT (ts : List Tr) : Tr := match datas ts with
  | some ds => .d (.tuple ds)
  | none => .t ts
theorem datas_eq : ∀ {ts : List Tr} {ds : List PyData}, datas ts = some ds → ts = ds.map Tr.d
  | [], ds, h => by cases h; rfl
  | .d x :: r, ds, h => by
    cases q : datas r with
    | none => rw [datas, q] at h; cases h
    | some es =>
      rw [datas, q] at h
      cases h
      rw [datas_eq q]
      rfl
  | .l _ :: _, _, h => by cases h
  | .k _ :: _, _, h => by cases h
  | .t _ :: _, _, h => by cases h
  | .s _ :: _, _, h => by cases h
class Te (α : Type) where
  tr : α → Tr
open Te (tr)
structure T3 (α β γ : Type) where
  a : α
  b : β
  c : γ
deriving DecidableEq
structure T4 (α β γ δ : Type) where
  a : α
  b : β
  c : γ
  d : δ
deriving DecidableEq
instance : Te Int := ⟨fun i => .d (.int i)⟩
instance : Te Bool := ⟨fun i => .d (.bool i)⟩
instance : Te Str := ⟨fun i => .d (.str i)⟩
instance : Te Unit := ⟨fun i => .d .none⟩
instance {α : Type} [Te α] : Te (List α) := ⟨fun xs => .l (xs.map tr)⟩
instance {α β : Type} [Te α] [Te β] : Te (α × β) := ⟨fun p => tupT [tr p.1, tr p.2]⟩
instance {α β γ : Type} [Te α] [Te β] [Te γ] : Te (T3 α β γ) := ⟨fun p => tupT [tr p.a, tr p.b, tr p.c]⟩
instance {α β γ δ : Type} [Te α] [Te β] [Te γ] [Te δ] : Te (T4 α β γ δ) := ⟨fun p => tupT [tr p.a, tr p.b, tr p.c, tr p.d]⟩
instance {α : Type} [Te α] : Te (Option α) := ⟨fun o => match o with
  | none => .d .none
  | some x => tr x⟩
/-- keys of dicts -/
class Ky (α : Type) where
  ky : α → Key
  da : α → PyData
  inj : ∀ x y, ky x = ky y → x = y
  ok : ∀ x, keyOf (.d (da x)) = some (ky x)
open Ky (ky)
instance : Ky Int := ⟨.inl, .int, fun _ _ h => Sum.inl.inj h, fun _ => rfl⟩
instance : Ky Str := ⟨.inr, .str, fun _ _ h => Sum.inr.inj h, fun _ => rfl⟩
abbrev trK {κ α : Type} [Ky κ] [Te α] (d : List (κ × α)) : Tr := .k (d.map fun p => (ky p.1, tr p.2))
/-- a slot with a value -/
abbrev O {α : Type} [Te α] (j : Nat) (x : α) : Sl := .o j (tr x)
abbrev D {α : Type} [Te α] (x : α) : Sl := .o 0 (tr x)
/-! ### values read whole -/
theorem rdW_mono {st : Store} : ∀ {k : Nat} {w : W} {x : PyData}, rdW st k w = some x → rdW st (k + 1) w = some x
  | k, .d y, x, h => by cases k <;> exact h
  | k, .r y, x, h => by cases k <;> exact h
  | 0, .c n, x, h => by cases h
  | k + 1, .c n, x, h => by
    unfold rdW at h ⊢
    have go : ∀ ws : List W, ∀ ds, ws.mapM (rdW st k) = some ds → ws.mapM (rdW st (k + 1)) = some ds := by
      intro ws
      induction ws with
      | nil => exact fun ds h => h
      | cons w ws ih =>
        intro ds h
        rw [List.mapM_cons] at h ⊢
        cases q : rdW st k w with
        | none => rw [q] at h; cases h
        | some y =>
          rw [q] at h
          rw [rdW_mono q]
          cases q2 : ws.mapM (rdW st k) with
          | none => rw [q2] at h; cases h
          | some ys =>
            rw [q2] at h
            rw [ih _ q2]
            exact h
    cases e : st[n]? with
    | none => rw [e] at h; cases h
    | some c =>
      rw [e] at h
      cases c with
      | lst ws =>
        simp only at h ⊢
        cases q : ws.mapM (rdW st k) with
        | none => rw [q] at h; cases h
        | some ds => rw [q] at h; rw [go _ _ q]; exact h
      | tup ws =>
        simp only at h ⊢
        cases q : ws.mapM (rdW st k) with
        | none => rw [q] at h; cases h
        | some ds => rw [q] at h; rw [go _ _ q]; exact h
      | dct ws => cases h
      | lck ws => cases h
      | err x => cases h
      | dead => cases h
theorem rdW_le {st : Store} {w : W} {x : PyData} {k m : Nat} (h : rdW st k w = some x) (hk : k ≤ m) : rdW st m w = some x := by
  obtain ⟨i, rfl⟩ := Nat.exists_eq_add_of_le hk
  induction i with
  | zero => exact h
  | succ i ih => exact rdW_mono (ih (Nat.le_add_right _ _))
/-- values that are data in the end -/
class En (α : Type) extends Te α where
  en : α → PyData
  dep : Nat
  rd : ∀ (st : Store) (w : W) (x : α), Rp st w (tr x) → rdW st dep w = some (en x)
open En (en)
theorem rp_l {st : Store} {w : W} {ts : List Tr} (h : Rp st w (.l ts)) : ∃ n ws, w = .c n ∧ st[n]? = some (.lst ws) ∧ RpL st ws ts := by
  cases h with
  | l e a => exact ⟨_, _, rfl, e, a⟩
theorem rp_d {st : Store} {w : W} {x : PyData} (h : Rp st w (.d x)) : w = .d x := by cases h; rfl
theorem rd_list {st : Store} {k : Nat} {w : W} {ts : List Tr} {ds : List PyData} (h : Rp st w (.l ts)) (hr : ∀ ws, RpL st ws ts → ws.mapM (rdW st k) = some ds) : rdW st (k + 1) w = some (.list ds) := by
  cases h with
  | l e a =>
    unfold rdW
    rw [e]
    simp only
    rw [hr _ a]
    rfl
theorem rd_tup {st : Store} {k : Nat} {w : W} {ts : List Tr} {ds : List PyData} (h : Rp st w (tupT ts)) (hr : ∀ ws, RpL st ws ts → ws.mapM (rdW st k) = some ds) : rdW st (k + 1) w = some (.tuple ds) := by
  unfold tupT at h
  cases q : datas ts with
  | some es =>
    rw [q] at h
    simp only at h
    have e0 := rp_d h
    subst e0
    rw [datas_eq q] at hr
    have := hr (es.map W.d) (AtL.rp (S := fun _ => True) (j := 0) (AtL.dat es))
    have e : (es.map W.d).mapM (rdW st k) = some es := by
      clear hr this q h
      induction es with
      | nil => rfl
      | cons x xs ih =>
        rw [List.map_cons, List.mapM_cons, ih]
        have : rdW st k (.d x) = some x := by cases k <;> rfl
        rw [this]
        rfl
    rw [e] at this
    cases this
    rfl
  | none =>
    rw [q] at h
    simp only at h
    cases h with
    | u e a =>
      unfold rdW
      rw [e]
      simp only
      rw [hr _ a]
      rfl
instance : En Int := { en := .int, dep := 0, rd := fun st w x h => by rw [rp_d h]; rfl }
instance : En Bool := { en := .bool, dep := 0, rd := fun st w x h => by rw [rp_d h]; rfl }
instance : En Str := { en := .str, dep := 0, rd := fun st w x h => by rw [rp_d h]; rfl }
instance : En Unit := { en := fun _ => .none, dep := 0, rd := fun st w x h => by rw [rp_d h]; rfl }
theorem rd_map {α : Type} [En α] {st : Store} : ∀ {xs : List α} {ws : List W}, RpL st ws (xs.map tr) → ws.mapM (rdW st (En.dep α)) = some (xs.map en)
  | [], _, h => by cases h; rfl
  | x :: xs, _, h => by
    cases h with
    | cons a b =>
      rw [List.mapM_cons, En.rd st _ x a, rd_map b]
      rfl
instance {α : Type} [En α] : En (List α) := { en := fun xs => .list (xs.map en), dep := En.dep α + 1, rd := fun st w xs h => rd_list h fun ws => rd_map }
theorem rd_mem {α : Type} [En α] {st : Store} {w : W} {x : α} (h : Rp st w (tr x)) {m : Nat} (hm : En.dep α ≤ m) : rdW st m w = some (en x) := rdW_le (En.rd st w x h) hm
theorem rd_two {α β : Type} [En α] [En β] {st : Store} {x : α} {y : β} {ws : List W} (r : RpL st ws [tr x, tr y]) : ws.mapM (rdW st (max (En.dep α) (En.dep β))) = some [en x, en y] := by
  cases r with
  | cons a r =>
    cases r with
    | cons b r =>
      cases r
      rw [List.mapM_cons, List.mapM_cons, rd_mem a (Nat.le_max_left _ _), rd_mem b (Nat.le_max_right _ _)]
      rfl
instance {α β : Type} [En α] [En β] : En (α × β) := { en := fun p => .tuple [en p.1, en p.2], dep := max (En.dep α) (En.dep β) + 1, rd := fun st w p h => rd_tup h fun ws r => rd_two r }
theorem rd_three {α β γ : Type} [En α] [En β] [En γ] {st : Store} {x : α} {y : β} {z : γ} {ws : List W} (r : RpL st ws [tr x, tr y, tr z]) : ws.mapM (rdW st (max (En.dep α) (max (En.dep β) (En.dep γ)))) = some [en x, en y, en z] := by
  cases r with
  | cons a r =>
    cases r with
    | cons b r =>
      cases r with
      | cons c r =>
        cases r
        rw [List.mapM_cons, List.mapM_cons, List.mapM_cons, rd_mem a (Nat.le_max_left _ _), rd_mem b (Nat.le_trans (Nat.le_max_left _ _) (Nat.le_max_right _ _)), rd_mem c (Nat.le_trans (Nat.le_max_right _ _) (Nat.le_max_right _ _))]
        rfl
instance {α β γ : Type} [En α] [En β] [En γ] : En (T3 α β γ) := { en := fun p => .tuple [en p.a, en p.b, en p.c], dep := max (En.dep α) (max (En.dep β) (En.dep γ)) + 1, rd := fun st w p h => rd_tup h fun ws r => rd_three r }
def enO {α : Type} [En α] : Option α → PyData
  | none => .none
  | some x => en x
theorem rd_opt {α : Type} [En α] {st : Store} {w : W} {o : Option α} (h : Rp st w (tr o)) : rdW st (En.dep α) w = some (enO o) := by
  cases o with
  | none =>
    rw [rp_d (show Rp st w (.d .none) from h)]
    cases En.dep α <;> rfl
  | some x => exact En.rd st w x h
instance {α : Type} [En α] : En (Option α) := { en := enO, dep := En.dep α, rd := fun st w o h => rd_opt h }
/-! ### equality, order -/
class Lw (α : Type) [DecidableEq α] [En α] extends Datum α where
  toEn : ∀ x : α, Datum.toD x = en x
class Lo (α : Type) [DecidableEq α] [En α] extends DatumOrd α where
  toEn : ∀ x : α, Datum.toD x = en x
  srt : ∀ xs : List α, PySem.W.Sortable (xs.map en)
instance (priority := low) {α : Type} [DecidableEq α] [En α] [Lo α] : Lw α := { toDatum := DatumOrd.toDatum, toEn := Lo.toEn }
instance : Lo Int := ⟨fun _ => rfl, fun xs => PySem.W.Sortable.others fun b => ⟨(fun e => by cases e), fun _ e => by cases e⟩⟩
instance : Lo Bool := ⟨fun _ => rfl, fun xs => PySem.W.Sortable.others fun b => ⟨(fun e => by cases e), fun _ e => by cases e⟩⟩
instance : Lo Str := ⟨fun _ => rfl, fun xs => PySem.W.Sortable.others fun b => ⟨(fun e => by cases e), fun _ e => by cases e⟩⟩
instance : Lw Unit := ⟨fun _ => rfl⟩
section
variable {α β : Type} [DecidableEq α] [En α] [DecidableEq β] [En β]
instance [Lw α] : Lw (List α) := ⟨fun xs => by
  show PyData.list (xs.map Datum.toD) = .list (xs.map en)
  rw [List.map_congr_left fun x _ => Lw.toEn x]⟩
instance [Lw α] [Lw β] : Lw (α × β) := ⟨fun p => by
  show PyData.tuple [Datum.toD p.1, Datum.toD p.2] = .tuple [en p.1, en p.2]
  rw [Lw.toEn, Lw.toEn]⟩
instance [Lo α] : Lo (List α) := ⟨fun xs => by
  show PyData.list (xs.map Datum.toD) = .list (xs.map en)
  rw [List.map_congr_left fun x _ => Lo.toEn x], fun xs => PySem.W.Sortable.others fun b => ⟨(fun e => by cases e), fun _ e => by cases e⟩⟩
instance [Lo α] [Lo β] : Lo (α × β) := ⟨fun p => by
  show PyData.tuple [Datum.toD p.1, Datum.toD p.2] = .tuple [en p.1, en p.2]
  rw [Lo.toEn, Lo.toEn], fun xs => PySem.W.Sortable.tuples fun b => ⟨_, _, rfl⟩⟩
theorem okEq_en [Lw α] (hd : Datum.depth α ≤ 60) (x y : α) : okEq (en x) (en y) = true := by
  unfold okEq
  rw [← Lw.toEn, ← Lw.toEn]
  exact decide_eq_true (Nat.le_trans (Nat.min_le_left _ _) (Nat.le_trans (Datum.depth_le x) hd))
theorem eqv_en [Lw α] (x y : α) : PyData.eqv (en x) (en y) = decide (x = y) := by
  rw [← Lw.toEn, ← Lw.toEn, Datum.eqv]
theorem okLt_en [Lo α] (hd : Datum.depth α ≤ 60) (x y : α) : okLt (en x) (en y) = true := by
  have h1 := DatumOrd.alike x y
  have h2 := DatumOrd.notNone x
  have h3 := Nat.le_trans (Nat.min_le_left _ (Datum.toD y).depth) (Nat.le_trans (Datum.depth_le x) hd)
  rw [Lo.toEn, Lo.toEn] at h1
  rw [Lo.toEn] at h2
  rw [Lo.toEn, Lo.toEn] at h3
  unfold okLt
  rw [h1, decide_eq_true h3]
  cases q : en x <;> first | rfl | exact absurd q h2
theorem lt_en [Lo α] (x y : α) : PySem.W.dataLt (en x) (en y) = DatumOrd.lt x y := by
  rw [← Lo.toEn, ← Lo.toEn, DatumOrd.lt_eq]
end
/-! ### guards -/
noncomputable def gd {α : Type} (c : Prop) (x : α) : Option α := @ite _ c (Classical.propDecidable c) (some x) none
theorem gd_some {α : Type} {c : Prop} {x y : α} (h : gd c x = some y) : c ∧ x = y := by
  unfold gd at h
  split at h
  · rename_i hc
    cases h
    exact ⟨hc, rfl⟩
  · cases h
noncomputable def mulG (i j : Int) : Option Int := gd (okMul i j = true) (i * j)
noncomputable def divG (i j : Int) : Option Int := gd (okDiv i j = true) (i / j)
noncomputable def modG (i j : Int) : Option Int := gd (okMod i j = true) (i % j)
noncomputable def powG (i j : Int) : Option Int := gd (okPow i j = true) (i ^ j.toNat)
theorem lt_int (i j : Int) : PySem.W.dataLt (.int i) (.int j) = decide (i < j) := by
  have := lt_en i j
  exact this
theorem okLt_int (i j : Int) : okLt (.int i) (.int j) = true := okLt_en (α := Int) (by decide) i j
theorem fLt_int (i j : Int) (st : Store) : fLt (.d (.int i)) (.d (.int j)) st = .ok (.d (.bool (decide (i < j)))) st := by
  simp only [fLt, fOrd, rdW, okLt_int, if_true, lt_int]
theorem fGt_int (i j : Int) (st : Store) : fGt (.d (.int i)) (.d (.int j)) st = .ok (.d (.bool (decide (j < i)))) st := by
  simp only [fGt, fOrd, rdW, okLt_int, if_true, lt_int]
section
variable {pi : List Nat} {Γ : List Sl} {κ : Sl → List Sl → Prop} {i j v : Int}
theorem o_dd {f : W → W → Store → Res W} {x y z : PyData} (hf : ∀ st, f (.d x) (.d y) st = .ok (.d z) st) (k : κ (.o 0 (.d z)) Γ) : Of pi Γ (f2 f) [.o 0 (.d x), .o 0 (.d y)] κ :=
  of_d2 .o .o (fun st w1 w2 h1 h2 => by rw [rp_d h1, rp_d h2]; exact hf st) k
theorem o_d {f : List W → Store → Res W} {x z : PyData} (hf : ∀ st, f [.d x] st = .ok (.d z) st) (k : κ (.o 0 (.d z)) Γ) : Of pi Γ f [.o 0 (.d x)] κ :=
  of_d1 .o (fun st w h => by rw [rp_d h]; exact hf st) k
theorem o_add (k : κ (D (i + j)) Γ) : Of pi Γ (f2 fAddR) [D i, D j] κ := o_dd (fun st => rfl) k
theorem o_sub (k : κ (D (i - j)) Γ) : Of pi Γ (f2 fSub) [D i, D j] κ := o_dd (fun st => rfl) k
theorem o_mul (h : mulG i j = some v) (k : κ (D v) Γ) : Of pi Γ (f2 fMul) [D i, D j] κ := by
  obtain ⟨hc, rfl⟩ := gd_some h
  exact o_dd (fun st => by simp only [fMul, fII, hc, if_true]) k
theorem o_div (h : divG i j = some v) (k : κ (D v) Γ) : Of pi Γ (f2 fDiv) [D i, D j] κ := by
  obtain ⟨hc, rfl⟩ := gd_some h
  exact o_dd (fun st => by simp only [fDiv, fII, hc, if_true]) k
theorem o_mod (h : modG i j = some v) (k : κ (D v) Γ) : Of pi Γ (f2 fMod) [D i, D j] κ := by
  obtain ⟨hc, rfl⟩ := gd_some h
  exact o_dd (fun st => by simp only [fMod, fII, hc, if_true]) k
theorem o_pow (h : powG i j = some v) (k : κ (D v) Γ) : Of pi Γ (f2 fPow) [D i, D j] κ := by
  obtain ⟨hc, rfl⟩ := gd_some h
  exact o_dd (fun st => by simp only [fPow, fII, hc, if_true]) k
def absT (i : Int) : Int := if i < 0 then -i else i
def max2T (i j : Int) : Int := if j > i then j else i
def min2T (i j : Int) : Int := if j < i then j else i
theorem o_abs (k : κ (D (absT i)) Γ) : Of pi Γ fAbs [D i] κ := o_d (fun st => rfl) k
theorem o_int (k : κ (D i) Γ) : Of pi Γ fInt [D i] κ := o_d (fun st => rfl) k
theorem o_max2 (k : κ (D (max2T i j)) Γ) : Of pi Γ fMax2 [D i, D j] κ := of_d2' .o .o (fun st w1 w2 h1 h2 => by rw [rp_d h1, rp_d h2]; rfl) k
theorem o_min2 (k : κ (D (min2T i j)) Γ) : Of pi Γ fMin2 [D i, D j] κ := of_d2' .o .o (fun st w1 w2 h1 h2 => by rw [rp_d h1, rp_d h2]; rfl) k
/-! comparisons -/
theorem cmp_rd {f : W → W → Store → Res W} {α β : Type} [En α] [En β] {a b : Sl} {x : α} {y : β} {z : Bool} (va : Vw Γ a (tr x)) (vb : Vw Γ b (tr y)) (da : En.dep α ≤ 6) (db : En.dep β ≤ 6)
    (hf : ∀ (st : Store) (w1 w2 : W), rdW st 6 w1 = some (en x) → rdW st 6 w2 = some (en y) → f w1 w2 st = .ok (.d (.bool z)) st) (k : κ (D z) Γ) : Of pi Γ (f2 f) [a, b] κ :=
  of_d2 va vb (fun st w1 w2 h1 h2 => hf st w1 w2 (rd_mem h1 da) (rd_mem h2 db)) k
section
variable {α : Type} [DecidableEq α] [En α] {a b : Sl} {x y : α}
theorem o_eq [Lw α] (va : Vw Γ a (tr x)) (vb : Vw Γ b (tr y)) (k : κ (D (decide (x = y))) Γ) (d6 : En.dep α ≤ 6 := by decide) (hd : Datum.depth α ≤ 60 := by decide) : Of pi Γ (f2 (fEq false)) [a, b] κ :=
  cmp_rd va vb d6 d6 (fun st w1 w2 h1 h2 => by simp [fEq, h1, h2, okEq_en hd, eqv_en]) k
theorem o_ne [Lw α] (va : Vw Γ a (tr x)) (vb : Vw Γ b (tr y)) (k : κ (D (!decide (x = y))) Γ) (d6 : En.dep α ≤ 6 := by decide) (hd : Datum.depth α ≤ 60 := by decide) : Of pi Γ (f2 (fEq true)) [a, b] κ :=
  cmp_rd va vb d6 d6 (fun st w1 w2 h1 h2 => by simp [fEq, h1, h2, okEq_en hd, eqv_en]) k
theorem o_lt (k : κ (D (decide (i < j))) Γ) : Of pi Γ (f2 fLt) [D i, D j] κ := o_dd (fun st => fLt_int i j st) k
theorem o_gt (k : κ (D (decide (j < i))) Γ) : Of pi Γ (f2 fGt) [D i, D j] κ := o_dd (fun st => fGt_int i j st) k
end
end
end VS.TR
set_option Elab.async false
set_option linter.all false
set_option maxRecDepth 100000
set_option maxHeartbeats 1000000
/-! TR6: truth, lists, tuples, dicts. -/
namespace VS.TR
open PySem PySem.Spec PyProof.Rows L2 VS
open PySem.W (Datum DatumOrd)
open Te (tr)
open En (en)
open Ky (ky)
section
variable {pi : List Nat} {Γ Γ1 : List Sl} {κ : Sl → List Sl → Prop}
/-! ### truth -/
theorem d_of {pi : List Nat} {B : Base} {S : Nat → Prop} {Γ : List Sl} {env : Env} {Δ : List Sl} {δ : List W} {st : Store} {w : W} {x : PyData} (h : Sat pi B S Γ env (Δ ++ [.o 0 (.d x)]) (δ ++ [w]) st) (hl : δ.length = Δ.length) : w = .d x :=
  rp_d (h.view hl (k := 0) rfl rfl .o)
theorem t_boo {a : Ev} {κ : Bool → List Sl → Prop} (h : Xe pi Γ a fun sl Γ' => ∃ b : Bool, sl = D b ∧ κ b Γ') : Xt pi Γ (boo a) κ := fun B S Δ env δ st q => by
  obtain ⟨w, st', S', sl, Γ', h1, h2, i, rfl, h3⟩ := h B S Δ env δ st q
  have e := d_of h2 q.lenD
  subst e
  exact ⟨i, st', S', Γ', by simp only [boo, h1, Res.bind], h2.drop q.lenD, h3⟩
theorem t_tru {a : Ev} {κ : Bool → List Sl → Prop} (h : Xe pi Γ a fun sl Γ' => ∃ b : Bool, sl = D b ∧ κ b Γ') : Xt pi Γ (tru a) κ := fun B S Δ env δ st q => by
  obtain ⟨w, st', S', sl, Γ', h1, h2, i, rfl, h3⟩ := h B S Δ env δ st q
  have e := d_of h2 q.lenD
  subst e
  exact ⟨i, st', S', Γ', by simp only [tru, h1, Res.bind, truW], h2.drop q.lenD, h3⟩
theorem t_not {a : Tst} {κ : Bool → List Sl → Prop} (h : Xt pi Γ a fun b Γ' => κ (!b) Γ') : Xt pi Γ (tNotD a) κ := fun B S Δ env δ st q => by
  obtain ⟨b, st', S', Γ', h1, h2, h3⟩ := h B S Δ env δ st q
  exact ⟨!b, st', S', Γ', by simp only [tNotD, h1, Res.bind], h2, h3⟩
theorem t_or {a b : Tst} {κ : Bool → List Sl → Prop} (h : Xt pi Γ a fun x Γ' => (x = false → Xt pi Γ' b κ) ∧ (x = true → κ true Γ')) : Xt pi Γ (tOrD a b) κ := fun B S Δ env δ st q => by
  obtain ⟨x, st', S', Γ', h1, h2, h3, h4⟩ := h B S Δ env δ st q
  cases x with
  | false =>
    obtain ⟨y, st2, S2, Γ2, g1, g2, g3⟩ := h3 rfl B S' Δ env δ st' h2
    exact ⟨y, st2, S2, Γ2, by simp only [tOrD, h1, Res.bind, Bool.false_eq_true, if_false, g1], g2, g3⟩
  | true => exact ⟨true, st', S', Γ', by simp only [tOrD, h1, Res.bind, if_true], h2, h4 rfl⟩
theorem Xt.imp {t : Tst} {κ κ' : Bool → List Sl → Prop} (h : Xt pi Γ t κ) (k : ∀ b Γ', κ b Γ' → κ' b Γ') : Xt pi Γ t κ' := fun B S Δ env δ st q => by
  obtain ⟨b, st', S', Γ', h1, h2, h3⟩ := h B S Δ env δ st q
  exact ⟨b, st', S', Γ', h1, h2, k _ _ h3⟩
def orO (x : Bool) (m : Option Bool) : Option Bool := if x = true then some true else m
theorem t_orO {a b : Tst} {x v : Bool} {m : Option Bool} {κ : Bool → List Sl → Prop} (h : orO x m = some v) (ha : Xt pi Γ a fun z Γ' => z = x ∧ Γ' = Γ1) (hb : m = some v → Xt pi Γ1 b fun z Γ' => z = v ∧ Γ' = Γ1) (k : κ v Γ1) : Xt pi Γ (tOrD a b) κ :=
  t_or (ha.imp fun z Γ' q => by
    obtain ⟨rfl, rfl⟩ := q
    refine ⟨fun e => ?_, fun e => ?_⟩
    · subst e
      exact (hb h).imp fun z Γ' q => by obtain ⟨rfl, rfl⟩ := q; exact k
    · subst e
      cases h
      exact k)
theorem bnd {α β : Type} {m : Option α} {k : α → Option β} {r : β} {P : Prop} (h : m.bind k = some r) (p : ∀ v, m = some v → k v = some r → P) : P := by
  cases e : m with
  | none => rw [e] at h; cases h
  | some v => rw [e] at h; exact p v e h
/-- a call within a part that is computed by cases -/
def Out.opt {α : Type} : Out α → Option α
  | .ok x => some x
  | _ => none
theorem Out.opt_ok {α : Type} {m : Out α} {v : α} (h : m.opt = some v) : m = .ok v := by
  cases m with
  | ok x => cases h; rfl
  | ex e => cases h
  | bad => cases h
theorem x_if {t : Tst} {a b : Ev} (h : Xt pi Γ t fun x Γ' => (x = true → Xe pi Γ' a κ) ∧ (x = false → Xe pi Γ' b κ)) : Xe pi Γ (vIf t a b) κ := fun B S Δ env δ st q => by
  obtain ⟨x, st', S', Γ', h1, h2, h3, h4⟩ := h B S Δ env δ st q
  cases x with
  | true =>
    obtain ⟨w, st2, S2, sl, Γ2, g1, g2, g3⟩ := h3 rfl B S' Δ env δ st' h2
    exact ⟨w, st2, S2, sl, Γ2, by simp only [vIf, h1, Res.bind, if_true, g1], g2, g3⟩
  | false =>
    obtain ⟨w, st2, S2, sl, Γ2, g1, g2, g3⟩ := h4 rfl B S' Δ env δ st' h2
    exact ⟨w, st2, S2, sl, Γ2, by simp only [vIf, h1, Res.bind, Bool.false_eq_true, if_false, g1], g2, g3⟩
theorem x_ifO {α : Type} {t : Tst} {a b : Ev} {c : Bool} {m1 m2 : Option α} {v : α} (E : α → Sl) (h : cd c m1 m2 = some v) (ht : Xt pi Γ t fun z Γ' => z = c ∧ Γ' = Γ1) (ha : m1 = some v → Xe pi Γ1 a fun sl Γ' => sl = E v ∧ Γ' = Γ1) (hb : m2 = some v → Xe pi Γ1 b fun sl Γ' => sl = E v ∧ Γ' = Γ1) (k : κ (E v) Γ1) : Xe pi Γ (vIf t a b) κ :=
  x_if (ht.imp fun z Γ' q => by
    obtain ⟨rfl, rfl⟩ := q
    refine ⟨fun e => ?_, fun e => ?_⟩
    · subst e
      exact (ha h).imp fun sl Γ' q => by obtain ⟨rfl, rfl⟩ := q; exact k
    · subst e
      exact (hb h).imp fun sl Γ' q => by obtain ⟨rfl, rfl⟩ := q; exact k)
end
/-! ### lists -/
class Da (α : Type) [Te α] where
  da : α → PyData
  eq : ∀ x : α, tr x = .d (da x)
instance : Da Int := ⟨.int, fun _ => rfl⟩
instance : Da Bool := ⟨.bool, fun _ => rfl⟩
instance : Da Str := ⟨.str, fun _ => rfl⟩
instance : Da Unit := ⟨fun _ => .none, fun _ => rfl⟩
instance {α β : Type} [Te α] [Te β] [Da α] [Da β] : Da (α × β) := ⟨fun p => .tuple [Da.da p.1, Da.da p.2], fun p => by
  show tupT [tr p.1, tr p.2] = _
  rw [Da.eq, Da.eq]
  rfl⟩
instance {α β γ : Type} [Te α] [Te β] [Te γ] [Da α] [Da β] [Da γ] : Da (T3 α β γ) := ⟨fun p => .tuple [Da.da p.a, Da.da p.b, Da.da p.c], fun p => by
  show tupT [tr p.a, tr p.b, tr p.c] = _
  rw [Da.eq, Da.eq, Da.eq]
  rfl⟩
instance {α : Type} [Te α] [Da α] : Da (Option α) := ⟨fun o => match o with
  | none => .none
  | some x => Da.da x, fun o => by
  cases o with
  | none => rfl
  | some x => exact Da.eq x⟩
theorem map_da {α : Type} [Te α] [Da α] (xs : List α) : xs.map tr = (xs.map Da.da).map Tr.d := by
  rw [List.map_map]
  exact List.map_congr_left fun x _ => Da.eq x
theorem vi_da {α : Type} [Te α] [Da α] {Γ : List Sl} {a : Sl} {xs : List α} (v : Vw Γ a (tr xs)) : Vi Γ a (xs.map tr) := by
  have v' : Vw Γ a (.l (xs.map tr)) := v
  rw [map_da] at v' ⊢
  exact .d v'
theorem itm_da {α : Type} [Te α] [Da α] {st : Store} {w : W} {xs : List α} (h : Rp st w (tr xs)) : itm st w = some ((xs.map Da.da).map W.d) := by
  obtain ⟨ws, e, a⟩ := itm_of_rp (show Rp st w (.l (xs.map tr)) from h)
  rw [map_da] at a
  rw [e, RpL.inv a]
theorem strs_map : ∀ ns : List Str, strsOf ((ns.map PyData.str).map W.d) = some ns
  | [] => rfl
  | n :: ns => by
    show (strsOf ((ns.map PyData.str).map W.d)).map (n :: ·) = _
    rw [strs_map ns]
    rfl
theorem itm_strs {st : Store} {w : W} {xs : List Str} (h : Rp st w (tr xs)) : (itm st w).bind strsOf = some xs := by
  rw [itm_da h]
  exact strs_map xs
section
variable {pi : List Nat} {Γ : List Sl} {κ : Sl → List Sl → Prop} {α β : Type} [Te α] [Te β] {a b : Sl}
theorem o_cat {xs ys v : List α} (va : Vi Γ a (xs.map tr)) (vb : Vi Γ b (ys.map tr)) (h : gd (xs.length + ys.length ≤ sizeLine) (xs ++ ys) = some v) (k : κ (O 1 v) Γ) : Of pi Γ (f2 fAddR) [a, b] κ := by
  obtain ⟨hc, rfl⟩ := gd_some h
  refine of_new2 va vb (fun st S w1 w2 us vs h1 h2 h3 h4 => ⟨us ++ vs, ?_, by
    have := h2.app h4
    rw [← List.map_append] at this
    exact this⟩) k
  have l1 := h2.rp.len
  have l2 := h4.rp.len
  rw [List.length_map] at l1 l2
  have n1 : ∀ x, w1 ≠ .d (.int x) := fun x e => by rw [e] at h1; cases h1
  have n2 : ∀ x, w1 ≠ .d (.str x) := fun x e => by rw [e] at h1; cases h1
  have hc' : us.length + vs.length ≤ sizeLine := by rw [l1, l2]; exact hc
  unfold fAddR
  split
  · exact absurd rfl (n1 _)
  · exact absurd rfl (n2 _)
  · rw [h1, h3]
    simp only [if_pos hc', mkC]
theorem o_rep {j : Nat} {xs v : List α} {n : Int} (h : gd (n < 2 ^ 63 ∧ -(2 ^ 63) ≤ n ∧ xs.length * n.toNat ≤ sizeLine) (List.replicate n.toNat xs).flatten = some v) (k : κ (O 1 v) Γ) : Of pi Γ (f2 fRepR) [O 1 xs, D n] κ := by
  obtain ⟨hc, rfl⟩ := gd_some h
  intro B S Δ env δ ws st hl hd h
  match ws, hl with
  | [w1, w2], _ =>
    have e2 := rp_d (h.view hd (k := 1) rfl rfl .o)
    subst e2
    obtain ⟨N, d⟩ := h.last hd
    cases d with
    | cons a b =>
      have a' : At st S 1 w1 (.l (xs.map tr)) _ := a
      obtain ⟨m, c, K, rfl, hm, hca, _⟩ := a'.ca rfl
      cases hca with
      | l q =>
        rename_i us
        have := q.z
        subst this
        have l1 := q.rp.len
        rw [List.length_map] at l1
        refine ⟨_, _, S, _, Γ, ?_, h.fresh hd (x := .lst (List.replicate n.toNat us).flatten) (t := tr (List.replicate n.toNat xs).flatten) fun N _ => ⟨[], .l ?_, fun a => by simp⟩, k⟩
        · show fRepR (.c m) (.d (.int n)) st = _
          simp only [fRepR, hm, l1, if_pos hc, mkC]
        · clear h hl l1 hm hc a a' b
          induction n.toNat with
          | zero => exact .nil
          | succ i ih =>
            rw [List.replicate_succ, List.replicate_succ, List.flatten_cons, List.flatten_cons, List.map_append]
            exact q.app ih
/-! sorted -/
end
end VS.TR
set_option Elab.async false
set_option linter.all false
set_option maxRecDepth 100000
set_option maxHeartbeats 1000000
/-! TR7: displays, subscripts, slices, dicts, repr, isinstance. -/
namespace VS.TR
open PySem PySem.Spec PyProof.Rows L2 VS
open PySem.W (Datum DatumOrd)
open Te (tr)
open En (en)
open Ky (ky)
/-! ### displays -/
inductive Ds (j : Nat) : List Sl → List Tr → Prop
  | nil : Ds j [] []
  | o {t : Tr} {sls : List Sl} {ts : List Tr} : Ds j sls ts → Ds j (.o j t :: sls) (t :: ts)
  | d {x : PyData} {sls : List Sl} {ts : List Tr} : Ds j sls ts → Ds j (.o 0 (.d x) :: sls) (.d x :: ts)
theorem at_dj {st : Store} {S : Nat → Prop} {j i : Nat} {w : W} {x : PyData} {M : List Nat} (h : At st S j w (.d x) M) : At st S i w (.d x) M := by
  cases h with
  | d y => exact .d _
theorem Ds.at {st : Store} {S : Nat → Prop} {env : Env} {j : Nat} : ∀ {sls : List Sl} {ts : List Tr}, Ds j sls ts → ∀ {ws : List W} {N : List Nat}, DR st S env ws sls N → AtL st S j ws ts N
  | _, _, .nil, _, _, h => by cases h; exact .nil
  | _, _, .o hd, _, _, h => by
    cases h with
    | cons a b => exact .cons a (hd.at b)
  | _, _, .d hd, _, _, h => by
    cases h with
    | cons a b => exact .cons (at_dj a) (hd.at b)
section
variable {pi : List Nat} {Γ Γ1 : List Sl} {κ : Sl → List Sl → Prop}
theorem x_lst {a : Av} (j : Nat) (h : Xa pi Γ a fun sls Γ' => ∃ ts, Ds j sls ts ∧ κ (.o (j + 1) (.l ts)) Γ') : Xe pi Γ (lstC a) κ := fun B S Δ env δ st q => by
  obtain ⟨ws, st1, S1, sls, Γ', h1, h2, h3, ts, h4, h5⟩ := h B S Δ env δ st q
  exact ⟨_, _, S1, _, Γ', by simp only [lstC, h1, Res.bind, mkC], h3.fresh q.lenD fun N d => ⟨N, .l (h4.at d), fun _ => Nat.le_refl _⟩, h5⟩
/-! ### subscripts -/
theorem atI_map {α β : Type} (f : α → β) (xs : List α) (i : Int) : atI (xs.map f) i = (atI xs i).map f := by
  unfold atI
  rw [List.length_map]
  cases ixN xs.length i with
  | none => rfl
  | some j => simp
theorem fIx_itm {st : Store} {w y : W} {ws : List W} {i : Int} (h : itm st w = some ws) (hi : atI ws i = some y) : fIx w (.d (.int i)) st = .ok y st := by
  unfold itm at h
  split at h
  · rename_i ds
    cases h
    rw [atI_map] at hi
    cases e : atI ds i with
    | none => rw [e] at hi; cases hi
    | some z =>
      rw [e] at hi
      cases hi
      simp only [fIx, e]
  · rename_i ds
    cases h
    rw [atI_map] at hi
    cases e : atI ds i with
    | none => rw [e] at hi; cases hi
    | some z =>
      rw [e] at hi
      cases hi
      simp only [fIx, e]
  · split at h
    · rename_i e
      cases h
      simp only [fIx, e, hi]
    · cases h
  · cases h
theorem AtL.atI0 {st : Store} {S : Nat → Prop} {ws : List W} {ts : List Tr} {M : List Nat} {i : Int} {t : Tr} (h : AtL st S 0 ws ts M) (e : atI ts i = some t) : ∃ w, atI ws i = some w ∧ At st S 0 w t [] := by
  have hl := h.rp.len
  unfold atI at e ⊢
  rw [hl]
  cases q : ixN ts.length i with
  | none => rw [q] at e; cases e
  | some j =>
    rw [q] at e
    exact h.get0 e
theorem o_ix {α : Type} [Te α] {a : Sl} {xs : List α} {i : Int} {v : α} (va : Vi Γ a (xs.map tr)) (h : atI xs i = some v) (k : κ (D v) Γ) : Of pi Γ (f2 fIx) [a, D i] κ := fun B S Δ env δ ws st hl hd q => by
  match ws, hl with
  | [w1, w2], _ =>
    have e2 := rp_d (q.view hd (k := 1) rfl rfl .o)
    subst e2
    obtain ⟨us, q1, q2⟩ := q.items hd (k := 0) rfl rfl va
    obtain ⟨w, p1, p2⟩ := q2.atI0 (i := i) (t := tr v) (by rw [atI_map, h]; rfl)
    exact ⟨w, st, S, _, Γ, fIx_itm q1 p1, (q.drop hd).push (sl := .o 0 _) p2, k⟩
def two {α : Type} (p : α × α) : List α := [p.1, p.2]
end
/-! ### dicts -/
section
variable {pi : List Nat} {Γ Γ1 : List Sl} {κ : Sl → List Sl → Prop}
/-! ### slices -/
def Xp (pi : List Nat) (Γ : List Sl) (p : Po) (κ : Option Int → List Sl → Prop) : Prop :=
  ∀ (B : Base) (S : Nat → Prop) (Δ : List Sl) (env : Env) (δ : List W) (st : Store), Sat pi B S Γ env Δ δ st →
    ∃ o st' S' Γ', p env st = .ok o st' ∧ Sat pi B S' Γ' env Δ δ st' ∧ κ o Γ'
theorem p_no {κ : Option Int → List Sl → Prop} (k : κ none Γ) : Xp pi Γ noP κ := fun B S Δ env δ st q => ⟨none, st, S, Γ, rfl, q, k⟩
theorem p_at {e : Ev} {κ : Option Int → List Sl → Prop} (h : Xe pi Γ e fun sl Γ' => ∃ i : Int, sl = D i ∧ κ (some i) Γ') : Xp pi Γ (part e) κ := fun B S Δ env δ st q => by
  obtain ⟨w, st1, S1, sl, Γ', h1, h2, i, rfl, h3⟩ := h B S Δ env δ st q
  have e := d_of h2 q.lenD
  subst e
  exact ⟨some i, st1, S1, Γ', by simp only [part, h1, Res.bind], h2.drop q.lenD, h3⟩
def cutL {α : Type} (xs : List α) (lo hi : Option Int) : List α := cutG xs lo hi
theorem AtL.cut {st : Store} {S : Nat → Prop} {j : Nat} {ws : List W} {ts : List Tr} {M : List Nat} (h : AtL st S j ws ts M) (lo hi : Option Int) : ∃ N, AtL st S j (cutG ws lo hi) (cutG ts lo hi) N ∧ ∀ x, N.count x ≤ M.count x := by
  unfold cutG
  rw [h.rp.len]
  exact h.sub _ _
theorem cut_map {α β : Type} (f : α → β) (xs : List α) (lo hi : Option Int) : cutG (xs.map f) lo hi = (cutL xs lo hi).map f := by
  unfold cutL cutG
  rw [List.length_map, List.map_take, List.map_drop]
theorem fCut_itm {st : Store} {w : W} {ws : List W} (h : itm st w = some ws) (lo hi : Option Int) : fCut mkC w lo hi st = mkC (cutG ws lo hi) st := by
  unfold fCut
  split
  · cases h
  · cases h
  · rw [h]
theorem x_slc {α : Type} [Te α] {o : Ev} {lo hi : Po} {xs : List α} (h : Xe pi Γ o fun s Γ1 => Xp pi Γ1 lo fun l Γ2 => Xp pi Γ2 hi fun u Γ3 => Vi Γ3 s (xs.map tr) ∧ κ (O 1 (cutL xs l u)) Γ3) : Xe pi Γ (slc mkC o lo hi) κ := fun B S Δ env δ st q => by
  obtain ⟨w, st1, S1, s, Γ', h1, h2, h3⟩ := h B S Δ env δ st q
  obtain ⟨l, st2, S2, Γ2, g1, g2, g3⟩ := h3 B S1 _ env _ st1 h2
  obtain ⟨u, st3, S3, Γ3, f1, f2, f3, f4⟩ := g3 B S2 _ env _ st2 g2
  obtain ⟨ws, a1, a2⟩ := f2.items q.lenD (k := 0) rfl rfl f3
  obtain ⟨N, b1, b2⟩ := a2.cut l u
  have := b1.z
  subst this
  rw [cut_map] at b1
  exact ⟨_, _, S3, _, Γ3, by simp only [slc, h1, g1, f1, Res.bind, fCut_itm a1, mkC], f2.fresh q.lenD fun N _ => ⟨[], .l b1, fun a => by simp⟩, f4⟩
/-! ### list(range(a, b)) -/
def rangeT (a b : Int) : List Int := (List.range (b - a).toNat).map fun (i : Nat) => a + (i : Int)
/-! ### repr -/
noncomputable def reprG {α : Type} [En α] (x : α) : Option Str := gd (okShow (en x) = true) (en x).shown
theorem o_repr {α : Type} [En α] {a : Sl} {x : α} {v : Str} (va : Vw Γ a (tr x)) (h : reprG x = some v) (k : κ (D v) Γ) (d6 : En.dep α ≤ 6 := by decide) : Of pi Γ fRepr [a] κ := by
  obtain ⟨hc, rfl⟩ := gd_some h
  exact of_d1 va (fun st w h => by simp only [fRepr, rd_mem h d6, if_pos hc]) k
/-! ### isinstance, is None -/
class Ty (α : Type) [Te α] where
  nm : String
  ty : ∀ (st : Store) (w : W) (x : α), Rp st w (tr x) → tyN st w = some nm
instance : Ty Int := ⟨"int", fun st w x h => by rw [rp_d h]; rfl⟩
instance : Ty Bool := ⟨"bool", fun st w x h => by rw [rp_d h]; rfl⟩
instance : Ty Str := ⟨"str", fun st w x h => by rw [rp_d h]; rfl⟩
instance {α : Type} [Te α] : Ty (List α) := ⟨"list", fun st w x h => by
  obtain ⟨n, ws, rfl, e, r⟩ := rp_l (show Rp st w (.l (x.map tr)) from h)
  simp only [tyN, e]⟩
theorem ty_tup {st : Store} {w : W} {ts : List Tr} (h : Rp st w (tupT ts)) : tyN st w = some "tuple" := by
  unfold tupT at h
  cases e : datas ts with
  | some ds =>
    rw [e] at h
    rw [rp_d h]
    rfl
  | none =>
    rw [e] at h
    cases h with
    | u e' a => simp only [tyN, e']
instance {α β : Type} [Te α] [Te β] : Ty (α × β) := ⟨"tuple", fun st w x h => ty_tup h⟩
instance {α β γ : Type} [Te α] [Te β] [Te γ] : Ty (T3 α β γ) := ⟨"tuple", fun st w x h => ty_tup h⟩
class Nn (α : Type) [Te α] where
  nn : ∀ x : α, tr x ≠ .d .none
instance : Nn Int := ⟨fun x e => by cases e⟩
instance : Nn Bool := ⟨fun x e => by cases e⟩
instance : Nn Str := ⟨fun x e => by cases e⟩
instance {α : Type} [Te α] : Nn (List α) := ⟨fun x e => by cases e⟩
theorem tup_nn {ts : List Tr} : tupT ts ≠ .d .none := by
  unfold tupT
  cases datas ts <;> exact fun e => by cases e
instance {α β : Type} [Te α] [Te β] : Nn (α × β) := ⟨fun x => tup_nn⟩
instance {α β γ : Type} [Te α] [Te β] [Te γ] : Nn (T3 α β γ) := ⟨fun x => tup_nn⟩
end
end VS.TR
set_option Elab.async false
set_option linter.all false
set_option maxRecDepth 100000
set_option maxHeartbeats 1000000
/-! TR8: targets, what is gone through, methods. -/
namespace VS.TR
open PySem PySem.Spec PyProof.Rows L2 VS
open PySem.W (Datum DatumOrd)
open Te (tr)
open En (en)
open Ky (ky)
section
variable {st st' : Store} {S S' : Nat → Prop} {env : Env}
theorem DR.rot {w : W} {sl : Sl} {ws : List W} {sls : List Sl} {N : List Nat} (h : DR st S env (w :: ws) (sl :: sls) N) : ∃ L, DR st S env (ws ++ [w]) (sls ++ [sl]) L ∧ ∀ a, L.count a = N.count a := by
  cases h with
  | cons a b => exact ⟨_, b.app (DR.one a), fun x => by rw [List.count_append, List.count_append]; omega⟩
end
section
variable {pi : List Nat} {B : Base} {S : Nat → Prop} {Γ : List Sl} {env : Env} {Δ : List Sl} {δ : List W} {st : Store}
theorem Sat.rot {w : W} {sl : Sl} {ws : List W} {sls : List Sl} (h : Sat pi B S Γ env (Δ ++ (sl :: sls)) (δ ++ (w :: ws)) st) (hl : δ.length = Δ.length) : Sat pi B S Γ env (Δ ++ sls ++ [sl]) (δ ++ ws ++ [w]) st := by
  rw [List.append_assoc, List.append_assoc]
  exact h.oper hl fun N d => by
    obtain ⟨L, h1, h2⟩ := d.rot
    exact ⟨L, h1, fun a => Nat.le_of_eq (h2 a)⟩
end
/-! ### targets -/
def Xw (pi : List Nat) (Γ : List Sl) (g : Tg) (sl : Sl) (js : List Nat) (κ : List Sl → Prop) : Prop :=
  ∀ (B : Base) (S : Nat → Prop) (Δ : List Sl) (env : Env) (δ : List W) (st : Store) (w : W), (∀ sl ∈ Δ, sl.isAl = false) → δ.length = Δ.length → Sat pi B S Γ env (Δ ++ [sl]) (δ ++ [w]) st →
    ∃ env' st' S' Γ', g w env st = some (env', st') ∧ Sat pi B S' Γ' env' Δ δ st' ∧ Ag js env' env ∧ κ Γ'
def Xws (pi : List Nat) (Γ : List Sl) (g : Tgs) (sls : List Sl) (js : List Nat) (κ : List Sl → Prop) : Prop :=
  ∀ (B : Base) (S : Nat → Prop) (Δ : List Sl) (env : Env) (δ : List W) (st : Store) (ws : List W), (∀ sl ∈ Δ, sl.isAl = false) → δ.length = Δ.length → ws.length = sls.length → Sat pi B S Γ env (Δ ++ sls) (δ ++ ws) st →
    ∃ env' st' S' Γ', g ws env st = some (env', st') ∧ Sat pi B S' Γ' env' Δ δ st' ∧ Ag js env' env ∧ κ Γ'
section
variable {pi : List Nat} {Γ Γ1 : List Sl} {js ks : List Nat} {κ : List Sl → Prop}
theorem w_name {i : Nat} {sl : Sl} (hp : i ∉ pi) (ha : sl.isAl = false) (k : κ (Γ.set i sl)) : Xw pi Γ (gN i) sl [i] κ := fun B S Δ env δ st w hΔ hd h =>
  ⟨_, st, S, _, rfl, h.store hd hΔ ha hp, ⟨by rw [List.length_set], fun k hk => by rw [List.getElem?_set_ne]; intro e; subst e; simp at hk⟩, k⟩
theorem ws_nil (k : κ Γ) : Xws pi Γ gsNil [] [] κ := fun B S Δ env δ st ws hΔ hd hl h => by
  match ws, hl with
  | [], _ =>
    rw [List.append_nil, List.append_nil] at h
    exact ⟨env, st, S, Γ, rfl, h, ⟨rfl, fun _ _ => rfl⟩, k⟩
theorem ws_cons {g : Tg} {r : Tgs} {sl : Sl} {sls : List Sl} (hs : ∀ s ∈ sls, s.isAl = false) (h : Xw pi Γ g sl js fun Γ' => Xws pi Γ' r sls ks κ) : Xws pi Γ (gsCons g r) (sl :: sls) (js ++ ks) κ := fun B S Δ env δ st ws hΔ hd hl q => by
  match ws, hl with
  | w :: ws, hl =>
    have hl' : ws.length = sls.length := by simpa using hl
    obtain ⟨env1, st1, S1, Γ1, e1, q1, a1, k1⟩ := h B S (Δ ++ sls) env (δ ++ ws) st w (fun s z => (List.mem_append.mp z).elim (hΔ s) (hs s)) (by rw [List.length_append, List.length_append, hd, hl']) (q.rot hd)
    obtain ⟨env2, st2, S2, Γ2, e2, q2, a2, k2⟩ := k1 B S1 Δ env1 δ st1 ws hΔ hd hl' q1
    refine ⟨env2, st2, S2, Γ2, by simp only [gsCons, e1, e2], q2, ⟨by rw [a2.1, a1.1], fun k hk => ?_⟩, k2⟩
    rw [List.mem_append, not_or] at hk
    rw [a2.2 k hk.2, a1.2 k hk.1]
/-! of a loop -/
theorem g_w {g : Tg} {t : Tr} (k : Xw pi Γ g (.o 0 t) js κ) : Xg pi Γ (tiW g) (.w t) js κ := fun B S Δ env δ st i hΔ h r => by
  cases r with
  | w a => exact k B S Δ env δ st _ hΔ h.lenD (h.push (sl := .o 0 t) a)
theorem DR.of0 {st : Store} {S : Nat → Prop} {env : Env} : ∀ {ws : List W} {ts : List Tr} {M : List Nat}, AtL st S 0 ws ts M → DR st S env ws (ts.map (.o 0)) []
  | _, _, _, .nil => .nil
  | _, _, _, .cons a b => by
    have := a.z
    subst this
    exact .cons (M := []) (N := []) a (DR.of0 b)
theorem Sat.pushs {B : Base} {S : Nat → Prop} {env : Env} {Δ : List Sl} {δ : List W} {st : Store} (h : Sat pi B S Γ env Δ δ st) {ws : List W} {sls : List Sl} (hs : DR st S env ws sls []) : Sat pi B S Γ env (Δ ++ sls) (δ ++ ws) st := by
  have q : Sat pi B S Γ env (Δ ++ []) (δ ++ []) st := by rw [List.append_nil, List.append_nil]; exact h
  exact q.oper h.lenD fun N d => ⟨[], hs, fun a => by simp⟩
theorem g_tt {g : Tgs} {n : Nat} {ts : List Tr} (hn : ts.length = n) (k : Xws pi Γ g (ts.map (.o 0)) js κ) : Xg pi Γ (tiT n g) (.t ts) js κ := fun B S Δ env δ st i hΔ h r => by
  cases r with
  | t a =>
    rename_i ws
    obtain ⟨env', st', S', Γ', e1, q1, a1, k1⟩ := k B S Δ env δ st ws hΔ h.lenD (by rw [a.rp.len, List.length_map]) (h.pushs (DR.of0 a))
    exact ⟨env', st', S', Γ', by simp only [tiT]; rw [if_pos (by rw [a.rp.len, hn])]; exact e1, q1, a1, k1⟩
end
/-! ### assignments -/
section
variable {pi : List Nat} {σ τ ρ : Type} {Γ : List Sl} {rest : Sd} {m : Ct σ τ ρ} {V : σ → List Sl} {X : Exits τ ρ} {js : List Nat}
theorem q_asgG {g : Tg} {a : Ev} (h : Xe pi Γ a fun sl Γ' => Xw pi Γ' g sl js fun Γ2 => Tq pi Γ2 rest m V X) : Tq pi Γ (sq (asgG g a) rest) m V X := fun B S Δ env δ st hΔ q => by
  obtain ⟨w, st1, S1, sl, Γ', h1, h2, h3⟩ := h B S Δ env δ st q
  obtain ⟨env2, st2, S2, Γ2, g1, g2, _, g3⟩ := h3 B S1 Δ env δ st1 w hΔ q.lenD h2
  have e : sq (asgG g a) rest env st = rest env2 st2 := by simp only [sq, asgG, h1, Res.fl, g1]
  rw [e]
  exact g3 B S2 Δ env2 δ st2 hΔ g2
end
/-! ### what is gone through -/
theorem paired_io {α : Type} (f : α → Tr) {st : Store} {S : Nat → Prop} : ∀ {xs : List α} {ws : List W} {M : List Nat}, AtL st S 0 ws (xs.map f) M → Paired (IoR st S) (itL ws) (xs.map fun x => Io.w (f x))
  | [], _, _, h => by cases h; exact .nil
  | x :: xs, _, _, h => by
    cases h with
    | cons a b =>
      have := a.z
      subst this
      exact .cons (.w a) (paired_io f b)
def enumT {α : Type} : Int → List α → List (Int × α)
  | _, [] => []
  | k, x :: xs => (k, x) :: enumT (k + 1) xs
theorem paired_enum {α : Type} (f : α → Tr) {st : Store} {S : Nat → Prop} : ∀ {xs : List α} {ws : List W} {M : List Nat} (k : Nat), AtL st S 0 ws (xs.map f) M → Paired (IoR st S) (enumI k ws) ((enumT (k : Int) xs).map fun p => Io.t [tr p.1, f p.2])
  | [], _, _, k, h => by cases h; exact .nil
  | x :: xs, _, _, k, h => by
    cases h with
    | cons a b =>
      have := a.z
      subst this
      exact .cons (.t (.cons (M := []) (N := []) (.d _) (.cons (M := []) (N := []) a .nil))) (paired_enum f (k + 1) b)
section
variable {pi : List Nat} {Γ Γ1 : List Sl} {κ : List Io → List Sl → Prop} {α β : Type} [Te α] [Te β]
theorem iSeq_at {st : Store} {S : Nat → Prop} {w : W} {ts : List Tr} (h : At st S 0 w (.l ts) []) : ∃ ws M chk, AtL st S 0 ws ts M ∧ (∀ (p : Nat × Cell), p ∈ chk → S p.1 ∧ st[p.1]? = some p.2) ∧ (∀ {e : Ev} {env : Env} {st0 : Store}, e env st0 = .ok w st → iSeq e env st0 = .ok ⟨itL ws, chk⟩ st) ∧
    (∀ {e : Ev} {env : Env} {st0 : Store}, e env st0 = .ok w st → iEnu e env st0 = .ok ⟨enumI 0 ws, chk⟩ st) ∧ itmC st w = some (ws, chk) := by
  cases h with
  | sl s e a =>
    rename_i n ws M
    refine ⟨ws, M, [(n, .lst ws)], a, fun p q => ?_, (fun h => by simp only [iSeq, h, Res.bind, e]), (fun h => by simp only [iEnu, h, Res.bind, e]), by simp only [itmC, e]⟩
    rw [List.mem_singleton] at q
    subst q
    exact ⟨s, e⟩
/-- for x in xs: the list is shared from then on -/
theorem i_seq {e : Ev} {j : Nat} {xs : List α} (h : Xe pi Γ e fun sl Γ' => sl = O j xs ∧ κ (xs.map fun x => .w (tr x)) Γ') : Xi pi Γ (iSeq e) κ := fun B S Δ env δ st q => by
  obtain ⟨w, st1, S1, sl, Γ', h1, h2, rfl, h3⟩ := h B S Δ env δ st q
  obtain ⟨S2, _, h4⟩ := h2.shareD q.lenD
  obtain ⟨N, d⟩ := h4.last q.lenD
  cases d with
  | cons a b =>
    have hz := At.z a
    subst hz
    obtain ⟨ws, M, chk, a1, a2, a3, _⟩ := iSeq_at (show At st1 S2 0 w (.l (xs.map tr)) [] from a)
    exact ⟨_, st1, S2, Γ', _, a3 h1, h4.drop q.lenD, a2, paired_io tr a1, h3⟩
theorem i_enu {e : Ev} {j : Nat} {xs : List α} (h : Xe pi Γ e fun sl Γ' => sl = O j xs ∧ κ ((enumT 0 xs).map fun p => .t [tr p.1, tr p.2]) Γ') : Xi pi Γ (iEnu e) κ := fun B S Δ env δ st q => by
  obtain ⟨w, st1, S1, sl, Γ', h1, h2, rfl, h3⟩ := h B S Δ env δ st q
  obtain ⟨S2, _, h4⟩ := h2.shareD q.lenD
  obtain ⟨N, d⟩ := h4.last q.lenD
  cases d with
  | cons a b =>
    have hz := At.z a
    subst hz
    obtain ⟨ws, M, chk, a1, a2, _, a3, _⟩ := iSeq_at (show At st1 S2 0 w (.l (xs.map tr)) [] from a)
    exact ⟨_, st1, S2, Γ', _, a3 h1, h4.drop q.lenD, a2, paired_enum tr 0 a1, h3⟩
noncomputable def rg1G (j : Int) : Option (List Int) := gd (-(2 ^ 62) ≤ j ∧ j < 2 ^ 62) (rangeT 0 j)
theorem paired_rng {st : Store} {S : Nat → Prop} (lo : Int) : ∀ l : List Nat, Paired (IoR st S) (l.map fun (i : Nat) => Itm.w (.d (.int (lo + (i : Int))))) ((l.map fun (i : Nat) => lo + (i : Int)).map fun x => Io.w (tr x))
  | [] => .nil
  | i :: l => .cons (.w (.d _)) (paired_rng lo l)
theorem i_rg1 {a : Av} {j : Int} {v : List Int} (hv : rg1G j = some v) (h : Xa pi Γ a fun sls Γ' => sls = [D j] ∧ κ (v.map fun x => .w (tr x)) Γ') : Xi pi Γ (iRg1 a) κ := fun B S Δ env δ st q => by
  obtain ⟨hc, rfl⟩ := gd_some hv
  obtain ⟨ws, st1, S1, sls, Γ', h1, hl, h2, rfl, h3⟩ := h B S Δ env δ st q
  match ws, hl with
  | [w], _ =>
    have e := d_of h2 q.lenD
    subst e
    refine ⟨⟨rngI 0 j.toNat, []⟩, st1, S1, Γ', _, by simp only [iRg1, h1, Res.bind, if_pos hc], h2.drop q.lenD, (fun _ z => nomatch z), ?_, h3⟩
    have := paired_rng (st := st1) (S := S1) 0 (List.range (j - 0).toNat)
    rw [Int.sub_zero] at this
    unfold rngI rangeT
    rw [Int.sub_zero]
    exact this
end
/-! ### methods that change a variable -/
/-! ### dicts that are changed -/
theorem AtK.app {st : Store} {S : Nat → Prop} {j : Nat} : ∀ {ws us : List (Key × W)} {ts rs : List (Key × Tr)} {M N : List Nat}, AtK st S j ws ts M → AtK st S j us rs N → AtK st S j (ws ++ us) (ts ++ rs) (M ++ N)
  | _, _, _, _, _, _, .nil, h => h
  | _, _, _, _, _, _, .cons a b, h => by
    rw [List.append_assoc]
    exact .cons a (AtK.app b h)
section
variable {κ' α : Type} [DecidableEq κ'] [Ky κ'] [Te α]
/-- no cells of one's own in a value of these layers -/
class Fl0 (α : Type) [Te α] (j : Nat) : Prop where
  z : ∀ (st : Store) (S : Nat → Prop) (v : α) (w : W) (M : List Nat), At st S j w (tr v) M → M = []
instance {α : Type} [Te α] : Fl0 α 0 := ⟨fun st S v w M h => h.z⟩
instance (priority := low) {α : Type} [Te α] [Da α] {j : Nat} : Fl0 α j := ⟨fun st S v w M h => by
  rw [Da.eq] at h
  cases h
  rfl⟩
end
section
variable {pi : List Nat} {Γ Γ1 : List Sl} {js : List Nat} {κ : List Sl → Prop} {κ' α : Type} [DecidableEq κ'] [Ky κ'] [Te α] {i j : Nat}
def setG {α : Type} (xs : List α) (x : Int) (v : α) : Option (List α) := (ixN xs.length x).map fun n => xs.set n v
/-- xs[x] = v -/
theorem w_setL {c : Ev} {xs r : List α} {x : Int} {v : α} {sl : Sl} (hi : Γ[i]? = some (O (j + 1) xs)) (hc : Xe pi Γ c fun s Γ' => s = D x ∧ Γ' = Γ) (h : setG xs x v = some r) (hd : Ds j [sl] [tr v]) (k : κ (Γ.set i (O (j + 1) r))) : Xw pi Γ (gS (vr i) c) sl [] κ := fun B S Δ env δ st w hΔ hδ q => by
  unfold setG at h
  cases hx : ixN xs.length x with
  | none => rw [hx] at h; cases h
  | some p =>
    rw [hx] at h
    cases h
    obtain ⟨wi, Mi, ei, ai⟩ := q.var hi
    obtain ⟨n, cc, K, rfl, hn, _, _⟩ := ai.ca rfl
    obtain ⟨w2, st1, S1, s2, Γ2, g1, g2, rfl, rfl⟩ := hc B S _ env _ st q
    have e2 := d_of g2 q.lenD
    subst e2
    have g3 := g2.drop q.lenD
    obtain ⟨m, c1, K1, L, e1, e3, ca, dr, fin⟩ := g3.mut hδ hi rfl
    rw [ei] at e1
    cases e1
    cases ca with
    | l a =>
      rename_i ws
      have l1 := a.rp.len
      rw [List.length_map] at l1
      have av := hd.at dr
      cases av with
      | cons a1 a2 =>
        cases a2
        rename_i N1
        rw [List.append_nil] at dr fin
        obtain ⟨L2, p1, p2⟩ := a.put p a1
        rw [← List.map_set] at p1
        have f := fin (.lst (ws.set p w)) (tr (xs.set p v)) L2 (.o 0 (.d .none)) (.d .none) [] (.l p1) (.d _) (fun a => by rw [List.count_nil]; have := p2 a; omega)
        refine ⟨env, _, S1, _, ?_, f.drop hδ, ⟨rfl, fun _ _ => rfl⟩, k⟩
        show gS (vr i) c w env st = _
        simp only [gS, vr, ei, g1]
        show (setW (.c n) (.d (.int x)) w st1).map _ = _
        simp only [setW, e3, l1, hx]
        rfl
end
end VS.TR
set_option Elab.async false
set_option linter.all false
set_option maxRecDepth 100000
set_option maxHeartbeats 1000000
/-! TR9: comprehensions. -/
namespace VS.TR
open PySem PySem.Spec PyProof.Rows L2 VS
open PySem.W (Datum DatumOrd)
open Te (tr)
open En (en)
open Ky (ky)
section
variable {pi : List Nat} {B : Base} {S : Nat → Prop} {Γ : List Sl} {env : Env} {Δ : List Sl} {δ : List W} {st : Store}
/-- an operand's object is changed; the operands behind it go into it -/
theorem Sat.mutD {sls : List Sl} {ws : List W} {n j : Nat} {t : Tr} (h : Sat pi B S Γ env (Δ ++ (.o (j + 1) t :: sls)) (δ ++ (.c n :: ws)) st) (hl : δ.length = Δ.length) (ht : t.cell = true) :
    ∃ c K L, st[n]? = some c ∧ CA st S j c t K ∧ DR st S env ws sls L ∧
      ∀ x t' K', CA st S j x t' K' → (∀ a, K'.count a ≤ K.count a + L.count a) → Sat pi B S Γ env (Δ ++ [.o (j + 1) t']) (δ ++ [.c n]) (st.set n x) := by
  obtain ⟨M, N, h⟩ := h
  obtain ⟨N1, N2, h1, h2, rfl⟩ := DR.split hl h.dr
  cases h2 with
  | cons a b =>
    rename_i K0 L
    obtain ⟨m, c, K, e, hn, hc, hK⟩ := At.ca (show At st S (j + 1) (.c n) t K0 from a) ht
    cases e
    subst hK
    refine ⟨c, K, L, hn, hc, b, fun x t' K' k1 k3 => ?_⟩
    have tot : ∀ a, ctn M (N1 ++ (n :: K ++ L)) a = (if n = a then 1 else 0) + K.count a + L.count a + N1.count a + M.count a := fun a => by
      unfold ctn
      rw [List.count_append, List.count_append, List.count_cons]
      by_cases e : n = a
      · rw [if_pos e, if_pos (by simpa using e)]; omega
      · rw [if_neg e, if_neg (by simpa using e)]; omega
    have cn : ctn M (N1 ++ (n :: K ++ L)) n = 1 := by
      have := tot n
      rw [if_pos rfl] at this
      have := h.own.one n
      omega
    have lt := (h.own.ow n (by omega)).2
    have nS := (h.own.ow n (by omega)).1
    have sm : ∀ m, m ≠ n → (st.set n x)[m]? = st[m]? := fun m hm => List.getElem?_set_ne (Ne.symm hm)
    have nin : ∀ {X : List Nat}, (∀ a, X.count a ≤ K.count a + L.count a + N1.count a + M.count a) → ∀ m ∈ X, (st.set n x)[m]? = st[m]? := fun {X} hX m hm => sm m fun e => by
      subst e
      have h1 := List.count_pos_iff.mpr hm
      have h2 := hX m
      have h3 := tot m
      rw [if_pos rfl] at h3
      omega
    have hS : ∀ m, S m → (st.set n x)[m]? = st[m]? := fun m hm => sm m fun e => nS (e ▸ hm)
    have a1 : At (st.set n x) S (j + 1) (.c n) t' (n :: K') := (k1.mono (fun _ q => q) hS (nin fun a => by have := k3 a; omega)).at (List.getElem?_set_self lt)
    have hc' : ∀ a, ctn M (N1 ++ (n :: K')) a ≤ ctn M (N1 ++ (n :: K ++ L)) a := fun a => by
      rw [tot a]
      unfold ctn
      have := k3 a
      rw [List.count_append, List.count_cons]
      by_cases e : n = a
      · rw [if_pos e, if_pos (by simpa using e)]; omega
      · rw [if_neg e, if_neg (by simpa using e)]; omega
    exact ⟨M, N1 ++ (n :: K'), h.gr.mono (fun _ q => q) hS (nin fun a => by omega), (h1.mono (fun _ q => q) hS (nin fun a => by omega)).app (DR.one (sl := .o (j + 1) t') a1), h.own.set n x hc', h.tn.trans (Tn.set n (by omega) x hc'), h.pi, h.pn⟩
end
/-! ### the block's variables -/
def noA : Sl → Sl
  | .al _ => .any
  | s => s
theorem noA_al (Δ : List Sl) : ∀ sl ∈ Δ.map noA, sl.isAl = false := fun sl h => by
  obtain ⟨s, _, rfl⟩ := List.mem_map.mp h
  cases s <;> rfl
theorem DR.noa {st : Store} {S : Nat → Prop} {env env' : Env} : ∀ {δ : List W} {Δ : List Sl} {N : List Nat}, DR st S env δ Δ N → DR st S env' δ (Δ.map noA) N
  | _, _, _, .nil => .nil
  | _, _, _, .cons (sl := sl) a b => by
    refine .cons ?_ (DR.noa b)
    cases sl with
    | any => exact a
    | o j t => exact a
    | al i => exact a.1
theorem DR.yesa {st st' : Store} {S S' : Nat → Prop} {env env' : Env} : ∀ {δ : List W} {Δ : List Sl} {N N' : List Nat}, DR st S env δ Δ N → DR st' S' env' δ (Δ.map noA) N' → DR st' S' env δ Δ N'
  | _, _, _, _, .nil, h => by cases h; exact .nil
  | _, _, _, _, .cons (sl := sl) a b, h => by
    cases h with
    | cons a' b' =>
      refine .cons ?_ (DR.yesa b b')
      cases sl with
      | any => exact a'
      | o j t => exact a'
      | al i => exact ⟨a', a.2⟩
def wipS : List Sl → List Nat → List Sl
  | Γ, [] => Γ
  | Γ, v :: vs => (wipS Γ vs).set v .any
theorem GR.wip {st : Store} {S : Nat → Prop} {env : Env} {Γ : List Sl} {M : List Nat} (g : GR st S env Γ M) : ∀ vs : List Nat, ∃ L, GR st S (wipeE env vs) (wipS Γ vs) L ∧ ∀ a, L.count a ≤ M.count a
  | [] => ⟨M, g, fun a => Nat.le_refl _⟩
  | v :: vs => by
    obtain ⟨L, h1, h2⟩ := GR.wip g vs
    obtain ⟨L2, h3, h4⟩ := h1.put v (o := none) (sl := .any) (N := []) rfl
    exact ⟨L2, h3, fun a => by have := h2 a; have := h4 a; rw [List.count_nil] at this; omega⟩
theorem wipS_any {Γ : List Sl} : ∀ {vs : List Nat} {v : Nat}, v ∈ vs → (wipS Γ vs)[v]? = some Sl.any ∨ (wipS Γ vs)[v]? = none
  | u :: vs, v, h => by
    unfold wipS
    by_cases e : u = v
    · subst e
      by_cases hl : u < (wipS Γ vs).length
      · exact .inl (List.getElem?_set_self hl)
      · right
        rw [List.getElem?_eq_none]
        rw [List.length_set]
        omega
    · rw [List.getElem?_set_ne e]
      rcases List.mem_cons.mp h with rfl | h
      · exact absurd rfl e
      · exact wipS_any h
theorem wipeE_get {env : Env} : ∀ {vs : List Nat} {k : Nat}, k ∉ vs → (wipeE env vs)[k]? = env[k]?
  | [], _, _ => rfl
  | v :: vs, k, h => by
    unfold wipeE
    rw [List.mem_cons, not_or] at h
    rw [List.getElem?_set_ne (Ne.symm h.1), wipeE_get h.2]
theorem wipeE_len {env : Env} : ∀ {vs : List Nat}, (wipeE env vs).length = env.length
  | [] => rfl
  | v :: vs => by
    unfold wipeE
    rw [List.length_set, wipeE_len]
/-- variables of which nothing is said may have any value -/
theorem GR.swap {st : Store} {S : Nat → Prop} : ∀ {Γ : List Sl} {env env' : Env} {M : List Nat}, GR st S env Γ M → env'.length = env.length → (∀ k : Nat, env'[k]? = env[k]? ∨ Γ[k]? = some Sl.any ∨ Γ[k]? = none) → GR st S env' Γ M
  | _, _, env', _, .nil, hl, _ => by
    have : env' = [] := List.length_eq_zero_iff.mp hl
    subst this
    exact .nil
  | _, _, [], _, .cons a b, hl, h => by cases hl
  | sl :: Γ, _, o :: env', _, .cons a b, hl, h => by
    refine .cons ?_ (GR.swap b (by simpa using hl) fun k => by simpa using h (k + 1))
    rcases h 0 with e | e | e
    · rw [List.getElem?_cons_zero, List.getElem?_cons_zero] at e
      cases e
      exact a
    · rw [List.getElem?_cons_zero] at e
      cases e
      exact a
    · cases e
section
variable {pi : List Nat} {B : Base} {S : Nat → Prop} {Γ : List Sl} {env : Env} {Δ : List Sl} {δ : List W} {st : Store}
theorem Sat.swap (h : Sat pi B S Γ env Δ δ st) {env' : Env} (ha : ∀ sl ∈ Δ, sl.isAl = false) (hl : env'.length = env.length) (he : ∀ k : Nat, env'[k]? = env[k]? ∨ Γ[k]? = some Sl.any ∨ Γ[k]? = none) (hp : ∀ k ∈ pi, env'[k]? = env[k]?) : Sat pi B S Γ env' Δ δ st := by
  obtain ⟨M, N, h⟩ := h
  refine ⟨M, N, h.gr.swap hl he, h.dr.ren ha, h.own, h.tn, h.pi, fun p hp2 => ?_⟩
  rw [hp p.1 (by rw [← h.pi]; exact List.mem_map.mpr ⟨p, hp2, rfl⟩)]
  exact h.pn p hp2
theorem Sat.wipe (h : Sat pi B S Γ env Δ δ st) (vs : List Nat) (hp : ∀ k ∈ pi, k ∉ vs) : Sat pi B S (wipS Γ vs) (wipeE env vs) (Δ.map noA) δ st := by
  obtain ⟨M, N, h⟩ := h
  obtain ⟨L, g1, g2⟩ := h.gr.wip vs
  have e : ∀ a, ctn L N a ≤ ctn M N a := fun a => by
    unfold ctn
    have := g2 a
    omega
  refine ⟨L, N, g1, h.dr.noa, h.own.sub e, h.tn.trans (Tn.less e), h.pi, fun p hp2 => ?_⟩
  rw [wipeE_get (hp p.1 (by rw [← h.pi]; exact List.mem_map.mpr ⟨p, hp2, rfl⟩))]
  exact h.pn p hp2
end
/-! ### [e for x in xs if t] -/
def lcT {υ α β : Type} (f : υ → α → Option (υ × Option β)) : υ → List α → Option (υ × List β)
  | s, [] => some (s, [])
  | s, x :: xs => (f s x).bind fun r => (lcT f r.1 xs).map fun q => (q.1, r.2.toList ++ q.2)
/-- with a state that goes along -/
def lcS {υ α β : Type} (f : υ → α → Option (υ × Option β)) (s : υ) (xs : List α) : Option (υ × List β) := if xs.length ≤ sizeLine then lcT f s xs else none
/-- without -/
def lcO {α β : Type} (f : α → Option (Option β)) (xs : List α) : Option (List β) := (lcS (fun (_ : Unit) x => (f x).map fun y => ((), y)) () xs).map (·.2)
/-- without a guard -/
noncomputable def lcP {α β : Type} (p : α → Bool) (f : α → β) (xs : List α) : Option (List β) := gd (xs.length ≤ sizeLine) ((xs.filter p).map f)
noncomputable def lcM {α β : Type} (f : α → β) (xs : List α) : Option (List β) := gd (xs.length ≤ sizeLine) (xs.map f)
/-- one turn -/
def Cx {υ β : Type} [Te β] (pi : List Nat) (Γ1 : List Sl) (t : Tst) (e : Ev) (r : υ × Option β) (V0 : υ → List Sl) (j : Nat) : Prop :=
  ∀ (B : Base) (S : Nat → Prop) (Δ : List Sl) (env : Env) (δ : List W) (st : Store), Sat pi B S Γ1 env Δ δ st → match r with
    | (s', none) => ∃ st' S', t env st = .ok false st' ∧ Sat pi B S' (V0 s') env Δ δ st'
    | (s', some y) => ∃ st1 w st' S', t env st = .ok true st1 ∧ e env st1 = .ok w st' ∧ Sat pi B S' (V0 s') env (Δ ++ [O j y]) (δ ++ [w]) st'
/-- what is gone through, with what must stay so -/
def Xj (pi : List Nat) (Γ : List Sl) (c : Iv) (vs : List Nat) (pk : Option (Nat × Sl)) (κ : List Io → List Sl → Prop) : Prop :=
  ∀ (B : Base) (S : Nat → Prop) (Δ : List Sl) (env : Env) (δ : List W) (st : Store), Sat pi B S Γ env Δ δ st →
    ∃ I st' S' Γ' its, c env st = .ok I st' ∧ Sat pi B S' Γ' env Δ δ st' ∧ Paired (IoR st' S') I.its its ∧ κ its Γ' ∧
      ∀ (c1 : Nat → Nat), Own S' st' c1 → ∀ (S2 : Nat → Prop) (Γ2 : List Sl) (Δ2 : List Sl) (δ2 : List W) (st2 : Store), Sat pi ⟨S', st', c1, B.P⟩ S2 Γ2 (wipeE env vs) Δ2 δ2 st2 → (∀ i sl, pk = some (i, sl) → Γ2[i]? = some sl) → Chk I.chk st2
theorem Xi.j {pi : List Nat} {Γ : List Sl} {c : Iv} {vs : List Nat} {κ : List Io → List Sl → Prop} (h : Xi pi Γ c κ) : Xj pi Γ c vs none κ := fun B S Δ env δ st q => by
  obtain ⟨I, st', S', Γ', its, e1, h1, hck, hits, k⟩ := h B S Δ env δ st q
  exact ⟨I, st', S', Γ', its, e1, h1, hits, k, fun c1 o1 S2 Γ2 Δ2 δ2 st2 hh _ p hp => by
    obtain ⟨q1, q2⟩ := hck p hp
    exact ((hh.stays o1).2 p.1 q1).trans q2⟩
section
variable {pi : List Nat} {Γ Γ1 Γ2 : List Sl} {υ α β : Type} [Te β] {t : Tst} {e : Ev} {r : υ × Option β} {V0 : υ → List Sl} {j : Nat}
theorem ds_fix {st : Store} {S : Nat → Prop} {B : Base} {env : Env} {Δ : List Sl} {δ : List W} {sl : Sl} {y : Tr} {w : W} (h : Sat pi B S Γ env (Δ ++ [sl]) (δ ++ [w]) st) (hl : δ.length = Δ.length) (hd : Ds j [sl] [y]) : Sat pi B S Γ env (Δ ++ [.o j y]) (δ ++ [w]) st :=
  h.oper hl fun N d => by
    have := hd.at d
    cases this with
    | cons a b =>
      cases b
      exact ⟨_, DR.one a, fun a => by simp⟩
theorem cx_all {s' : υ} {y : β} (he : Xe pi Γ1 e fun sl Γ3 => Ds j [sl] [tr y] ∧ Wk Γ3 (V0 s')) : Cx pi Γ1 tYesD e (s', some y) V0 j := fun B S Δ env δ st h => by
  obtain ⟨w, st2, S2, sl, Γ3, g1, g2, g3, g4⟩ := he B S Δ env δ st h
  obtain ⟨S', h3⟩ := (ds_fix g2 h.lenD g3).weak g4
  exact ⟨st, w, st2, S', rfl, g1, h3⟩
theorem lc_loop {g : Ti} {js vs : List Nat} {q : α → Io} {f : υ → α → Option (υ × Option β)} {chk : List (Nat × Cell)} (hb : ∀ s x r, f s x = some r → Xg pi (V0 s) g (q x) js fun Γ1 => Cx pi Γ1 t e r V0 j) (hj : ∀ k ∈ js, k ∈ vs) (hp : ∀ k ∈ pi, k ∉ vs) (hV : ∀ s, ∀ k ∈ vs, (V0 s)[k]? = some Sl.any ∨ (V0 s)[k]? = none)
    {B : Base} {Δ : List Sl} {δ : List W} {env : Env} {n : Nat} (hΔ : ∀ sl ∈ Δ, sl.isAl = false) (hd : δ.length = Δ.length) (hc : ∀ (S : Nat → Prop) (s : υ) (Δ : List Sl) (δ : List W) (st : Store), Sat pi B S (V0 s) env Δ δ st → Chk chk st)
    (hi : ∀ (S : Nat → Prop) (Γ : List Sl) (env : Env) (Δ : List Sl) (δ : List W) (st : Store), Sat pi B S Γ env Δ δ st → ∀ y i, IoR B.st B.S y i → IoR st S y i) : ∀ (its : List Itm) (xs : List α), Paired (IoR B.st B.S) its (xs.map q) → ∀ (s : υ) (acc : List β) (S : Nat → Prop) (st : Store) (s' : υ) (ys : List β), Sat pi B S (V0 s) env (Δ ++ [O (j + 1) acc]) (δ ++ [.c n]) st → acc.length + xs.length ≤ sizeLine → lcT f s xs = some (s', ys) →
    ∃ st' S', lcL g t e chk n env its st = .ok (.c n) st' ∧ Sat pi B S' (V0 s') env (Δ ++ [O (j + 1) (acc ++ ys)]) (δ ++ [.c n]) st'
  | _, [], .nil, s, acc, S, st, s', ys, h, hz, hm => by
    cases hm
    exact ⟨st, S, by unfold lcL; rw [if_pos (hc _ _ _ _ _ h)], by rw [List.append_nil]; exact h⟩
  | y :: its, x :: xs, .cons r rs, s, acc, S, st, s', ys, h, hz, hm => by
    have hal : ∀ sl ∈ Δ ++ [O (j + 1) acc], sl.isAl = false := fun sl hs => by
      rcases List.mem_append.mp hs with z | z
      · exact hΔ sl z
      · rw [List.mem_singleton.mp z]; rfl
    unfold lcT at hm
    cases hf : f s x with
    | none => rw [hf] at hm; cases hm
    | some r0 =>
      rw [hf] at hm
      obtain ⟨env1, st1, S1, Γ1, e1, h1, ag, k⟩ := hb s x r0 hf B S _ env _ st y hal h (hi _ _ _ _ _ _ h _ _ r)
      have k1 := k B S1 _ env1 _ st1 h1
      have back : ∀ {s' : υ} {Δ' : List Sl} {δ' : List W} {st' : Store} {S' : Nat → Prop}, Sat pi B S' (V0 s') env1 Δ' δ' st' → (∀ sl ∈ Δ', sl.isAl = false) → Sat pi B S' (V0 s') env Δ' δ' st' := fun {s' Δ' δ' st' S'} h' ha => by
        refine h'.swap ha ag.1.symm (fun k => ?_) fun k hk => (ag.2 k fun z => hp k hk (hj k z)).symm
        by_cases hkj : k ∈ js
        · exact .inr (hV s' k (hj k hkj))
        · exact .inl (ag.2 k hkj).symm
      unfold lcL
      rw [if_pos (hc _ _ _ _ _ h), e1]
      obtain ⟨s1, o⟩ := r0
      simp only [Option.bind] at hm
      cases hq : lcT f s1 xs with
      | none => rw [hq] at hm; cases hm
      | some q0 =>
        rw [hq] at hm
        cases hm
        obtain ⟨s2, zs⟩ := q0
        cases o with
        | none =>
          obtain ⟨st2, S2, t1, h2⟩ := k1
          simp only [t1]
          rw [List.length_cons] at hz
          exact lc_loop hb hj hp hV hΔ hd hc hi its xs rs s1 acc S2 st2 s2 zs (back h2 hal) (by omega) hq
        | some y0 =>
          obtain ⟨st2, w, st3, S3, t1, t2, h2⟩ := k1
          simp only [t1, t2]
          rw [List.append_assoc, List.append_assoc] at h2
          have h2 : Sat pi B S3 (V0 s1) env1 (Δ ++ (O (j + 1) acc :: [O j y0])) (δ ++ (.c n :: [w])) st3 := h2
          obtain ⟨c, K, L, c1, c2, c3, fin⟩ := h2.mutD hd rfl
          cases c2 with
          | l a =>
            rename_i ws
            have l1 := a.rp.len
            rw [List.length_map] at l1
            cases c3 with
            | cons b0 b1 =>
              cases b1
              rename_i L0
              have h3 := fin (.lst (ws ++ [w])) (tr (acc ++ [y0])) (K ++ (L0 ++ [])) (.l (by rw [List.map_append]; exact a.app (.cons b0 .nil))) (fun a => by rw [List.count_append]; omega)
              simp only [c1]
              rw [List.length_cons] at hz
              rw [if_pos (by omega)]
              have := lc_loop hb hj hp hV hΔ hd hc hi its xs rs s1 (acc ++ [y0]) S3 _ s2 zs (back h3 (fun sl hs => by
                rcases List.mem_append.mp hs with z | z
                · exact hΔ sl z
                · rw [List.mem_singleton.mp z]; rfl)) (by rw [List.length_append, List.length_singleton]; omega) hq
              rw [List.append_assoc] at this
              exact this
theorem x_lcSj {I : Iv} {g : Ti} {js vs : List Nat} {pk : Option (Nat × Sl)} {q : α → Io} {f : υ → α → Option (υ × Option β)} {xs : List α} {s0 : υ} {v : υ × List β} {κ : Sl → List Sl → Prop} (hv : lcS f s0 xs = some v) (hi : Xj pi Γ I vs pk fun its Γ' => its = xs.map q ∧ Wk (wipS Γ' vs) (V0 s0)) (hpk : ∀ s i sl, pk = some (i, sl) → (V0 s)[i]? = some sl)
    (hb : ∀ s x r, f s x = some r → Xg pi (V0 s) g (q x) js fun Γ1 => Cx pi Γ1 t e r V0 j) (hj : ∀ k ∈ js, k ∈ vs) (hp : ∀ k ∈ pi, k ∉ vs) (hV : ∀ s, ∀ k ∈ vs, (V0 s)[k]? = some Sl.any ∨ (V0 s)[k]? = none) (k : κ (O (j + 1) v.2) (V0 v.1)) : Xe pi Γ (lcR I g t e vs) κ := fun B S Δ env δ st h => by
  obtain ⟨I1, st1, S1, Γ', its, e1, h1, hits, ⟨rfl, hw⟩, hck⟩ := hi B S Δ env δ st h
  unfold lcS at hv
  split at hv
  · rename_i hz
    obtain ⟨c1, o1, h2, back⟩ := h1.rebase
    have h2' := h2
    obtain ⟨M, N, h2M⟩ := h2'
    have h3 := h2.wipe vs hp
    obtain ⟨S2, h4⟩ := h3.weak hw
    have h4' : Sat pi ⟨S1, st1, c1, B.P⟩ S2 (V0 s0) (wipeE env vs) (Δ.map noA ++ []) (δ ++ []) st1 := by rw [List.append_nil, List.append_nil]; exact h4
    have h5 := h4'.fresh (j := j) (x := .lst []) (t := tr ([] : List β)) (by rw [List.length_map, h.lenD]) fun N d => ⟨[], .l .nil, fun a => by simp⟩
    have chk : ∀ (S : Nat → Prop) (s : υ) (Δ : List Sl) (δ : List W) (st : Store), Sat pi ⟨S1, st1, c1, B.P⟩ S (V0 s) (wipeE env vs) Δ δ st → Chk I1.chk st := fun S s Δ δ st hh => hck c1 o1 S _ Δ δ st hh (hpk s)
    obtain ⟨st6, S6, e6, h6⟩ := lc_loop (υ := υ) hb hj hp hV (noA_al Δ) (by rw [List.length_map, h.lenD]) chk (fun S Γ env Δ δ st hh y i r => r.mono (hh.stays o1).1 (hh.stays o1).2) I1.its xs hits s0 [] S2 _ v.1 v.2 h5 (by rw [List.length_nil, Nat.zero_add]; exact hz) hv
    obtain ⟨M6, N6, h7⟩ := h6
    obtain ⟨Na, Nb, d1, d2, rfl⟩ := DR.split (by rw [List.length_map, h.lenD]) h7.dr
    have g7 := h7.gr.swap (env' := env) (by rw [wipeE_len]) fun k => by
      by_cases hk : k ∈ vs
      · exact .inr (hV v.1 k hk)
      · exact .inl (wipeE_get hk).symm
    refine ⟨.c st1.length, st6, S6, _, _, ?_, back ⟨M6, Na ++ Nb, g7, (h2M.dr.yesa d1).app (d2.ren fun sl hs => ?_), h7.own, h7.tn, h7.pi, fun p hp2 => ?_⟩, k⟩
    · simp only [lcR, lcB, e1, Res.bind, e6]
    · rw [List.mem_singleton.mp hs]; rfl
    · exact h2M.pn p hp2
  · cases hv
theorem x_lcS {I : Iv} {g : Ti} {js vs : List Nat} {q : α → Io} {f : υ → α → Option (υ × Option β)} {xs : List α} {s0 : υ} {v : υ × List β} {κ : Sl → List Sl → Prop} (hv : lcS f s0 xs = some v) (hi : Xi pi Γ I fun its Γ' => its = xs.map q ∧ Wk (wipS Γ' vs) (V0 s0))
    (hb : ∀ s x r, f s x = some r → Xg pi (V0 s) g (q x) js fun Γ1 => Cx pi Γ1 t e r V0 j) (hj : ∀ k ∈ js, k ∈ vs) (hp : ∀ k ∈ pi, k ∉ vs) (hV : ∀ s, ∀ k ∈ vs, (V0 s)[k]? = some Sl.any ∨ (V0 s)[k]? = none) (k : κ (O (j + 1) v.2) (V0 v.1)) : Xe pi Γ (lcR I g t e vs) κ := x_lcSj hv hi.j (fun _ _ _ h => nomatch h) hb hj hp hV k
/-- without a state -/
theorem x_lcOj {I : Iv} {g : Ti} {js vs : List Nat} {pk : Option (Nat × Sl)} {q : α → Io} {f : α → Option (Option β)} {xs : List α} {v : List β} {κ : Sl → List Sl → Prop} (hv : lcO f xs = some v) (hi : Xj pi Γ I vs pk fun its Γ' => its = xs.map q ∧ Γ2 = wipS Γ' vs) (hpk : ∀ i sl, pk = some (i, sl) → Γ2[i]? = some sl)
    (hb : ∀ x r, f x = some r → Xg pi Γ2 g (q x) js fun Γ1 => Cx pi Γ1 t e ((), r) (fun _ => Γ2) j) (hj : ∀ k ∈ js, k ∈ vs) (hp : ∀ k ∈ pi, k ∉ vs) (hV : ∀ k ∈ vs, Γ2[k]? = some Sl.any ∨ Γ2[k]? = none) (k : κ (O (j + 1) v) Γ2) : Xe pi Γ (lcR I g t e vs) κ := by
  unfold lcO at hv
  cases hs : lcS (fun (_ : Unit) x => (f x).map fun y => ((), y)) () xs with
  | none => rw [hs] at hv; cases hv
  | some u =>
    rw [hs] at hv
    cases hv
    have wk : ∀ {a : List Sl}, Wk a a := fun {a} => by
      induction a with
      | nil => exact .nil
      | cons x a ih => exact .same ih
    intro B S Δ env δ st h
    exact x_lcSj (V0 := fun _ => Γ2) (q := q) (pk := pk) hs (fun B S Δ env δ st h => by
      obtain ⟨I1, st1, S1, Γ', its, e1, h1, hits, ⟨rfl, rfl⟩, hck⟩ := hi B S Δ env δ st h
      exact ⟨I1, st1, S1, Γ', _, e1, h1, hits, ⟨rfl, wk⟩, hck⟩) (fun _ => hpk) (fun s x r hr => by
      cases hf : f x with
      | none => rw [hf] at hr; cases hr
      | some r0 =>
        rw [hf] at hr
        cases hr
        exact hb x r0 hf) hj hp (fun _ => hV) k B S Δ env δ st h
theorem x_lcO {I : Iv} {g : Ti} {js vs : List Nat} {q : α → Io} {f : α → Option (Option β)} {xs : List α} {v : List β} {κ : Sl → List Sl → Prop} (hv : lcO f xs = some v) (hi : Xi pi Γ I fun its Γ' => its = xs.map q ∧ Γ2 = wipS Γ' vs)
    (hb : ∀ x r, f x = some r → Xg pi Γ2 g (q x) js fun Γ1 => Cx pi Γ1 t e ((), r) (fun _ => Γ2) j) (hj : ∀ k ∈ js, k ∈ vs) (hp : ∀ k ∈ pi, k ∉ vs) (hV : ∀ k ∈ vs, Γ2[k]? = some Sl.any ∨ Γ2[k]? = none) (k : κ (O (j + 1) v) Γ2) : Xe pi Γ (lcR I g t e vs) κ := x_lcOj hv hi.j (fun _ _ h => nomatch h) hb hj hp hV k
theorem lcO_P (p : α → Bool) (f : α → β) (xs : List α) (h : xs.length ≤ sizeLine) : lcO (fun x => some (if p x = true then some (f x) else none)) xs = some ((xs.filter p).map f) := by
  have : ∀ xs : List α, lcT (fun (_ : Unit) x => (some (if p x = true then some (f x) else none)).map fun y => ((), y)) () xs = some ((), (xs.filter p).map f) := by
    intro xs
    induction xs with
    | nil => rfl
    | cons x xs ih =>
      rw [lcT, Option.map_some, Option.bind_some, ih, Option.map_some, List.filter_cons]
      cases p x <;> rfl
  unfold lcO lcS
  rw [if_pos h, this]
  rfl
theorem x_lcP {I : Iv} {g : Ti} {js vs : List Nat} {q : α → Io} {p : α → Bool} {f : α → β} {xs : List α} {v : List β} {κ : Sl → List Sl → Prop} (hv : lcP p f xs = some v) (hi : Xi pi Γ I fun its Γ' => its = xs.map q ∧ Γ2 = wipS Γ' vs)
    (hb : ∀ x, Xg pi Γ2 g (q x) js fun Γ1 => Cx pi Γ1 t e ((), if p x = true then some (f x) else none) (fun _ => Γ2) j) (hj : ∀ k ∈ js, k ∈ vs) (hp : ∀ k ∈ pi, k ∉ vs) (hV : ∀ k ∈ vs, Γ2[k]? = some Sl.any ∨ Γ2[k]? = none) (k : κ (O (j + 1) v) Γ2) : Xe pi Γ (lcR I g t e vs) κ := by
  obtain ⟨hz, rfl⟩ := gd_some hv
  exact x_lcO (lcO_P p f xs hz) hi (fun x r hr => by cases hr; exact hb x) hj hp hV k
theorem x_lcM {I : Iv} {g : Ti} {js vs : List Nat} {q : α → Io} {f : α → β} {xs : List α} {v : List β} {κ : Sl → List Sl → Prop} (hv : lcM f xs = some v) (hi : Xi pi Γ I fun its Γ' => its = xs.map q ∧ Γ2 = wipS Γ' vs)
    (hb : ∀ x, Xg pi Γ2 g (q x) js fun Γ1 => Cx pi Γ1 t e ((), some (f x)) (fun _ => Γ2) j) (hj : ∀ k ∈ js, k ∈ vs) (hp : ∀ k ∈ pi, k ∉ vs) (hV : ∀ k ∈ vs, Γ2[k]? = some Sl.any ∨ Γ2[k]? = none) (k : κ (O (j + 1) v) Γ2) : Xe pi Γ (lcR I g t e vs) κ := by
  obtain ⟨hz, rfl⟩ := gd_some hv
  refine x_lcP (p := fun _ => true) (f := f) (xs := xs) (v := xs.map f) ?_ hi (fun x => by rw [if_pos rfl]; exact hb x) hj hp hV k
  unfold lcP gd
  rw [if_pos hz, List.filter_eq_self.mpr (fun _ _ => rfl)]
end
/-! ### {k: v for x in xs if t} -/
end VS.TR
set_option Elab.async false
set_option linter.all false
set_option maxRecDepth 100000
set_option maxHeartbeats 1000000
/-! TRa: op=, the script, further methods. -/
namespace VS.TR
open PySem PySem.Spec PyProof.Rows L2 VS
open PySem.W (Datum DatumOrd)
open Te (tr)
open En (en)
open Ky (ky)
abbrev Sc (ns : List Int) : Sl := .o 0 (.s (ns.map PyData.int))
section
variable {pi : List Nat} {Γ : List Sl} {κ : Sl → List Sl → Prop}
theorem rp_s {st : Store} {w : W} {xs : List PyData} (h : Rp st w (.s xs)) : w = .r xs := by cases h; rfl
theorem o_lenS {ns : List Int} (k : κ (D (ns.length : Int)) Γ) : Of pi Γ fLen [Sc ns] κ :=
  of_d1 .o (fun st w h => by rw [rp_s h]; simp only [fLen, lenW, List.length_map]) k
theorem o_ixS {ns : List Int} {i v : Int} (h : atI ns i = some v) (k : κ (D v) Γ) : Of pi Γ (f2 fIx) [Sc ns, D i] κ :=
  of_d2 .o .o (fun st w1 w2 h1 h2 => by
    rw [rp_s h1, rp_d h2]
    have := atI_map PyData.int ns i
    rw [h] at this
    simp only [fIx, this]
    rfl) k
/-! methods that change nothing -/
theorem x_mthQ {T : String} {f : Fm} {o : Ev} {a : Av} (h : Xe pi Γ o fun s Γ1 => (∀ (st : Store) (w : W), (∀ t, Vw Γ1 s t → Rp st w t) → isTy T st w = true) ∧ Xa pi Γ1 a fun sls Γ2 => Of pi Γ2 (fun ws st => match ws with | w :: r => f w r st | _ => .bad) (s :: sls) κ) : Xe pi Γ (mth T f o a) κ := fun B S Δ env δ st q => by
  obtain ⟨w, st1, S1, s, Γ1, h1, h2, h3, h4⟩ := h B S Δ env δ st q
  have ty := h3 st1 w fun t v => h2.view q.lenD (k := 0) rfl rfl v
  obtain ⟨ws, st2, S2, sls, Γ2, g1, gl, g2, g3⟩ := h4 B S1 _ env _ st1 h2
  rw [List.append_assoc, List.append_assoc] at g2
  obtain ⟨w3, st3, S3, sl3, Γ3, f1, f2, f3⟩ := g3 B S2 Δ env δ (w :: ws) st2 (by rw [List.length_cons, List.length_cons, gl]) q.lenD g2
  exact ⟨w3, st3, S3, sl3, Γ3, by simp only [mth, h1, Res.bind, ty, if_true, g1]; exact f1, f2, f3⟩
theorem ty_str {Γ1 : List Sl} {s : Sl} {x : Str} (v : Vw Γ1 s (tr x)) (st : Store) (w : W) (h : ∀ t, Vw Γ1 s t → Rp st w t) : isTy "str" st w = true := by
  have := rp_d (show Rp st w (.d (.str x)) from h _ v)
  subst this
  rfl
noncomputable def joinG (a : Str) (ys : List Str) : Option Str := gd ((ys.map (·.length)).sum + ys.length * a.length ≤ 16777216) (Txt.join a ys)
theorem o_join {b : Sl} {x v : Str} {ys : List Str} (vb : Vw Γ b (tr ys)) (h : joinG x ys = some v) (k : κ (D v) Γ) : Of pi Γ (fun ws st => match ws with | w :: r => fJoin w r st | _ => .bad) [D x, b] κ := by
  obtain ⟨hc, rfl⟩ := gd_some h
  exact of_d2' .o vb (fun st w1 w2 h1 h2 => by
    have e1 := rp_d h1
    subst e1
    show fJoin (.d (.str x)) [w2] st = _
    simp only [fJoin, itm_strs h2, if_pos hc]) k
end
/-! ### a list of one's own that is gone through and kept (its items are data) -/
end VS.TR
set_option Elab.async false
set_option linter.all false
set_option maxRecDepth 100000
set_option maxHeartbeats 1000000
/-! TRb: what the printer asks for. -/
namespace VS.TR
open PySem PySem.Spec PyProof.Rows L2 VS
open PySem.W (Datum DatumOrd)
open Te (tr)
section
variable {pi : List Nat} {σ τ ρ α : Type} {Γ Γ2 : List Sl} {b : Sd} {m : Ct σ τ ρ} {V : σ → List Sl} {X : Exits τ ρ}
theorem q_re (e : Γ = Γ2) (h : Tq pi Γ2 b m V X) : Tq pi Γ b m V X := e ▸ h
end
theorem pis_lt {pi : List Nat} {Γ : List Sl} {n : Nat} (h : pi.all (fun i => decide (i < n)) = true) (hl : Γ.length = n) : ∀ i ∈ pi, i < Γ.length := fun i hi => by
  rw [hl]
  exact of_decide_eq_true (List.all_eq_true.mp h i hi)
/-! ### (), (None,), (index,) -/
inductive Flt where
  | ok
  | non
  | at (i : Int)
  deriving DecidableEq
def Flt.da : Flt → PyData
  | .ok => .tuple []
  | .non => .tuple [.none]
  | .at i => .tuple [.int i]
instance : Te Flt := ⟨fun x => .d x.da⟩
instance : Da Flt := ⟨Flt.da, fun _ => rfl⟩
instance : En Flt := { en := Flt.da, dep := 0, rd := fun st w x h => by rw [rp_d h]; rfl }
/-- a dict among values -/
structure Dct (κ α : Type) where
  l : List (κ × α)
instance {κ α : Type} [Ky κ] [Te α] : Te (Dct κ α) := ⟨fun d => trK d.l⟩
end VS.TR
set_option Elab.async false
set_option linter.all false
set_option maxRecDepth 100000
set_option maxHeartbeats 1000000
/-! TRc: an item is borrowed. -/
namespace VS.TR
open PySem PySem.Spec PyProof.Rows L2 VS
open PySem.W (Datum DatumOrd)
open Te (tr)
/-! ### rules -/
end VS.TR
set_option Elab.async false
set_option linter.all false
set_option maxRecDepth 100000
set_option maxHeartbeats 1000000
/-! TRd: a variable's object becomes an item, and is read once more. -/
namespace VS.TR
open PySem PySem.Spec PyProof.Rows L2 VS
open PySem.W (Datum DatumOrd)
open Te (tr)
open Ky (ky)
/-! ### a def that may hand back its parameter -/
/-! ### a def that only reads, and hands back data: whatever it is given stays as it was -/
inductive Pz : List Sl → List Sl → Prop
  | nil : Pz [] []
  | cons {j : Nat} {t : Tr} {a b : List Sl} : Pz a b → Pz (.o 0 t :: a) (.o j t :: b)
theorem Pz.dr {st : Store} {S : Nat → Prop} : ∀ {a b : List Sl} {ws : List W} {N : List Nat}, Pz a b → DR st S [] ws b N → DR st (fun n => S n ∨ n ∈ N) [] ws a []
  | _, _, _, _, .nil, .nil => .nil
  | _, _, _, _, .cons p, .cons (M := K) (N := K2) q r => by
    have h1 := Pz.dr p r
    refine .cons (M := []) (N := []) ?_ (h1.mono (fun n h => h.elim .inl fun h => .inr (List.mem_append_right _ h)) (fun _ _ => rfl) fun _ _ => rfl)
    exact At.share (fun _ h => .inl h) q fun n hn => .inr (List.mem_append_left _ hn)
end VS.TR
set_option Elab.async false
set_option linter.all false
set_option maxRecDepth 100000
set_option maxHeartbeats 1000000
/-! TRe: comprehensions with two generators, stars in displays, zip for a plain name. -/
namespace VS.TR
open PySem PySem.Spec PyProof.Rows L2 VS
open Te (tr)
/-! ### [e for x in xs for z in zs(x)] -/
end VS.TR
set_option Elab.async false
set_option linter.all false
set_option maxRecDepth 100000
set_option maxHeartbeats 1000000
/-! TRf: parts by cases that change something. -/
namespace VS.TR
open PySem PySem.Spec PyProof.Rows L2 VS
open Te (tr)
section
variable {pi : List Nat} {Γ Γ1 Γ2 : List Sl}
theorem Xt.weak {t : Tst} {κ : Bool → List Sl → Prop} (h : Xt pi Γ t fun z Γ' => ∃ Γ2, Wk Γ' Γ2 ∧ κ z Γ2) : Xt pi Γ t κ := fun B S Δ env δ st q => by
  obtain ⟨b, st', S', Γ', h1, h2, Γ2, h3, h4⟩ := h B S Δ env δ st q
  obtain ⟨S2, h5⟩ := h2.weak h3
  exact ⟨b, st', S2, Γ2, h1, h5, h4⟩
theorem Xe.weak {e : Ev} {κ : Sl → List Sl → Prop} (h : Xe pi Γ e fun sl Γ' => ∃ Γ2, Wk Γ' Γ2 ∧ κ sl Γ2) : Xe pi Γ e κ := fun B S Δ env δ st q => by
  obtain ⟨w, st', S', sl, Γ', h1, h2, Γ2, h3, h4⟩ := h B S Δ env δ st q
  obtain ⟨S2, h5⟩ := h2.weak h3
  exact ⟨w, st', S2, sl, Γ2, h1, h5, h4⟩
end
end VS.TR
set_option Elab.async false
set_option linter.all false
set_option maxRecDepth 100000
set_option maxHeartbeats 1000000
/-! TRg: len of a set of the numbers in pairs. -/
namespace VS.TR
open PySem PySem.Spec PyProof.Rows L2 VS
open Te (tr)
end VS.TR
set_option Elab.async false
set_option linter.all false
set_option maxRecDepth 100000
set_option maxHeartbeats 1000000
/-! TRh: a comprehension that uses up a list of one's own: its items are moved. -/
namespace VS.TR
open PySem PySem.Spec PyProof.Rows L2 VS
open Te (tr)
end VS.TR
namespace VS.TR
open PySem PySem.Spec PyProof.Rows L2 VS
open Te (tr)
/-! ### a list of data whose items may be of any kind -/
instance : Te PyData := ⟨Tr.d⟩
instance : Da PyData := ⟨id, fun _ => rfl⟩
end VS.TR
set_option Elab.async false
set_option linter.all false
set_option maxRecDepth 100000
set_option maxHeartbeats 1000000
/-! TRi: what only reads and gives data leaves everything as it was. -/
namespace VS.TR
open PySem PySem.Spec PyProof.Rows L2 VS
open Te (tr)
def shS : Sl → Sl
  | .o _ t => .o 0 t
  | s => s
section
variable {st st' : Store} {S S' : Nat → Prop}
theorem GR.shr (hS : ∀ n, S n → S' n) : ∀ {env : Env} {Γ : List Sl} {M : List Nat}, GR st S env Γ M → (∀ n ∈ M, S' n) → GR st S' env (Γ.map shS) []
  | _, _, _, .nil, _ => .nil
  | _, _, _, .cons (sl := sl) a b, h => by
    have r := GR.shr hS b fun n hn => h n (List.mem_append_right _ hn)
    refine GR.cons (M := []) (N := []) ?_ r
    cases sl with
    | any => rfl
    | al i => exact a
    | o j t =>
      obtain ⟨w, e, q⟩ := a
      exact ⟨w, e, q.share hS fun n hn => h n (List.mem_append_left _ hn)⟩
theorem DR.shr (hS : ∀ n, S n → S' n) {env : Env} : ∀ {δ : List W} {Δ : List Sl} {M : List Nat}, DR st S env δ Δ M → (∀ n ∈ M, S' n) → DR st S' env δ (Δ.map shS) []
  | _, _, _, .nil, _ => .nil
  | _, _, _, .cons (sl := sl) a b, h => by
    have r := DR.shr hS b fun n hn => h n (List.mem_append_right _ hn)
    refine DR.cons (M := []) (N := []) ?_ r
    cases sl with
    | any => rfl
    | al i => exact ⟨rfl, a.2⟩
    | o j t => exact (show At st S j _ t _ from a).share hS fun n hn => h n (List.mem_append_left _ hn)
end
end VS.TR
set_option Elab.async false
set_option linter.all false
set_option maxRecDepth 100000
set_option maxHeartbeats 1000000
/-! TRj: a written table with pairs as keys. -/
namespace VS.TR
open PySem PySem.Spec PyProof.Rows L2 VS
open Te (tr)
end VS.TR
set_option Elab.async false
set_option linter.all false
set_option maxRecDepth 100000
set_option maxHeartbeats 1000000
/-! TRk: values that may be None, told apart. -/
namespace VS.TR
open PySem PySem.Spec PyProof.Rows L2 VS
open Te (tr)
end VS.TR
set_option Elab.async false
set_option linter.all false
set_option maxRecDepth 100000
set_option maxHeartbeats 1000000
/-! TRl: the pairs of a dict with numbers, the smaller one first. -/
namespace VS.TR
open PySem PySem.Spec PyProof.Rows L2 VS
open Te (tr)
end VS.TR
set_option Elab.async false
set_option linter.all false
set_option maxRecDepth 100000
set_option maxHeartbeats 1000000
/-! TRm: what only reads and gives a new list of data leaves everything as it was. -/
namespace VS.TR
open PySem PySem.Spec PyProof.Rows L2 VS
open Te (tr)
end VS.TR
set_option Elab.async false
set_option linter.all false
set_option maxRecDepth 100000
set_option maxHeartbeats 1000000
/-! TRn: a loop over a list of one's own, its items lent one by one and given back as they were. -/
namespace VS.TR
open PySem PySem.Spec PyProof.Rows L2 VS
open Te (tr)
end VS.TR
set_option Elab.async false
set_option linter.all false
set_option maxRecDepth 100000
set_option maxHeartbeats 1000000
/-! TRo: a dict display with one entry. -/
namespace VS.TR
open PySem PySem.Spec PyProof.Rows L2 VS
open Te (tr)
open Ky (ky)
end VS.TR
set_option Elab.async false
set_option linter.all false
set_option maxRecDepth 100000
set_option maxHeartbeats 1000000
/-! TRp: texts; values of any kind. -/
namespace VS.TR
open PySem PySem.Spec PyProof.Rows L2 VS
open PySem.W (Datum DatumOrd)
open Te (tr)
section
variable {pi : List Nat} {Γ Γ1 : List Sl} {κ : Sl → List Sl → Prop}
noncomputable def atSG (x : Str) (i : Int) : Option Str := if x.length ≤ sizeLine then (strAt x i).bind fun y => match y with | .str z => some z | _ => none else none
theorem o_ixStr {x v : Str} {i : Int} (h : atSG x i = some v) (k : κ (D v) Γ) : Of pi Γ (f2 fIx) [D x, D i] κ := by
  unfold atSG at h
  split at h
  · rename_i hc
    cases e : strAt x i with
    | none => rw [e] at h; cases h
    | some y =>
      rw [e] at h
      cases y with
      | str z =>
        cases h
        exact o_dd (fun st => by simp only [fIx, if_pos hc, e]) k
      | _ => cases h
  · cases h
/-! ### any values: trees -/
instance : Te Tr := ⟨fun t => t⟩
end
end VS.TR
set_option Elab.async false
set_option linter.all false
set_option maxRecDepth 100000
set_option maxHeartbeats 1000000
/-! TRq: another name for one of two lists, for one statement. -/
namespace VS.TR
open PySem PySem.Spec PyProof.Rows L2 VS
open Te (tr)
end VS.TR
set_option Elab.async false
set_option linter.all false
set_option maxRecDepth 100000
set_option maxHeartbeats 1000000
/-! TRr: min and max of a pair. -/
namespace VS.TR
open PySem PySem.Spec PyProof.Rows L2 VS
open Te (tr)
instance {α β γ δ : Type} [Te α] [Te β] [Te γ] [Te δ] [Da α] [Da β] [Da γ] [Da δ] : Da (T4 α β γ δ) := ⟨fun p => .tuple [Da.da p.a, Da.da p.b, Da.da p.c, Da.da p.d], fun p => by
  show tupT [tr p.a, tr p.b, tr p.c, tr p.d] = _
  rw [Da.eq, Da.eq, Da.eq, Da.eq]
  rfl⟩
end VS.TR
set_option Elab.async false
set_option linter.all false
set_option maxRecDepth 100000
set_option maxHeartbeats 1000000
/-! TRs: dicts made of pairs of numbers. -/
namespace VS.TR
open PySem PySem.Spec PyProof.Rows L2 VS
open Te (tr)
end VS.TR
set_option Elab.async false
set_option linter.all false
set_option maxRecDepth 100000
set_option maxHeartbeats 1000000
/-! TRt: a part of the script. -/
namespace VS.TR
open PySem PySem.Spec PyProof.Rows L2 VS
open Te (tr)
end VS.TR
set_option Elab.async false
set_option linter.all false
set_option maxRecDepth 100000
set_option maxHeartbeats 1000000
/-! TRu: lists of four unlike things. -/
namespace VS.TR
open PySem PySem.Spec PyProof.Rows L2 VS
open Te (tr)
structure HL4 (α β γ δ : Type) where
  a : α
  b : β
  c : γ
  d : δ
instance {α β γ δ : Type} [Te α] [Te β] [Te γ] [Te δ] : Te (HL4 α β γ δ) := ⟨fun s => .l [tr s.a, tr s.b, tr s.c, tr s.d]⟩
end VS.TR
set_option Elab.async false
set_option linter.all false
set_option maxRecDepth 100000
set_option maxHeartbeats 1000000
/-! TRv: list.index of texts. -/
namespace VS.TR
open PySem PySem.Spec PyProof.Rows L2 VS
open Te (tr)
end VS.TR
set_option Elab.async false
set_option linter.all false
set_option maxRecDepth 100000
set_option maxHeartbeats 1000000
/-! TRw: a, b = A, [] in two steps; `in` a tuple of three numbers. -/
namespace VS.TR
open PySem PySem.Spec PyProof.Rows L2 VS
open Te (tr)
end VS.TR
set_option Elab.async false
set_option linter.all false
set_option maxRecDepth 100000
set_option maxHeartbeats 1000000
/-! TRx: a loop over pairs of lists, both changed: for a, b in found: a.append(..); b.append(..). -/
namespace VS.TR
open PySem PySem.Spec PyProof.Rows L2 VS
open PySem.W (Datum DatumOrd)
open Te (tr)
end VS.TR
set_option Elab.async false
set_option linter.all false
set_option maxRecDepth 100000
set_option maxHeartbeats 1000000
/-! TRy: how often a text stands in a list; slices with a step; other names for two lists. -/
namespace VS.TR
open PySem PySem.Spec PyProof.Rows L2 VS
open PySem.W (Datum DatumOrd)
open Te (tr)
end VS.TR
set_option Elab.async false
set_option linter.all false
set_option maxRecDepth 100000
set_option maxHeartbeats 1000000
/-! TRz: exceptions as values, typed. -/
namespace VS.TR
open PySem PySem.Spec PyProof.Rows L2 VS
open Te (tr)
instance : Te Er := ⟨fun e => .e e⟩
instance : En PyData := { en := fun d => d, dep := 0, rd := fun st w x h => by rw [rp_d h]; rfl }
section
variable {pi : List Nat} {Γ : List Sl} {κ : Sl → List Sl → Prop} {ns : List ErN}
theorem Sat.err {B : Base} {S : Nat → Prop} {env : Env} {Δ : List Sl} {δ : List W} {st : Store} {w : W} {s : Sl} (q : δ.length = Δ.length) (h : Sat pi B S Γ env (Δ ++ [s]) (δ ++ [w]) st) (x : Er) : ∃ S', Sat pi B S' Γ env (Δ ++ [D x]) (δ ++ [.c st.length]) (st ++ [.err x]) := by
  have f := h.fresh q (j := 0) (x := .err x) (t := .e x) fun N _ => ⟨[], .e, fun a => by simp⟩
  obtain ⟨S2, _, g⟩ := f.shareD q
  exact ⟨S2, g⟩
theorem x_er0 {x : Str} {ca : Ev} (h : Xe pi Γ ca fun s Γ1 => κ (D (⟨x, none⟩ : Er)) Γ1) : Xe pi Γ (mkEr0 x ca) κ := fun B S Δ env δ st q => by
  obtain ⟨w, st1, S1, s, Γ', h1, h2, h3⟩ := h B S Δ env δ st q
  obtain ⟨S2, g⟩ := h2.err q.lenD ⟨x, none⟩
  exact ⟨_, _, S2, _, Γ', by simp only [mkEr0, h1, Res.bind], g, h3⟩
theorem x_erI {x f : Str} {ca : Ev} {y : PyData} (h : Xe pi Γ ca fun s Γ1 => Vw Γ1 s (.d y) ∧ κ (D (⟨x, some (f, y)⟩ : Er)) Γ1) : Xe pi Γ (mkErI x f ca) κ := fun B S Δ env δ st q => by
  obtain ⟨w, st1, S1, s, Γ', h1, h2, h3, h4⟩ := h B S Δ env δ st q
  have r := h2.view q.lenD (k := 0) rfl rfl h3
  cases r
  obtain ⟨S2, g⟩ := h2.err q.lenD ⟨x, some (f, y)⟩
  exact ⟨_, _, S2, _, Γ', by simp only [mkErI, h1, Res.bind], g, h4⟩
theorem x_erD {α : Type} [Te α] [Da α] {x f : Str} {ca : Ev} {v : α} (h : Xe pi Γ ca fun s Γ1 => Vw Γ1 s (tr v) ∧ κ (D (⟨x, some (f, Da.da v)⟩ : Er)) Γ1) : Xe pi Γ (mkErI x f ca) κ :=
  x_erI fun B S Δ env δ st q => by
    obtain ⟨w, st1, S1, s, Γ', h1, h2, h3, h4⟩ := h B S Δ env δ st q
    rw [Da.eq v] at h3
    exact ⟨w, st1, S1, s, Γ', h1, h2, h3, h4⟩
theorem x_isEr {T : Str} {ca : Ev} {er : Er} (hc : (ns.any fun p => decide (p.1 = er.cls)) = true) (h : Xe pi Γ ca fun s Γ1 => Vw Γ1 s (tr er) ∧ κ (D (erS er.cls T)) Γ1) : Xe pi Γ (isEr ns T ca) κ := fun B S Δ env δ st q => by
  obtain ⟨w, st1, S1, s, Γ', h1, h2, h3, h4⟩ := h B S Δ env δ st q
  have r := h2.view q.lenD (k := 0) rfl rfl h3
  have r : Rp st1 w (.e er) := r
  cases r with
  | e hn => exact ⟨_, st1, S1, _, Γ', by simp only [isEr, h1, Res.bind, hn, hc, if_true], (h2.drop q.lenD).pushD _, h4⟩
theorem x_fldEr {f : Str} {ca : Ev} {er : Er} {y : PyData} (hf : er.fs = some (f, y)) (hi : (er.cls, some f) ∈ ns) (h : Xe pi Γ ca fun s Γ1 => Vw Γ1 s (tr er) ∧ κ (.o 0 (.d y)) Γ1) : Xe pi Γ (fldEr ns f ca) κ := fun B S Δ env δ st q => by
  obtain ⟨w, st1, S1, s, Γ', h1, h2, h3, h4⟩ := h B S Δ env δ st q
  have r := h2.view q.lenD (k := 0) rfl rfl h3
  have r : Rp st1 w (.e er) := r
  cases r with
  | e hn => exact ⟨_, st1, S1, _, Γ', by simp only [fldEr, h1, Res.bind, hn, hf, hi, and_self, if_true], (h2.drop q.lenD).pushD _, h4⟩
def isErG (ns : List ErN) (e : Er) (T : Str) : Option Bool := if (ns.any fun p => decide (p.1 = e.cls)) = true then some (erS e.cls T) else none
theorem x_isErG {T : Str} {ca : Ev} {er : Er} {b : Bool} (hb : isErG ns er T = some b) (h : Xe pi Γ ca fun s Γ1 => Vw Γ1 s (tr er) ∧ κ (D b) Γ1) : Xe pi Γ (isEr ns T ca) κ := by
  unfold isErG at hb
  split at hb
  · rename_i hc
    cases hb
    exact x_isEr hc h
  · cases hb
def fldG (ns : List ErN) (e : Er) (f : Str) : Option PyData := match e.fs with
  | some (g, y) => if g = f ∧ (e.cls, some f) ∈ ns then some y else none
  | none => none
theorem x_fldG {f : Str} {ca : Ev} {er : Er} {y : PyData} (hy : fldG ns er f = some y) (h : Xe pi Γ ca fun s Γ1 => Vw Γ1 s (tr er) ∧ κ (D y) Γ1) : Xe pi Γ (fldEr ns f ca) κ := by
  unfold fldG at hy
  split at hy
  · rename_i g z e
    split at hy
    · rename_i hc
      cases hy
      obtain ⟨rfl, hi⟩ := hc
      exact x_fldEr e hi h
    · cases hy
  · cases hy
end
end VS.TR
set_option Elab.async false
set_option linter.all false
set_option maxRecDepth 100000
set_option maxHeartbeats 4000000
namespace VS.TR
open PySem PySem.Spec PyProof.Rows L2
open PySem.W (Datum DatumOrd)
open Te (tr)
end VS.TR
set_option Elab.async false
set_option linter.all false
set_option maxRecDepth 100000
set_option maxHeartbeats 4000000
namespace VS.TR
open PySem PySem.Spec PyProof.Rows L2
open PySem.W (Datum DatumOrd)
open Te (tr)
end VS.TR
set_option Elab.async false
set_option linter.all false
set_option maxRecDepth 100000
set_option maxHeartbeats 4000000
namespace VS.TR
open PySem PySem.Spec PyProof.Rows L2
open PySem.W (Datum DatumOrd)
open Te (tr)
end VS.TR
set_option Elab.async false
set_option linter.all false
set_option maxRecDepth 100000
set_option maxHeartbeats 4000000
namespace VS.TR
open PySem PySem.Spec PyProof.Rows L2
open PySem.W (Datum DatumOrd)
open Te (tr)
end VS.TR
set_option Elab.async false
set_option linter.all false
set_option maxRecDepth 100000
set_option maxHeartbeats 4000000
namespace VS.TR
open PySem PySem.Spec PyProof.Rows L2
open PySem.W (Datum DatumOrd)
open Te (tr)
end VS.TR
set_option Elab.async false
set_option linter.all false
set_option maxRecDepth 100000
set_option maxHeartbeats 4000000
namespace VS.TR
open PySem PySem.Spec PyProof.Rows L2
open PySem.W (Datum DatumOrd)
open Te (tr)
end VS.TR
set_option Elab.async false
set_option linter.all false
set_option maxRecDepth 100000
set_option maxHeartbeats 4000000
namespace VS.TR
open PySem PySem.Spec PyProof.Rows L2
open PySem.W (Datum DatumOrd)
open Te (tr)
end VS.TR
set_option Elab.async false
set_option linter.all false
set_option maxRecDepth 100000
set_option maxHeartbeats 4000000
namespace VS.TR
open PySem PySem.Spec PyProof.Rows L2
open PySem.W (Datum DatumOrd)
open Te (tr)
end VS.TR
set_option Elab.async false
set_option linter.all false
set_option maxRecDepth 100000
set_option maxHeartbeats 4000000
namespace VS.TR
open PySem PySem.Spec PyProof.Rows L2
open PySem.W (Datum DatumOrd)
open Te (tr)
end VS.TR
set_option Elab.async false
set_option linter.all false
set_option maxRecDepth 100000
set_option maxHeartbeats 4000000
namespace VS.TR
open PySem PySem.Spec PyProof.Rows L2
open PySem.W (Datum DatumOrd)
open Te (tr)
/-- _law_well(script, k) -/
noncomputable def T_law_well_2 (a_script : (List Int)) (a_k : Int) : Out ((List Int)) := Ct.fin (σ := Unit) (τ := Unit) (ρ := (List Int)) (
  ob (cd (decide (a_k < (a_script.length : Int))) (((L2.atI a_script a_k)).bind fun at1 => some at1) (some (0 : Int))) fun w4 =>
  lt w4 fun cell6 =>
  ob (powG (10 : Int) (18 : Int)) fun pow7 =>
  ob (powG (10 : Int) (31 : Int)) fun pow9 =>
  ob (modG (absT cell6) (pow9 + (33 : Int))) fun mod11 =>
  ob (mulG (6700417 : Int) a_k) fun mul13 =>
  .rt (([(max2T (0 : Int) (cell6 - pow7)), ((mod11 + mul13) + (257 : Int)), (0 : Int)] : List Int)))
theorem ok_law_well_2  (a_script : (List Int)) (a_k : Int) : FnS RD.f_law_well_2 [Sc a_script, D a_k] (T_law_well_2 a_script a_k) (fun (r : (List Int)) => O 1 r) (fun (r : (List Int)) => [Sc a_script, D a_k]) := by
  unfold RD.f_law_well_2 T_law_well_2
  exact (fn_ok (k := 1) (Γa := [Sc a_script, D a_k]) (V := fun _ => []) (U := fun _ => []) [0, 1] (pis_lt (n := 2) rfl rfl) (fun _ => rfl) (q_ob fun w4 h5 =>
  (q_let (fun (x : Int) => D x) (by decide) (fun _ => rfl) (x_ifO (fun (x : Int) => D x) h5 (t_boo (x_bin (a_cons (x_cp rfl (a_cons (x_bcall (a_cons (x_cp rfl (a_nil (o_lenS (a_nil (o_lt ⟨_, rfl, ⟨rfl, rfl⟩⟩)))))))))))) (fun q3 => (bnd q3 fun at1 h2 q3 => (by cases q3; exact (x_bin (a_cons (x_cp rfl (a_cons (x_cp rfl (a_nil (o_ixS h2 ⟨rfl, rfl⟩)))))))))) (fun q3 => (by cases q3; exact (x_cst (x := .int 0) ⟨rfl, rfl⟩))) ⟨rfl, rfl⟩) fun cell6 =>
  (q_re (Γ2 := [Sc a_script, D a_k, D cell6]) rfl (q_ob fun pow7 h8 =>
  q_ob fun pow9 h10 =>
  q_ob fun mod11 h12 =>
  q_ob fun mul13 h14 =>
  (q_ret (x_lst 0 (a_cons (x_bcall (a_cons (x_cst (x := .int 0) (a_cons (x_bin (a_cons (x_cp rfl (a_cons (x_bin (a_cons (x_cst (x := .int 10) (a_cons (x_cst (x := .int 18) (a_nil (o_pow h8 (a_nil (o_sub (a_nil (o_max2 (a_cons (x_bin (a_cons (x_bin (a_cons (x_bin (a_cons (x_bcall (a_cons (x_bcall (a_cons (x_cp rfl (a_nil (o_abs (a_nil (o_int (a_cons (x_bin (a_cons (x_bin (a_cons (x_cst (x := .int 10) (a_cons (x_cst (x := .int 31) (a_nil (o_pow h10 (a_cons (x_cst (x := .int 33) (a_nil (o_add (a_nil (o_mod h12 (a_cons (x_bin (a_cons (x_cst (x := .int 6700417) (a_cons (x_cp rfl (a_nil (o_mul h14 (a_nil (o_add (a_cons (x_cst (x := .int 257) (a_nil (o_add (a_cons (x_cst (x := .int 0) (a_nil ⟨_, (.d (.d (.d .nil))), ⟨rfl, rfl, (.same (by decide) (.same (by decide) .nil))⟩⟩))))))))))))))))))))))))))))))))))))))))))))))))))))))))))))))))))))))))))))
/-- _law_pick(well, bound) -/
noncomputable def T_law_pick (a_well : (List Int)) (a_bound : Int) : Out (Int × (List Int)) := Ct.fin (σ := Unit) (τ := Unit) (ρ := Int × (List Int)) (
  ob (L2.atI a_well (0 : Int)) fun at1 =>
  cd (decide ((0 : Int) < at1))
  (ob (L2.atI a_well (0 : Int)) fun at3 =>
  ob (modG at3 a_bound) fun mod5 =>
  lt mod5 fun found7 =>
  ob (L2.atI a_well (0 : Int)) fun at8 =>
  ob (divG at8 a_bound) fun div10 =>
  ob (setG a_well (0 : Int) div10) fun well12 =>
  .rt (found7, well12))
  (ob (L2.atI a_well (2 : Int)) fun at14 =>
  ob (setG a_well (2 : Int) (at14 + (1 : Int))) fun well16 =>
  ob (L2.atI well16 (1 : Int)) fun at18 =>
  ob (L2.atI well16 (2 : Int)) fun at20 =>
  ob (mulG (524287 : Int) at20) fun mul22 =>
  ob (powG (at18 + mul22) (5 : Int)) fun pow24 =>
  ob (powG (10 : Int) (33 : Int)) fun pow26 =>
  ob (modG pow24 (pow26 + (61 : Int))) fun mod28 =>
  lt mod28 fun stirred30 =>
  ob (L2.atI well16 (2 : Int)) fun at31 =>
  ob (mulG (2097143 : Int) at31) fun mul33 =>
  ob (powG (stirred30 + mul33) (3 : Int)) fun pow35 =>
  ob (powG (10 : Int) (27 : Int)) fun pow37 =>
  ob (modG pow35 (pow37 + (103 : Int))) fun mod39 =>
  lt mod39 fun stirred41 =>
  ob (divG stirred41 (4093 : Int)) fun div42 =>
  ob (modG div42 a_bound) fun mod44 =>
  .rt (mod44, well16)))
theorem ok_law_pick  (a_well : (List Int)) (a_bound : Int) : FnS RD.f_law_pick [O 1 a_well, D a_bound] (T_law_pick a_well a_bound) (fun (r : Int × (List Int)) => D r.1) (fun (r : Int × (List Int)) => [O 1 r.2, D a_bound]) := by
  unfold RD.f_law_pick T_law_pick
  exact (fn_ok (k := 2) (Γa := [O 1 a_well, D a_bound]) (V := fun _ => []) (U := fun _ => []) [0, 1] (pis_lt (n := 2) rfl rfl) (fun _ => rfl) (q_ob fun at1 h2 =>
  (q_ifs (q_if (t_boo (x_bin (a_cons (x_bin (a_cons (x_al rfl (a_cons (x_cst (x := .int 0) (a_nil (o_ix (xs := a_well) (vi_da (Vw.al rfl)) h2 (a_cons (x_cst (x := .int 0) (a_nil (o_gt ⟨_, rfl, ⟨rfl, rfl⟩⟩))))))))))))))
  (q_assoc (q_ob fun at3 h4 =>
  q_ob fun mod5 h6 =>
  (q_let (fun (x : Int) => D x) (by decide) (fun _ => rfl) (x_bin (a_cons (x_bcall (a_cons (x_bin (a_cons (x_al rfl (a_cons (x_cst (x := .int 0) (a_nil (o_ix (xs := a_well) (vi_da (Vw.al rfl)) h4 (a_nil (o_int (a_cons (x_cp rfl (a_nil (o_mod h6 ⟨rfl, rfl⟩))))))))))))))))) fun found7 =>
  (q_re (Γ2 := [O 1 a_well, D a_bound, D found7, Sl.any]) rfl (q_assoc (q_ob fun at8 h9 =>
  q_ob fun div10 h11 =>
  q_ob fun well12 h13 =>
  (q_asgG (x_bin (a_cons (x_bin (a_cons (x_al rfl (a_cons (x_cst (x := .int 0) (a_nil (o_ix (xs := a_well) (vi_da (Vw.al rfl)) h9 (a_cons (x_cp rfl (a_nil (o_div h11 (w_setL rfl (x_cst (x := .int 0) ⟨rfl, rfl⟩) h13 (.d .nil) ((q_rets (q_ret (x_cp rfl ⟨rfl, rfl, (.same (by decide) (.same (by decide) .nil))⟩)))))))))))))))))))))))))
  (q_re (Γ2 := [O 1 a_well, D a_bound, Sl.any, Sl.any]) rfl (q_skip (q_ob fun at14 h15 =>
  q_ob fun well16 h17 =>
  (q_asgG (x_bin (a_cons (x_bin (a_cons (x_al rfl (a_cons (x_cst (x := .int 2) (a_nil (o_ix (xs := a_well) (vi_da (Vw.al rfl)) h15 (a_cons (x_cst (x := .int 1) (a_nil (o_add (w_setL rfl (x_cst (x := .int 2) ⟨rfl, rfl⟩) h17 (.d .nil) (q_ob fun at18 h19 =>
  q_ob fun at20 h21 =>
  q_ob fun mul22 h23 =>
  q_ob fun pow24 h25 =>
  q_ob fun pow26 h27 =>
  q_ob fun mod28 h29 =>
  (q_let (fun (x : Int) => D x) (by decide) (fun _ => rfl) (x_bin (a_cons (x_bcall (a_cons (x_bin (a_cons (x_bin (a_cons (x_bin (a_cons (x_al rfl (a_cons (x_cst (x := .int 1) (a_nil (o_ix (xs := well16) (vi_da (Vw.al rfl)) h19 (a_cons (x_bin (a_cons (x_cst (x := .int 524287) (a_cons (x_bin (a_cons (x_al rfl (a_cons (x_cst (x := .int 2) (a_nil (o_ix (xs := well16) (vi_da (Vw.al rfl)) h21 (a_nil (o_mul h23 (a_nil (o_add (a_cons (x_cst (x := .int 5) (a_nil (o_pow h25 (a_nil (o_int (a_cons (x_bin (a_cons (x_bin (a_cons (x_cst (x := .int 10) (a_cons (x_cst (x := .int 33) (a_nil (o_pow h27 (a_cons (x_cst (x := .int 61) (a_nil (o_add (a_nil (o_mod h29 ⟨rfl, rfl⟩))))))))))))))))))))))))))))))))))))))))))))))))))))) fun stirred30 =>
  (q_re (Γ2 := [O 1 well16, D a_bound, Sl.any, D stirred30]) rfl (q_ob fun at31 h32 =>
  q_ob fun mul33 h34 =>
  q_ob fun pow35 h36 =>
  q_ob fun pow37 h38 =>
  q_ob fun mod39 h40 =>
  (q_let (fun (x : Int) => D x) (by decide) (fun _ => rfl) (x_bin (a_cons (x_bcall (a_cons (x_bin (a_cons (x_bin (a_cons (x_cp rfl (a_cons (x_bin (a_cons (x_cst (x := .int 2097143) (a_cons (x_bin (a_cons (x_al rfl (a_cons (x_cst (x := .int 2) (a_nil (o_ix (xs := well16) (vi_da (Vw.al rfl)) h32 (a_nil (o_mul h34 (a_nil (o_add (a_cons (x_cst (x := .int 3) (a_nil (o_pow h36 (a_nil (o_int (a_cons (x_bin (a_cons (x_bin (a_cons (x_cst (x := .int 10) (a_cons (x_cst (x := .int 27) (a_nil (o_pow h38 (a_cons (x_cst (x := .int 103) (a_nil (o_add (a_nil (o_mod h40 ⟨rfl, rfl⟩))))))))))))))))))))))))))))))))))))))))))))))) fun stirred41 =>
  (q_re (Γ2 := [O 1 well16, D a_bound, Sl.any, D stirred41]) rfl (q_ob fun div42 h43 =>
  q_ob fun mod44 h45 =>
  (q_ret (x_bin (a_cons (x_bcall (a_cons (x_bin (a_cons (x_cp rfl (a_cons (x_cst (x := .int 4093) (a_nil (o_div h43 (a_nil (o_int (a_cons (x_cp rfl (a_nil (o_mod h45 ⟨rfl, rfl, (.same (by decide) (.same (by decide) .nil))⟩)))))))))))))))))))))))))))))))))))))))))))))))
end VS.TR
set_option Elab.async false
set_option linter.all false
set_option maxRecDepth 100000
set_option maxHeartbeats 4000000
namespace VS.TR
open PySem PySem.Spec PyProof.Rows L2
open PySem.W (Datum DatumOrd)
open Te (tr)
/-- _law_created(text, spot, bound) -/
noncomputable def T_law_created (a_text : Str) (a_spot : PyData) (a_bound : PyData) : Out ((List Er)) := Ct.fin (σ := Unit) (τ := Unit) (ρ := (List Er)) (
  lt ([(⟨("InvalidLayout" : Str), some (("index" : Str), Da.da a_spot)⟩ : Er), (⟨("InvalidRows" : Str), some (("index" : Str), Da.da a_spot)⟩ : Er), (⟨("InvalidRings" : Str), some (("index" : Str), Da.da a_spot)⟩ : Er), (⟨("InvalidOpens" : Str), some (("index" : Str), Da.da a_spot)⟩ : Er), (⟨("InvalidText" : Str), some (("part" : Str), Da.da a_spot)⟩ : Er)] : List Er) fun found1 =>
  ob (gd (found1.length + ([(⟨("TooMany" : Str), some (("limit" : Str), Da.da a_bound)⟩ : Er), (⟨("Farther" : Str), some (("moves" : Str), Da.da a_bound)⟩ : Er), (⟨("InvalidPieces" : Str), none⟩ : Er), (⟨("InvalidEnd" : Str), none⟩ : Er), (⟨("InvalidMove" : Str), none⟩ : Er)] : List Er).length ≤ sizeLine) (found1 ++ ([(⟨("TooMany" : Str), some (("limit" : Str), Da.da a_bound)⟩ : Er), (⟨("Farther" : Str), some (("moves" : Str), Da.da a_bound)⟩ : Er), (⟨("InvalidPieces" : Str), none⟩ : Er), (⟨("InvalidEnd" : Str), none⟩ : Er), (⟨("InvalidMove" : Str), none⟩ : Er)] : List Er))) fun cat2 =>
  lt cat2 fun found4 =>
  ob (gd (found4.length + ([(⟨("InvalidMoves" : Str), none⟩ : Er), (⟨("InvalidSight" : Str), none⟩ : Er), (⟨("InvalidNumber" : Str), none⟩ : Er), (⟨("InvalidCommand" : Str), none⟩ : Er)] : List Er).length ≤ sizeLine) (found4 ++ ([(⟨("InvalidMoves" : Str), none⟩ : Er), (⟨("InvalidSight" : Str), none⟩ : Er), (⟨("InvalidNumber" : Str), none⟩ : Er), (⟨("InvalidCommand" : Str), none⟩ : Er)] : List Er))) fun cat5 =>
  lt cat5 fun found7 =>
  ob (gd (found7.length + ([(⟨("NotBetween" : Str), none⟩ : Er), (⟨("MixedWays" : Str), none⟩ : Er), (⟨("NotFitting" : Str), none⟩ : Er), (⟨("Clash" : Str), none⟩ : Er), (⟨("NothingToUndo" : Str), none⟩ : Er)] : List Er).length ≤ sizeLine) (found7 ++ ([(⟨("NotBetween" : Str), none⟩ : Er), (⟨("MixedWays" : Str), none⟩ : Er), (⟨("NotFitting" : Str), none⟩ : Er), (⟨("Clash" : Str), none⟩ : Er), (⟨("NothingToUndo" : Str), none⟩ : Er)] : List Er))) fun cat8 =>
  .rt (cat8))
theorem ok_law_created  (a_text : Str) (a_spot : PyData) (a_bound : PyData) : FnS RD.f_law_created [D a_text, D a_spot, D a_bound] (T_law_created a_text a_spot a_bound) (fun (r : (List Er)) => O 1 r) (fun (r : (List Er)) => [D a_text, D a_spot, D a_bound]) := by
  unfold RD.f_law_created T_law_created
  exact (fn_ok (k := 1) (Γa := [D a_text, D a_spot, D a_bound]) (V := fun _ => []) (U := fun _ => []) [0, 1, 2] (pis_lt (n := 3) rfl rfl) (fun _ => rfl) ((q_let (fun (x : (List Er)) => O 1 x) (by decide) (fun _ => rfl) (x_lst 0 (a_cons (x_erD (v := a_spot) (x_cp rfl ⟨.o, (a_cons (x_erD (v := a_spot) (x_cp rfl ⟨.o, (a_cons (x_erD (v := a_spot) (x_cp rfl ⟨.o, (a_cons (x_erD (v := a_spot) (x_cp rfl ⟨.o, (a_cons (x_erD (v := a_spot) (x_cp rfl ⟨.o, (a_nil ⟨_, (.o (.o (.o (.o (.o .nil))))), ⟨rfl, rfl⟩⟩)⟩)))⟩)))⟩)))⟩)))⟩)))) fun found1 =>
  (q_re (Γ2 := [D a_text, D a_spot, D a_bound, O 1 found1]) rfl (q_ob fun cat2 h3 =>
  (q_let (fun (x : (List Er)) => O 1 x) (by decide) (fun _ => rfl) (x_bin (a_cons (x_al rfl (a_cons (x_lst 0 (a_cons (x_erD (v := a_bound) (x_cp rfl ⟨.o, (a_cons (x_erD (v := a_bound) (x_cp rfl ⟨.o, (a_cons (x_er0 (x_cp rfl (a_cons (x_er0 (x_cp rfl (a_cons (x_er0 (x_cp rfl (a_nil ⟨_, (.o (.o (.o (.o (.o .nil))))), (a_nil (o_cat (Vi.a1 rfl) Vi.o1 h3 ⟨rfl, rfl⟩))⟩))))))))))⟩)))⟩)))))))) fun found4 =>
  (q_re (Γ2 := [D a_text, D a_spot, D a_bound, O 1 found4]) rfl (q_ob fun cat5 h6 =>
  (q_let (fun (x : (List Er)) => O 1 x) (by decide) (fun _ => rfl) (x_bin (a_cons (x_al rfl (a_cons (x_lst 0 (a_cons (x_er0 (x_cp rfl (a_cons (x_er0 (x_cp rfl (a_cons (x_er0 (x_cp rfl (a_cons (x_er0 (x_cp rfl (a_nil ⟨_, (.o (.o (.o (.o .nil)))), (a_nil (o_cat (Vi.a1 rfl) Vi.o1 h6 ⟨rfl, rfl⟩))⟩)))))))))))))))))) fun found7 =>
  (q_re (Γ2 := [D a_text, D a_spot, D a_bound, O 1 found7]) rfl (q_ob fun cat8 h9 =>
  (q_ret (x_bin (a_cons (x_al rfl (a_cons (x_lst 0 (a_cons (x_er0 (x_cp rfl (a_cons (x_er0 (x_cp rfl (a_cons (x_er0 (x_cp rfl (a_cons (x_er0 (x_cp rfl (a_cons (x_er0 (x_cp rfl (a_nil ⟨_, (.o (.o (.o (.o (.o .nil))))), (a_nil (o_cat (Vi.a1 rfl) Vi.o1 h9 ⟨rfl, rfl, (.same (by decide) (.same (by decide) (.same (by decide) .nil)))⟩))⟩)))))))))))))))))))))))))))))))))
/-- _law_kinds(error) -/
noncomputable def T_law_kinds (a_error : Er) : Out ((List Bool)) := Ct.fin (σ := Unit) (τ := Unit) (ρ := (List Bool)) (
  ob (isErG ernsAll a_error ("InvalidLayout" : Str)) fun is1 =>
  ob (isErG ernsAll a_error ("InvalidRows" : Str)) fun is3 =>
  ob (isErG ernsAll a_error ("InvalidRings" : Str)) fun is5 =>
  lt ([is1, is3, is5] : List Bool) fun found7 =>
  ob (isErG ernsAll a_error ("InvalidOpens" : Str)) fun is8 =>
  ob (isErG ernsAll a_error ("InvalidText" : Str)) fun is10 =>
  ob (isErG ernsAll a_error ("TooMany" : Str)) fun is12 =>
  ob (gd (found7.length + ([is8, is10, is12] : List Bool).length ≤ sizeLine) (found7 ++ ([is8, is10, is12] : List Bool))) fun cat14 =>
  lt cat14 fun found16 =>
  ob (isErG ernsAll a_error ("Farther" : Str)) fun is17 =>
  ob (isErG ernsAll a_error ("InvalidPieces" : Str)) fun is19 =>
  ob (isErG ernsAll a_error ("InvalidEnd" : Str)) fun is21 =>
  ob (gd (found16.length + ([is17, is19, is21] : List Bool).length ≤ sizeLine) (found16 ++ ([is17, is19, is21] : List Bool))) fun cat23 =>
  lt cat23 fun found25 =>
  ob (isErG ernsAll a_error ("InvalidMove" : Str)) fun is26 =>
  ob (isErG ernsAll a_error ("InvalidMoves" : Str)) fun is28 =>
  ob (isErG ernsAll a_error ("InvalidSight" : Str)) fun is30 =>
  ob (gd (found25.length + ([is26, is28, is30] : List Bool).length ≤ sizeLine) (found25 ++ ([is26, is28, is30] : List Bool))) fun cat32 =>
  lt cat32 fun found34 =>
  ob (isErG ernsAll a_error ("InvalidNumber" : Str)) fun is35 =>
  ob (isErG ernsAll a_error ("InvalidCommand" : Str)) fun is37 =>
  ob (isErG ernsAll a_error ("NotBetween" : Str)) fun is39 =>
  ob (gd (found34.length + ([is35, is37, is39] : List Bool).length ≤ sizeLine) (found34 ++ ([is35, is37, is39] : List Bool))) fun cat41 =>
  lt cat41 fun found43 =>
  ob (isErG ernsAll a_error ("MixedWays" : Str)) fun is44 =>
  ob (isErG ernsAll a_error ("NotFitting" : Str)) fun is46 =>
  ob (isErG ernsAll a_error ("Clash" : Str)) fun is48 =>
  ob (gd (found43.length + ([is44, is46, is48] : List Bool).length ≤ sizeLine) (found43 ++ ([is44, is46, is48] : List Bool))) fun cat50 =>
  lt cat50 fun found52 =>
  ob (isErG ernsAll a_error ("NothingToUndo" : Str)) fun is53 =>
  ob (gd (found52.length + ([is53] : List Bool).length ≤ sizeLine) (found52 ++ ([is53] : List Bool))) fun cat55 =>
  .rt (cat55))
theorem ok_law_kinds {j_error : Nat} (a_error : Er) : FnS RD.f_law_kinds [O j_error a_error] (T_law_kinds a_error) (fun (r : (List Bool)) => O 1 r) (fun (r : (List Bool)) => [O j_error a_error]) := by
  unfold RD.f_law_kinds T_law_kinds
  exact (fn_ok (k := 1) (Γa := [O j_error a_error]) (V := fun _ => []) (U := fun _ => []) [0] (pis_lt (n := 1) rfl rfl) (fun _ => rfl) (q_ob fun is1 h2 =>
  q_ob fun is3 h4 =>
  q_ob fun is5 h6 =>
  (q_let (fun (x : (List Bool)) => O 1 x) (by decide) (fun _ => rfl) (x_lst 0 (a_cons (x_isErG (er := a_error) h2 (x_al rfl ⟨(.al rfl), (a_cons (x_isErG (er := a_error) h4 (x_al rfl ⟨(.al rfl), (a_cons (x_isErG (er := a_error) h6 (x_al rfl ⟨(.al rfl), (a_nil ⟨_, (.d (.d (.d .nil))), ⟨rfl, rfl⟩⟩)⟩)))⟩)))⟩)))) fun found7 =>
  (q_re (Γ2 := [O j_error a_error, O 1 found7]) rfl (q_ob fun is8 h9 =>
  q_ob fun is10 h11 =>
  q_ob fun is12 h13 =>
  q_ob fun cat14 h15 =>
  (q_let (fun (x : (List Bool)) => O 1 x) (by decide) (fun _ => rfl) (x_bin (a_cons (x_al rfl (a_cons (x_lst 0 (a_cons (x_isErG (er := a_error) h9 (x_al rfl ⟨(.al rfl), (a_cons (x_isErG (er := a_error) h11 (x_al rfl ⟨(.al rfl), (a_cons (x_isErG (er := a_error) h13 (x_al rfl ⟨(.al rfl), (a_nil ⟨_, (.d (.d (.d .nil))), (a_nil (o_cat (vi_da (Vw.al rfl)) (vi_da Vw.o) h15 ⟨rfl, rfl⟩))⟩)⟩)))⟩)))⟩)))))))) fun found16 =>
  (q_re (Γ2 := [O j_error a_error, O 1 found16]) rfl (q_ob fun is17 h18 =>
  q_ob fun is19 h20 =>
  q_ob fun is21 h22 =>
  q_ob fun cat23 h24 =>
  (q_let (fun (x : (List Bool)) => O 1 x) (by decide) (fun _ => rfl) (x_bin (a_cons (x_al rfl (a_cons (x_lst 0 (a_cons (x_isErG (er := a_error) h18 (x_al rfl ⟨(.al rfl), (a_cons (x_isErG (er := a_error) h20 (x_al rfl ⟨(.al rfl), (a_cons (x_isErG (er := a_error) h22 (x_al rfl ⟨(.al rfl), (a_nil ⟨_, (.d (.d (.d .nil))), (a_nil (o_cat (vi_da (Vw.al rfl)) (vi_da Vw.o) h24 ⟨rfl, rfl⟩))⟩)⟩)))⟩)))⟩)))))))) fun found25 =>
  (q_re (Γ2 := [O j_error a_error, O 1 found25]) rfl (q_ob fun is26 h27 =>
  q_ob fun is28 h29 =>
  q_ob fun is30 h31 =>
  q_ob fun cat32 h33 =>
  (q_let (fun (x : (List Bool)) => O 1 x) (by decide) (fun _ => rfl) (x_bin (a_cons (x_al rfl (a_cons (x_lst 0 (a_cons (x_isErG (er := a_error) h27 (x_al rfl ⟨(.al rfl), (a_cons (x_isErG (er := a_error) h29 (x_al rfl ⟨(.al rfl), (a_cons (x_isErG (er := a_error) h31 (x_al rfl ⟨(.al rfl), (a_nil ⟨_, (.d (.d (.d .nil))), (a_nil (o_cat (vi_da (Vw.al rfl)) (vi_da Vw.o) h33 ⟨rfl, rfl⟩))⟩)⟩)))⟩)))⟩)))))))) fun found34 =>
  (q_re (Γ2 := [O j_error a_error, O 1 found34]) rfl (q_ob fun is35 h36 =>
  q_ob fun is37 h38 =>
  q_ob fun is39 h40 =>
  q_ob fun cat41 h42 =>
  (q_let (fun (x : (List Bool)) => O 1 x) (by decide) (fun _ => rfl) (x_bin (a_cons (x_al rfl (a_cons (x_lst 0 (a_cons (x_isErG (er := a_error) h36 (x_al rfl ⟨(.al rfl), (a_cons (x_isErG (er := a_error) h38 (x_al rfl ⟨(.al rfl), (a_cons (x_isErG (er := a_error) h40 (x_al rfl ⟨(.al rfl), (a_nil ⟨_, (.d (.d (.d .nil))), (a_nil (o_cat (vi_da (Vw.al rfl)) (vi_da Vw.o) h42 ⟨rfl, rfl⟩))⟩)⟩)))⟩)))⟩)))))))) fun found43 =>
  (q_re (Γ2 := [O j_error a_error, O 1 found43]) rfl (q_ob fun is44 h45 =>
  q_ob fun is46 h47 =>
  q_ob fun is48 h49 =>
  q_ob fun cat50 h51 =>
  (q_let (fun (x : (List Bool)) => O 1 x) (by decide) (fun _ => rfl) (x_bin (a_cons (x_al rfl (a_cons (x_lst 0 (a_cons (x_isErG (er := a_error) h45 (x_al rfl ⟨(.al rfl), (a_cons (x_isErG (er := a_error) h47 (x_al rfl ⟨(.al rfl), (a_cons (x_isErG (er := a_error) h49 (x_al rfl ⟨(.al rfl), (a_nil ⟨_, (.d (.d (.d .nil))), (a_nil (o_cat (vi_da (Vw.al rfl)) (vi_da Vw.o) h51 ⟨rfl, rfl⟩))⟩)⟩)))⟩)))⟩)))))))) fun found52 =>
  (q_re (Γ2 := [O j_error a_error, O 1 found52]) rfl (q_ob fun is53 h54 =>
  q_ob fun cat55 h56 =>
  (q_ret (x_bin (a_cons (x_al rfl (a_cons (x_lst 0 (a_cons (x_isErG (er := a_error) h54 (x_al rfl ⟨(.al rfl), (a_nil ⟨_, (.d .nil), (a_nil (o_cat (vi_da (Vw.al rfl)) (vi_da Vw.o) h56 ⟨rfl, rfl, (.same (by decide) .nil)⟩))⟩)⟩)))))))))))))))))))))))))))))
/-- law(script) -/
noncomputable def T_law_k31 (a_script : (List Int)) : Out (Bool) := Ct.fin (σ := Unit) (τ := Unit) (ρ := Bool) (
  ob (rg1G (max2T (1 : Int) (min2T (3 : Int) (a_script.length : Int)))) fun rg1 =>
  Ct.bd (loop (fun (s3 : (Unit)) (x4 : Int) =>
  obn (T_law_well_2 a_script x4) fun r5 =>
  lt r5 fun well7 =>
  obn (T_law_pick well7 (9 : Int)) fun r17 =>
  ob (rg1G r17.1) fun rg19 =>
  ob (lcS (fun (s21 : ((List Int))) (x22 : Int) => ((T_law_pick s21 (6 : Int)).opt).bind fun r23 => ((atSG ("abc (-" : Str) r23.1)).bind fun sign25 => some ((r23.2), some sign25)) (r17.2) rg19) fun lc29 =>
  ob (joinG ("" : Str) lc29.2) fun txt31 =>
  lt txt31 fun text33 =>
  obn (T_law_pick lc29.1 (400 : Int)) fun r34 =>
  ob (powG (10 : Int) (30 : Int)) fun pow36 =>
  obn (T_law_pick r34.2 (4 : Int)) fun r38 =>
  ob (L2.atI ([PyData.none, (PyData.int (0 : Int)), (PyData.int r34.1), (PyData.int pow36)] : List PyData) r38.1) fun at40 =>
  lt at40 fun spot42 =>
  obn (T_law_pick r38.2 (900 : Int)) fun r43 =>
  ob (powG (10 : Int) (30 : Int)) fun pow45 =>
  obn (T_law_pick r43.2 (3 : Int)) fun r47 =>
  ob (L2.atI ([(PyData.int (500 : Int)), (PyData.int r43.1), (PyData.int pow45)] : List PyData) r47.1) fun at49 =>
  lt at49 fun bound51 =>
  obn (T_law_created text33 spot42 bound51) fun r52 =>
  lt r52 fun rows54 =>
  Ct.bd (loop (fun (s55 : (Unit)) (x56 : (Int × Er)) =>
  ob (isErG ernsAll x56.2 ("HitchError" : Str)) fun is57 =>
  ob (orO (!is57) (((isErG ernsAll x56.2 ("ValueError" : Str))).bind fun is59 => some (!is59))) fun c62 =>
  cd c62
  (.rt (false))
  (obn (T_law_kinds x56.2) fun r64 =>
  ob (rg1G (19 : Int)) fun rg66 =>
  ob (lcM (fun (x68 : Int) => (decide (x68 = x56.1))) rg66) fun lc69 =>
  cd (!(decide (r64 = lc69)))
  (.rt (false))
  (.nx ()))) () (enumT 0 rows54)) fun s55 =>
  ob (lcO (fun (x71 : Er) => ((fldG ernsAll x71 ("index" : Str))).bind fun fld72 => some (some fld72)) (cutL rows54 none (some (4 : Int)))) fun lc76 =>
  ob (L2.atI rows54 (4 : Int)) fun at78 =>
  ob (fldG ernsAll at78 ("part" : Str)) fun fld80 =>
  ob (L2.atI rows54 (5 : Int)) fun at82 =>
  ob (fldG ernsAll at82 ("limit" : Str)) fun fld84 =>
  ob (L2.atI rows54 (6 : Int)) fun at86 =>
  ob (fldG ernsAll at86 ("moves" : Str)) fun fld88 =>
  ob (gd (lc76.length + ([fld80, fld84, fld88] : List PyData).length ≤ sizeLine) (lc76 ++ ([fld80, fld84, fld88] : List PyData))) fun cat90 =>
  lt cat90 fun told92 =>
  ob (reprG told92) fun txt93 =>
  ob (gd ((5 : Int) < 2 ^ 63 ∧ -(2 ^ 63) ≤ (5 : Int) ∧ ([spot42] : List PyData).length * ((5 : Int)).toNat ≤ sizeLine) (List.replicate ((5 : Int)).toNat ([spot42] : List PyData)).flatten) fun rep95 =>
  ob (gd ((2 : Int) < 2 ^ 63 ∧ -(2 ^ 63) ≤ (2 : Int) ∧ ([bound51] : List PyData).length * ((2 : Int)).toNat ≤ sizeLine) (List.replicate ((2 : Int)).toNat ([bound51] : List PyData)).flatten) fun rep97 =>
  ob (gd (rep95.length + rep97.length ≤ sizeLine) (rep95 ++ rep97)) fun cat99 =>
  ob (reprG cat99) fun txt101 =>
  cd (!(decide (txt93 = txt101)))
  (.rt (false))
  (lt (⟨("HitchError" : Str), none⟩ : Er) fun plain103 =>
  obn (T_law_kinds plain103) fun r104 =>
  ob (gd ((19 : Int) < 2 ^ 63 ∧ -(2 ^ 63) ≤ (19 : Int) ∧ ([false] : List Bool).length * ((19 : Int)).toNat ≤ sizeLine) (List.replicate ((19 : Int)).toNat ([false] : List Bool)).flatten) fun rep106 =>
  ob (orO (!(decide (r104 = rep106))) (((isErG ernsAll plain103 ("ValueError" : Str))).bind fun is108 => some (!is108))) fun c111 =>
  cd c111
  (.rt (false))
  (.nx ()))) () rg1) fun s3 =>
  .rt (true))
theorem ok_law_k31  (a_script : (List Int)) : FnS RD.f_law_k31 [Sc a_script] (T_law_k31 a_script) (fun (r : Bool) => D r) (fun (r : Bool) => [Sc a_script]) := by
  unfold RD.f_law_k31 T_law_k31
  exact (fn_ok (k := 12) (Γa := [Sc a_script]) (V := fun _ => []) (U := fun _ => []) [0] (pis_lt (n := 1) rfl rfl) (fun _ => rfl) (q_ob fun rg1 h2 =>
  (q_for (V0 := (fun (s3 : (Unit)) => [Sc a_script, Sl.any, Sl.any, Sl.any, Sl.any, Sl.any, Sl.any, Sl.any, Sl.any, Sl.any, Sl.any, Sl.any, Sl.any])) (q := fun (x : Int) => Io.w (Te.tr x)) (i_rg1 h2 (a_cons (x_bcall (a_cons (x_cst (x := .int 1) (a_cons (x_bcall (a_cons (x_cst (x := .int 3) (a_cons (x_bcall (a_cons (x_cp rfl (a_nil (o_lenS (a_nil (o_min2 (a_nil (o_max2 (a_nil ⟨rfl, ⟨rfl, (.same (.same (.same (.same (.same (.same (.same (.same (.same (.same (.same (.same (.same .nil)))))))))))))⟩⟩)))))))))))))))))))) (fun s3 x4 => (g_w (w_name (by decide) rfl (q_obn fun r5 h6 =>
  (q_let (fun (x : (List Int)) => O 1 x) (by decide) (fun _ => rfl) (x_cal (ok_law_well_2 a_script x4) h6 rfl (a_cons (x_cp rfl (a_cons (x_cp rfl (a_nil ⟨_, (.ow (.ow .nil)), ⟨rfl, rfl⟩⟩)))))) fun well7 =>
  (q_re (Γ2 := [Sc a_script, D x4, O 1 well7, Sl.any, Sl.any, Sl.any, Sl.any, Sl.any, Sl.any, Sl.any, Sl.any, Sl.any, Sl.any]) rfl (q_obn fun r17 h18 =>
  q_ob fun rg19 h20 =>
  q_ob fun lc29 h30 =>
  q_ob fun txt31 h32 =>
  (q_let (fun (x : Str) => D x) (by decide) (fun _ => rfl) (x_mthQ (x_cst (x := .str "") ⟨ty_str (x := ("" : Str)) .o, (a_cons (x_lcS (V0 := (fun (s21 : ((List Int))) => [Sc a_script, D x4, O 1 s21, Sl.any, Sl.any, Sl.any, Sl.any, Sl.any, Sl.any, Sl.any, Sl.any, Sl.any, Sl.any])) (j := 0) (vs := [4]) (js := [4]) (q := fun (x : Int) => Io.w (Te.tr x)) h30 (i_rg1 h20 (a_cons (x_cal (ok_law_pick well7 (9 : Int)) h18 rfl (a_cons (x_al rfl (a_cons (x_cst (x := .int 9) (a_nil ⟨_, (.bo rfl (.ow .nil)), (a_nil ⟨rfl, ⟨rfl, (.same (.same (.same (.same (.same (.same (.same (.same (.same (.same (.same (.same (.same .nil)))))))))))))⟩⟩)⟩)))))))) (fun s21 x22 r q27 => (g_w (w_name (by decide) rfl (bnd q27 fun r23 h24 q27 => (fun h24 => (bnd q27 fun sign25 h26 q27 => (by cases q27; exact (cx_all (x_bin (a_cons (x_cst (x := .str "abc (-") (a_cons (x_cal (ok_law_pick s21 (6 : Int)) h24 rfl (a_cons (x_al rfl (a_cons (x_cst (x := .int 6) (a_nil ⟨_, (.bo rfl (.ow .nil)), (a_nil (o_ixStr h26 ⟨(.d .nil), (.same (.same (.same (.same (.any (.same (.same (.same (.same (.same (.same (.same (.same .nil)))))))))))))⟩))⟩)))))))))))))) (Out.opt_ok h24))))) (by decide) (by decide) (fun s k hk => by simp only [List.mem_cons, List.not_mem_nil, or_false] at hk; rcases hk with rfl <;> exact .inl rfl) (a_nil (o_join (ys := lc29.2) .o h32 ⟨rfl, rfl⟩))))⟩)) fun text33 =>
  (q_re (Γ2 := [Sc a_script, D x4, O 1 lc29.1, D text33, Sl.any, Sl.any, Sl.any, Sl.any, Sl.any, Sl.any, Sl.any, Sl.any, Sl.any]) rfl (q_obn fun r34 h35 =>
  q_ob fun pow36 h37 =>
  q_obn fun r38 h39 =>
  q_ob fun at40 h41 =>
  (q_let (fun (x : PyData) => D x) (by decide) (fun _ => rfl) (x_bin (a_cons (x_lst 0 (a_cons (x_cst (x := .none) (a_cons (x_cst (x := .int 0) (a_cons (x_cal (ok_law_pick lc29.1 (400 : Int)) h35 rfl (a_cons (x_al rfl (a_cons (x_cst (x := .int 400) (a_nil ⟨_, (.bo rfl (.ow .nil)), (a_cons (x_bin (a_cons (x_cst (x := .int 10) (a_cons (x_cst (x := .int 30) (a_nil (o_pow h37 (a_nil ⟨_, (.d (.d (.d (.d .nil)))), (a_cons (x_cal (ok_law_pick r34.2 (4 : Int)) h39 rfl (a_cons (x_al rfl (a_cons (x_cst (x := .int 4) (a_nil ⟨_, (.bo rfl (.ow .nil)), (a_nil (o_ix (xs := ([PyData.none, (PyData.int (0 : Int)), (PyData.int r34.1), (PyData.int pow36)] : List PyData)) (vi_da Vw.o) h41 ⟨rfl, rfl⟩))⟩)))))))⟩)))))))))⟩)))))))))))))) fun spot42 =>
  (q_re (Γ2 := [Sc a_script, D x4, O 1 r38.2, D text33, Sl.any, D spot42, Sl.any, Sl.any, Sl.any, Sl.any, Sl.any, Sl.any, Sl.any]) rfl (q_obn fun r43 h44 =>
  q_ob fun pow45 h46 =>
  q_obn fun r47 h48 =>
  q_ob fun at49 h50 =>
  (q_let (fun (x : PyData) => D x) (by decide) (fun _ => rfl) (x_bin (a_cons (x_lst 0 (a_cons (x_cst (x := .int 500) (a_cons (x_cal (ok_law_pick r38.2 (900 : Int)) h44 rfl (a_cons (x_al rfl (a_cons (x_cst (x := .int 900) (a_nil ⟨_, (.bo rfl (.ow .nil)), (a_cons (x_bin (a_cons (x_cst (x := .int 10) (a_cons (x_cst (x := .int 30) (a_nil (o_pow h46 (a_nil ⟨_, (.d (.d (.d .nil))), (a_cons (x_cal (ok_law_pick r43.2 (3 : Int)) h48 rfl (a_cons (x_al rfl (a_cons (x_cst (x := .int 3) (a_nil ⟨_, (.bo rfl (.ow .nil)), (a_nil (o_ix (xs := ([(PyData.int (500 : Int)), (PyData.int r43.1), (PyData.int pow45)] : List PyData)) (vi_da Vw.o) h50 ⟨rfl, rfl⟩))⟩)))))))⟩)))))))))⟩)))))))))))) fun bound51 =>
  (q_re (Γ2 := [Sc a_script, D x4, O 1 r47.2, D text33, Sl.any, D spot42, D bound51, Sl.any, Sl.any, Sl.any, Sl.any, Sl.any, Sl.any]) rfl (q_obn fun r52 h53 =>
  (q_let (fun (x : (List Er)) => O 1 x) (by decide) (fun _ => rfl) (x_cal (ok_law_created text33 spot42 bound51) h53 rfl (a_cons (x_cp rfl (a_cons (x_cp rfl (a_cons (x_cp rfl (a_nil ⟨_, (.ow (.ow (.ow .nil))), ⟨rfl, rfl⟩⟩)))))))) fun rows54 =>
  (q_re (Γ2 := [Sc a_script, D x4, O 1 r47.2, D text33, Sl.any, D spot42, D bound51, O 1 rows54, Sl.any, Sl.any, Sl.any, Sl.any, Sl.any]) rfl ((q_for (V0 := (fun (s55 : (Unit)) => [Sc a_script, D x4, O 1 r47.2, D text33, Sl.any, D spot42, D bound51, O 0 rows54, Sl.any, Sl.any, Sl.any, Sl.any, Sl.any])) (q := fun (x : (Int × Er)) => Io.t [Te.tr x.1, Te.tr x.2]) (i_enu (xs := rows54) (x_sh rfl ⟨rfl, ⟨rfl, (.same (.same (.same (.same (.same (.same (.same (.same (.same (.same (.same (.same (.same .nil)))))))))))))⟩⟩)) (fun s55 x56 => (g_tt rfl (ws_cons (by intro s h; simp at h; subst h; rfl) (w_name (by decide) rfl (ws_cons (by intro s h; simp at h) (w_name (by decide) rfl (ws_nil (q_ob fun is57 h58 =>
  q_ob fun c62 h63 =>
  (q_ifs (q_if (t_orO h63 (t_not (t_tru (x_isErG (er := x56.2) h58 (x_cp rfl ⟨.o, ⟨_, rfl, ⟨rfl, rfl⟩⟩⟩)))) (fun q61 => (bnd q61 fun is59 h60 q61 => (by cases q61; exact (t_not (t_tru (x_isErG (er := x56.2) h60 (x_cp rfl ⟨.o, ⟨_, rfl, ⟨rfl, rfl⟩⟩⟩))))))) ⟨rfl, rfl⟩)
  ((q_rets (q_ret (x_cst (x := .bool false) ⟨rfl, rfl, (.same (by decide) .nil)⟩))))
  (q_re (Γ2 := [Sc a_script, D x4, O 1 r47.2, D text33, Sl.any, D spot42, D bound51, O 0 rows54, D x56.1, O 0 x56.2, Sl.any, Sl.any, Sl.any]) rfl (q_skip (q_obn fun r64 h65 =>
  q_ob fun rg66 h67 =>
  q_ob fun lc69 h70 =>
  (q_if (t_boo (x_bin (a_cons (x_cal (ok_law_kinds x56.2) h65 rfl (a_cons (x_cp rfl (a_nil ⟨_, (.ow .nil), (a_cons (x_lcM (j := 0) (vs := [10]) (js := [10]) (q := fun (x : Int) => Io.w (Te.tr x)) h70 (i_rg1 h67 (a_cons (x_cst (x := .int 19) (a_nil ⟨rfl, ⟨rfl, rfl⟩⟩)))) (fun x68 => (g_w (w_name (by decide) rfl (cx_all (x_bin (a_cons (x_cp rfl (a_cons (x_cp rfl (a_nil (o_eq (x := x68) (y := x56.1) .o .o ⟨(.d .nil), (.same (.same (.same (.same (.same (.same (.same (.same (.same (.same (.any (.same (.same .nil)))))))))))))⟩))))))))))) (by decide) (by decide) (fun k hk => wipS_any hk) (a_nil (o_ne (x := r64) (y := lc69) .o .o ⟨_, rfl, ⟨rfl, rfl⟩⟩))))⟩)))))))
  ((q_ret (x_cst (x := .bool false) ⟨rfl, rfl, (.same (by decide) .nil)⟩)))
  (q_nx (.same (.same (.same (.same (.same (.same (.same (.same (.any (.any (.same (.same (.same .nil)))))))))))))))))))))))))))) fun s55 =>
  (q_ob fun lc76 h77 =>
  q_ob fun at78 h79 =>
  q_ob fun fld80 h81 =>
  q_ob fun at82 h83 =>
  q_ob fun fld84 h85 =>
  q_ob fun at86 h87 =>
  q_ob fun fld88 h89 =>
  q_ob fun cat90 h91 =>
  (q_let (fun (x : (List PyData)) => O 1 x) (by decide) (fun _ => rfl) (x_bin (a_cons (x_lcO (j := 0) (vs := [9]) (js := [9]) (q := fun (x : Er) => Io.w (Te.tr x)) h77 (i_seq (xs := (cutL rows54 none (some (4 : Int)))) (x_slc (xs := rows54) (x_cp rfl (p_no (p_at (x_cst (x := .int 4) ⟨_, rfl, ⟨Vi.o0, ⟨rfl, ⟨rfl, rfl⟩⟩⟩⟩)))))) (fun x71 r q74 => (g_w (w_name (by decide) rfl (bnd q74 fun fld72 h73 q74 => (by cases q74; exact (cx_all (x_fldG (er := x71) h73 (x_cp rfl ⟨.o, ⟨(.d .nil), (.same (.same (.same (.same (.same (.same (.same (.same (.same (.any (.same (.same (.same .nil)))))))))))))⟩⟩)))))))) (by decide) (by decide) (fun k hk => wipS_any hk) (a_cons (x_lst 0 (a_cons (x_fldG (er := at78) h81 (x_bin (a_cons (x_cp rfl (a_cons (x_cst (x := .int 4) (a_nil (o_ix (xs := rows54) Vi.o0 h79 ⟨.o, (a_cons (x_fldG (er := at82) h85 (x_bin (a_cons (x_cp rfl (a_cons (x_cst (x := .int 5) (a_nil (o_ix (xs := rows54) Vi.o0 h83 ⟨.o, (a_cons (x_fldG (er := at86) h89 (x_bin (a_cons (x_cp rfl (a_cons (x_cst (x := .int 6) (a_nil (o_ix (xs := rows54) Vi.o0 h87 ⟨.o, (a_nil ⟨_, (.d (.d (.d .nil))), (a_nil (o_cat (vi_da Vw.o) (vi_da Vw.o) h91 ⟨rfl, rfl⟩))⟩)⟩)))))))))⟩)))))))))⟩)))))))))))))) fun told92 =>
  (q_re (Γ2 := [Sc a_script, D x4, O 1 r47.2, D text33, Sl.any, D spot42, D bound51, O 0 rows54, Sl.any, Sl.any, Sl.any, O 1 told92, Sl.any]) rfl (q_ob fun txt93 h94 =>
  q_ob fun rep95 h96 =>
  q_ob fun rep97 h98 =>
  q_ob fun cat99 h100 =>
  q_ob fun txt101 h102 =>
  (q_ifs (q_if (t_boo (x_bin (a_cons (x_bcall (a_cons (x_al rfl (a_nil (o_repr (x := told92) (.al rfl) h94 (a_cons (x_bcall (a_cons (x_bin (a_cons (x_bin (a_cons (x_lst 0 (a_cons (x_cp rfl (a_nil ⟨_, (.d .nil), (a_cons (x_cst (x := .int 5) (a_nil (o_rep (j := 0) h96 (a_cons (x_bin (a_cons (x_lst 0 (a_cons (x_cp rfl (a_nil ⟨_, (.d .nil), (a_cons (x_cst (x := .int 2) (a_nil (o_rep (j := 0) h98 (a_nil (o_cat (vi_da Vw.o) (vi_da Vw.o) h100 (a_nil (o_repr (x := cat99) .o h102 (a_nil (o_ne (x := txt93) (y := txt101) .o .o ⟨_, rfl, ⟨rfl, rfl⟩⟩))))))))))⟩)))))))))))⟩)))))))))))))))))))
  ((q_rets (q_ret (x_cst (x := .bool false) ⟨rfl, rfl, (.same (by decide) .nil)⟩))))
  (q_re (Γ2 := [Sc a_script, D x4, O 1 r47.2, D text33, Sl.any, D spot42, D bound51, O 0 rows54, Sl.any, Sl.any, Sl.any, O 1 told92, Sl.any]) rfl (q_skip ((q_let (fun (x : Er) => O 0 x) (by decide) (fun _ => rfl) (x_er0 (x_cp rfl ⟨rfl, rfl⟩)) fun plain103 =>
  (q_re (Γ2 := [Sc a_script, D x4, O 1 r47.2, D text33, Sl.any, D spot42, D bound51, O 0 rows54, Sl.any, Sl.any, Sl.any, O 1 told92, O 0 plain103]) rfl (q_obn fun r104 h105 =>
  q_ob fun rep106 h107 =>
  q_ob fun c111 h112 =>
  (q_if (t_orO h112 (t_boo (x_bin (a_cons (x_cal (ok_law_kinds plain103) h105 rfl (a_cons (x_cp rfl (a_nil ⟨_, (.ow .nil), (a_cons (x_bin (a_cons (x_lst 0 (a_cons (x_cst (x := .bool false) (a_nil ⟨_, (.d .nil), (a_cons (x_cst (x := .int 19) (a_nil (o_rep (j := 0) h107 (a_nil (o_ne (x := r104) (y := rep106) .o .o ⟨_, rfl, ⟨rfl, rfl⟩⟩))))))⟩)))))))⟩))))))) (fun q110 => (bnd q110 fun is108 h109 q110 => (by cases q110; exact (t_not (t_tru (x_isErG (er := plain103) h109 (x_cp rfl ⟨.o, ⟨_, rfl, ⟨rfl, rfl⟩⟩⟩))))))) ⟨rfl, rfl⟩)
  ((q_ret (x_cst (x := .bool false) ⟨rfl, rfl, (.same (by decide) .nil)⟩)))
  (q_nx (.same (.any (.any (.any (.same (.any (.any (.any (.same (.same (.same (.any (.any .nil))))))))))))))))))))))))))))))))))))))))))))))) fun s3 =>
  ((q_ret (x_cst (x := .bool true) ⟨rfl, rfl, (.same (by decide) .nil)⟩))))))
end VS.TR
set_option Elab.async false
set_option linter.all false
set_option maxRecDepth 100000
set_option maxHeartbeats 1000000
/-! Q1: plain things: ends, couplings, layouts. -/
namespace VS.TR
open PySem PySem.Spec PyProof.Rows L2
def isEnd (n v : Int) : Bool := decide (v ≠ 0) && (decide (-n ≤ v) && decide (v ≤ n))
def isCpl (n : Int) (p : Int × Int) : Bool := isEnd n p.1 && (isEnd n p.2 && decide (p.1 < p.2))
def ltP (p q : Int × Int) : Prop := p.1 < q.1 ∨ (p.1 = q.1 ∧ p.2 < q.2)
instance (p q : Int × Int) : Decidable (ltP p q) := by unfold ltP; infer_instance
def endsOf (L : List (Int × Int)) : List Int := L.flatMap fun p => [p.1, p.2]
structure Lay (n : Int) (L : List (Int × Int)) : Prop where
  cpl : ∀ p ∈ L, isCpl n p = true
  nd : (endsOf L).Nodup
  srt : L.Pairwise ltP
  len : L.length ≤ 100000
def rng (lo : Int) (k : Nat) : List Int := (List.range k).map fun (i : Nat) => lo + (i : Int)
def leP (p q : Int × Int) : Bool := !decide (ltP q p)
def sortP (F : List (Int × Int)) : List (Int × Int) := F.mergeSort leP
theorem leP_iff (a b : Int × Int) : leP a b = true ↔ a.1 < b.1 ∨ (a.1 = b.1 ∧ a.2 ≤ b.2) := by
  unfold leP
  rw [Bool.not_eq_true', decide_eq_false_iff_not]
  unfold ltP
  omega
theorem leP_trans (a b c : Int × Int) (h1 : leP a b = true) (h2 : leP b c = true) : leP a c = true := by
  rw [leP_iff] at h1 h2 ⊢
  omega
theorem leP_total (a b : Int × Int) : (leP a b || leP b a) = true := by
  rw [Bool.or_eq_true, leP_iff, leP_iff]
  omega
theorem endsOf_perm {F G : List (Int × Int)} (h : F.Perm G) : (endsOf F).Perm (endsOf G) := h.flatMap_right _
theorem nodup_of_ends : ∀ {F : List (Int × Int)}, (endsOf F).Nodup → F.Nodup
  | [], _ => .nil
  | p :: F, h => by
    have e : endsOf (p :: F) = [p.1, p.2] ++ endsOf F := rfl
    rw [e, List.nodup_append] at h
    refine List.nodup_cons.mpr ⟨fun q => ?_, nodup_of_ends h.2.1⟩
    have : p.1 ∈ endsOf F := List.mem_flatMap.mpr ⟨p, q, by simp⟩
    exact h.2.2 p.1 (by simp) p.1 this rfl
theorem sortP_lay {n : Int} {F : List (Int × Int)} (h1 : ∀ p ∈ F, isCpl n p = true) (h2 : (endsOf F).Nodup) (h3 : F.length ≤ 100000) : Lay n (sortP F) := by
  have hp : (sortP F).Perm F := List.mergeSort_perm F leP
  have hn := (endsOf_perm hp).nodup_iff.mpr h2
  refine ⟨fun p q => h1 p (hp.mem_iff.mp q), hn, ?_, by rw [hp.length_eq]; exact h3⟩
  have s : (sortP F).Pairwise fun a b => leP a b = true := List.pairwise_mergeSort leP_trans leP_total F
  have d : (sortP F).Nodup := nodup_of_ends hn
  refine (List.Pairwise.and s d).imp fun {a b} q => ?_
  obtain ⟨q1, q2⟩ := q
  rw [leP_iff] at q1
  have q3 : ¬ (a.1 = b.1 ∧ a.2 = b.2) := fun z => q2 (Prod.ext z.1 z.2)
  show a.1 < b.1 ∨ (a.1 = b.1 ∧ a.2 < b.2)
  omega
def pget (L : List (Int × Int)) (v : Int) : Option Int := (L.flatMap fun p => [(p.1, p.2), (p.2, p.1)]).lookup v
theorem okMul_l {i j : Int} (h : -(2 ^ 64) < i ∧ i < 2 ^ 64) : okMul i j = true := by
  unfold okMul
  rw [decide_eq_true h]
  rfl
theorem atI0 {α : Type} (x : α) (xs : List α) : atI (x :: xs) 0 = some x := by
  simp [atI, ixN]
theorem atI1 {α : Type} (x y : α) (xs : List α) : atI (x :: y :: xs) 1 = some y := by
  show (ixN (xs.length + 1 + 1) 1).bind _ = _
  unfold ixN
  rw [if_pos (by decide), if_pos (by omega)]
  rfl
theorem atI2 {α : Type} (x y z : α) (xs : List α) : atI (x :: y :: z :: xs) 2 = some z := by
  show (ixN (xs.length + 1 + 1 + 1) 2).bind _ = _
  unfold ixN
  rw [if_pos (by decide), if_pos (by omega)]
  rfl
theorem atI_nat {α : Type} (xs : List α) (i : Nat) (h : i < xs.length) : atI xs (i : Int) = xs[i]? := by
  unfold atI ixN
  have h0 : (0 : Int) ≤ i := Int.natCast_nonneg i
  have h1 : (i : Int) < xs.length := by omega
  simp [h0, h1]
theorem log_small {i : Int} (h : 0 < i ∧ i < 2 ^ 62) : i.natAbs.log2 < 9000 := by
  refine (Nat.log2_lt (by omega)).mpr (Nat.lt_of_lt_of_le (show i.natAbs < 2 ^ 62 by omega) (Nat.pow_le_pow_right (by decide) (by decide)))
end VS.TR
set_option Elab.async false
set_option linter.all false
set_option maxRecDepth 100000
set_option maxHeartbeats 1000000
/-! Q2: the shared defs of the laws. -/
namespace VS.TR
open PySem PySem.Spec PyProof.Rows L2
theorem gd_ok {α : Type} {c : Prop} (h : c) (x : α) : gd c x = some x := by
  unfold gd
  rw [if_pos h]
theorem mul_ok {i j : Int} (h : okMul i j = true) : mulG i j = some (i * j) := gd_ok h _
theorem mod_ok {i j : Int} (h : 0 < j) : modG i j = some (i % j) := gd_ok (by
  unfold okMod
  simp
  omega) _
theorem div_ok {i j : Int} (h : 0 < j ∧ j < 2 ^ 62) : divG i j = some (i / j) := gd_ok (by
  have := log_small h
  unfold okDiv
  simp
  omega) _
theorem pow18 : powG 10 18 = some (10 ^ 18) := gd_ok (by decide +kernel) _
theorem set0 {α : Type} (x y : α) (xs : List α) : setG (x :: xs) 0 y = some (y :: xs) := by
  unfold setG ixN
  simp
theorem set2 {α : Type} (x x1 x2 y : α) (xs : List α) : setG (x :: x1 :: x2 :: xs) 2 y = some (x :: x1 :: y :: xs) := by
  unfold setG ixN
  simp
  omega
/-! ### loops -/
/-! ### numbers drawn -/
/-! ### checks -/
end VS.TR
set_option Elab.async false
set_option linter.all false
set_option maxRecDepth 100000
set_option maxHeartbeats 1000000
/-! Q3: dicts, layouts. -/
namespace VS.TR
open PySem PySem.Spec PyProof.Rows L2
/-! ### dicts -/
end VS.TR
set_option Elab.async false
set_option linter.all false
set_option maxRecDepth 100000
set_option maxHeartbeats 1000000
/-! QW: what a typed function does, step by step. -/
namespace VS.TR
open PySem PySem.Spec PyProof.Rows L2
/-- a call ends well -/
def Ok {ρ : Type} (m : Out ρ) (Q : ρ → Prop) : Prop := ∃ r, m = .ok r ∧ Q r
/-- a block goes on, leaves its loop, hands back -/
def wp {σ τ ρ : Type} (m : Ct σ τ ρ) (N : σ → Prop) (U C : τ → Prop) (R : ρ → Prop) : Prop := match m with
  | .nx s => N s
  | .bk s => U s
  | .ct s => C s
  | .rt r => R r
  | .ex _ => False
  | .bad => False
section
variable {α β σ σ' τ ρ : Type} {N : σ → Prop} {U C : τ → Prop} {R : ρ → Prop}
theorem Ok.imp {m : Out ρ} {Q Q' : ρ → Prop} (h : Ok m Q) (k : ∀ r, Q r → Q' r) : Ok m Q' := by
  obtain ⟨r, e, q⟩ := h
  exact ⟨r, e, k r q⟩
theorem Ok.eq {m : Out ρ} {r : ρ} (h : Ok m fun x => x = r) : m = .ok r := by
  obtain ⟨x, e, rfl⟩ := h
  exact e
theorem w_fin {m : Ct σ τ ρ} (h : wp m (fun _ => False) (fun _ => False) (fun _ => False) R) : Ok m.fin R := by
  cases m with
  | rt r => exact ⟨r, rfl, h⟩
  | _ => exact h.elim
theorem w_nx {s : σ} (h : N s) : wp (.nx s : Ct σ τ ρ) N U C R := h
theorem w_rt {r : ρ} (h : R r) : wp (.rt r : Ct σ τ ρ) N U C R := h
theorem w_ob {m : Option α} {x : α} {K : α → Ct σ τ ρ} (e : m = some x) (h : wp (K x) N U C R) : wp (ob m K) N U C R := by
  subst e
  exact h
theorem w_obn {m : Out α} {x : α} {K : α → Ct σ τ ρ} (e : m = .ok x) (h : wp (K x) N U C R) : wp (obn m K) N U C R := by
  subst e
  exact h
theorem w_cal {m : Out α} {K : α → Ct σ τ ρ} {Q : α → Prop} (e : Ok m Q) (h : ∀ x, Q x → wp (K x) N U C R) : wp (obn m K) N U C R := by
  obtain ⟨r, e, q⟩ := e
  subst e
  exact h r q
theorem w_lt {x : α} {K : α → Ct σ τ ρ} (h : wp (K x) N U C R) : wp (lt x K) N U C R := h
theorem w_bd {m : Ct σ' τ ρ} {K : σ' → Ct σ τ ρ} (h : wp m (fun s => wp (K s) N U C R) U C R) : wp (m.bd K) N U C R := by
  cases m with
  | nx s => exact h
  | _ => exact h
theorem w_imp {m : Ct σ τ ρ} {N' : σ → Prop} {U' C' : τ → Prop} {R' : ρ → Prop} (h : wp m N U C R) (h1 : ∀ s, N s → N' s) (h2 : ∀ s, U s → U' s) (h3 : ∀ s, C s → C' s) (h4 : ∀ s, R s → R' s) : wp m N' U' C' R' := by
  cases m with
  | nx s => exact h1 _ h
  | bk s => exact h2 _ h
  | ct s => exact h3 _ h
  | rt s => exact h4 _ h
  | ex e => exact h.elim
  | bad => exact h.elim
/-- a loop: P pre s when the items pre are done -/
theorem w_loop {f : σ' → α → Ct σ' σ' ρ} {xs : List α} {s0 : σ'} {K : σ' → Ct σ τ ρ} (P : List α → σ' → Prop) (h0 : P [] s0) (h : ∀ pre x post s, xs = pre ++ x :: post → P pre s → wp (f s x) (P (pre ++ [x])) (fun s' => P xs s') (P (pre ++ [x])) R) (k : ∀ s, P xs s → wp (K s) N U C R) : wp ((loop f s0 xs).bd K) N U C R := by
  have key : ∀ (post pre : List α) (s : σ'), xs = pre ++ post → P pre s → wp (loop f s post : Ct σ' τ ρ) (P xs) (fun _ => False) (fun _ => False) R := by
    intro post
    induction post with
    | nil =>
      intro pre s e p
      rw [List.append_nil] at e
      subst e
      exact p
    | cons x post ih =>
      intro pre s e p
      have h1 := h pre x post s e p
      unfold loop
      cases hf : f s x with
      | nx s' => rw [hf] at h1; exact ih (pre ++ [x]) s' (by rw [e, List.append_assoc]; rfl) h1
      | ct s' => rw [hf] at h1; exact ih (pre ++ [x]) s' (by rw [e, List.append_assoc]; rfl) h1
      | bk s' => rw [hf] at h1; exact h1
      | rt r => rw [hf] at h1; exact h1
      | ex e => rw [hf] at h1; exact h1.elim
      | bad => rw [hf] at h1; exact h1.elim
  exact w_bd (w_imp (key xs [] s0 rfl h0) k (fun _ h => h.elim) (fun _ h => h.elim) fun _ h => h)
end
end VS.TR
set_option Elab.async false
set_option linter.all false
set_option maxRecDepth 100000
set_option maxHeartbeats 1000000
/-! Q4: checked layouts, random layouts. -/
namespace VS.TR
open PySem PySem.Spec PyProof.Rows L2
/-! ### enumerate -/
/-! ### random layouts -/
theorem atI_ok {α : Type} {xs : List α} {i : Int} (h0 : 0 ≤ i) (h1 : i < xs.length) : ∃ y, atI xs i = some y ∧ y ∈ xs := by
  have h : i.toNat < xs.length := by omega
  refine ⟨xs[i.toNat], ?_, List.getElem_mem h⟩
  have := atI_nat xs i.toNat h
  rw [show ((i.toNat : Nat) : Int) = i by omega] at this
  rw [this, List.getElem?_eq_getElem h]
end VS.TR
set_option Elab.async false
set_option linter.all false
set_option maxHeartbeats 1000000
/-! M03: paths of couplings, in plain words. -/
namespace Ch
/-- partners: symmetric, no end with itself, ends are not 0 and not beyond n -/
structure Pg (n : Int) (pg : Int → Option Int) : Prop where
  sym : ∀ a b, pg a = some b → pg b = some a
  ne : ∀ a b, pg a = some b → a ≠ b
  rng : ∀ a b, pg a = some b → a ≠ 0 ∧ -n ≤ a ∧ a ≤ n
def nx (pg : Int → Option Int) (x : Int) : Option Int := (pg x).map fun y => -y
section
variable {n : Int} {pg : Int → Option Int} (P : Pg n pg)
include P
theorem nx_some {x y : Int} : nx pg x = some y ↔ pg x = some (-y) := by
  unfold nx
  constructor
  · intro h
    cases q : pg x with
    | none => rw [q] at h; cases h
    | some z =>
      rw [q] at h
      have e : -z = y := Option.some.inj h
      rw [← e, Int.neg_neg]
  · intro h
    rw [h]
    show some (- -y) = some y
    rw [Int.neg_neg]
theorem nx_sym {x y : Int} (h : nx pg x = some y) : nx pg (-y) = some (-x) := by
  rw [nx_some P] at h ⊢
  rw [Int.neg_neg]
  exact P.sym _ _ h
theorem nx_inj {x y z : Int} (h : nx pg x = some z) (h' : nx pg y = some z) : x = y := by
  have a := nx_sym P h
  have b := nx_sym P h'
  rw [a] at b
  have := Option.some.inj b
  omega
theorem nx_ne {x y : Int} (h : nx pg x = some y) : y ≠ -x := by
  intro e
  rw [nx_some P] at h
  exact P.ne _ _ h (by omega)
theorem nx_rng {x y : Int} (h : nx pg x = some y) : (x ≠ 0 ∧ -n ≤ x ∧ x ≤ n) ∧ (y ≠ 0 ∧ -n ≤ y ∧ y ≤ n) := by
  rw [nx_some P] at h
  have a := P.rng _ _ h
  have b := P.rng _ _ (P.sym _ _ h)
  omega
/-- step by step -/
def Path (pg : Int → Option Int) (xs : List Int) : Prop := ∀ (i : Nat) (x y : Int), xs[i]? = some x → xs[i + 1]? = some y → nx pg x = some y
omit P in
theorem Path.nil : Path pg [] := fun i x y h => by cases h
omit P in
theorem Path.one (x : Int) : Path pg [x] := fun i a b h1 h2 => by
  cases i with
  | zero => cases h2
  | succ i => cases h1
omit P in
theorem Path.snoc {xs : List Int} {x y : Int} (h : Path pg (xs ++ [x])) (e : nx pg x = some y) : Path pg (xs ++ [x] ++ [y]) := by
  intro i a b h1 h2
  by_cases hi : i + 1 < (xs ++ [x]).length
  · rw [List.getElem?_append_left (by omega)] at h1
    rw [List.getElem?_append_left hi] at h2
    exact h i a b h1 h2
  · have hl : (xs ++ [x] ++ [y]).length = (xs ++ [x]).length + 1 := by simp
    have h3 := (List.getElem?_eq_some_iff.mp h2).1
    have hi2 : i + 1 = (xs ++ [x]).length := by omega
    rw [hi2, List.getElem?_append_right (Nat.le_refl _), Nat.sub_self] at h2
    cases h2
    have hi3 : i = xs.length := by rw [List.length_append, List.length_singleton] at hi2; omega
    rw [hi3, List.append_assoc, List.getElem?_append_right (Nat.le_refl _), Nat.sub_self] at h1
    cases h1
    exact e
/-- no item is another's other end -/
theorem path_noneg {xs : List Int} (h : Path pg xs) (h0 : ∀ x ∈ xs, x ≠ 0) : ∀ (d i : Nat) (x y : Int), xs[i]? = some x → xs[i + d]? = some y → x ≠ -y := by
  intro d
  induction d using Nat.strongRecOn with
  | ind d ih =>
    intro i x y hx hy e
    match d, ih, hy with
    | 0, _, hy =>
      rw [Nat.add_zero, hx] at hy
      have := Option.some.inj hy
      have := h0 x (List.mem_of_getElem? hx)
      omega
    | 1, _, hy => exact nx_ne P (h i x y hx hy) (by omega)
    | d + 2, ih, hy =>
      have l := (List.getElem?_eq_some_iff.mp hy).1
      obtain ⟨x', hx'⟩ : ∃ x', xs[i + 1]? = some x' := ⟨_, List.getElem?_eq_getElem (by omega)⟩
      obtain ⟨y', hy'⟩ : ∃ y', xs[i + 1 + d]? = some y' := ⟨_, List.getElem?_eq_getElem (by omega)⟩
      have a := h i x x' hx hx'
      have b := nx_sym P (h (i + 1 + d) y' y hy' (by rw [show i + 1 + d + 1 = i + (d + 2) by omega]; exact hy))
      rw [← e, a] at b
      exact ih d (by omega) (i + 1) x' y' hx' hy' (Option.some.inj b)
/-- if the first does not come again, none does -/
theorem path_nodup {xs : List Int} (h : Path pg xs) (h1 : ∀ (j : Nat) (x : Int), xs[0]? = some x → xs[j + 1]? ≠ some x) : xs.Nodup := by
  have main : ∀ (i d : Nat) (x : Int), xs[i]? = some x → xs[i + (d + 1)]? ≠ some x := by
    intro i
    induction i with
    | zero =>
      intro d x hx hy
      rw [Nat.zero_add] at hy
      exact h1 d x hx hy
    | succ i ih =>
      intro d x hx hy
      have l := (List.getElem?_eq_some_iff.mp hy).1
      obtain ⟨u, hu⟩ : ∃ u, xs[i]? = some u := ⟨_, List.getElem?_eq_getElem (by omega)⟩
      obtain ⟨v, hv⟩ : ∃ v, xs[i + (d + 1)]? = some v := ⟨_, List.getElem?_eq_getElem (by omega)⟩
      have a := h i u x hu hx
      have b := h (i + (d + 1)) v x hv (by rw [show i + (d + 1) + 1 = i + 1 + (d + 1) by omega]; exact hy)
      have e := nx_inj P a b
      subst e
      exact ih d u hu hv
  rw [List.nodup_iff_pairwise_ne, List.pairwise_iff_getElem]
  intro i j hi hj hij e
  obtain ⟨d, rfl⟩ : ∃ d, j = i + (d + 1) := ⟨j - i - 1, by omega⟩
  exact main i d xs[i] (List.getElem?_eq_getElem hi) (by rw [List.getElem?_eq_getElem hj, e])
omit P in
theorem pigeon : ∀ (m : Nat) (l : List Nat), l.Nodup → (∀ x ∈ l, x < m) → l.length ≤ m
  | 0, l, _, h => by
    cases l with
    | nil => exact Nat.le_refl _
    | cons a l => exact absurd (h a List.mem_cons_self) (Nat.not_lt_zero _)
  | m + 1, l, hn, h => by
    by_cases hm : m ∈ l
    · have p := List.perm_cons_erase hm
      have e := p.length_eq
      have q := pigeon m (l.erase m) (hn.erase m) (fun x hx => by
        have hx' := (List.Nodup.mem_erase_iff hn).mp hx
        have := h x hx'.2
        have := hx'.1
        omega)
      rw [e, List.length_cons]
      omega
    · exact Nat.le_succ_of_le (pigeon m l hn fun x hx => by
        have := h x hx
        have : x ≠ m := fun e => hm (e ▸ hx)
        omega)
theorem path_abs {xs : List Int} (h : Path pg xs) (h0 : ∀ x ∈ xs, x ≠ 0) (h1 : ∀ (j : Nat) (x : Int), xs[0]? = some x → xs[j + 1]? ≠ some x) : (xs.map Int.natAbs).Nodup := by
  have nd := path_nodup P h h1
  have ng := path_noneg P h h0
  rw [List.nodup_iff_pairwise_ne, List.pairwise_map]
  rw [List.nodup_iff_pairwise_ne] at nd
  rw [List.pairwise_iff_getElem] at nd ⊢
  intro i j hi hj hij e
  obtain ⟨d, rfl⟩ : ∃ d, j = i + d := ⟨j - i, by omega⟩
  have a := nd i (i + d) hi hj hij
  have b := ng d i xs[i] xs[i + d] (List.getElem?_eq_getElem hi) (List.getElem?_eq_getElem hj)
  omega
theorem path_len {xs : List Int} (h : Path pg xs) (h0 : ∀ x ∈ xs, x ≠ 0 ∧ -n ≤ x ∧ x ≤ n) (h1 : ∀ (j : Nat) (x : Int), xs[0]? = some x → xs[j + 1]? ≠ some x) : xs.length ≤ n.toNat := by
  have a := path_abs P h (fun x hx => (h0 x hx).1) h1
  have b := pigeon (n.toNat + 1) (0 :: xs.map Int.natAbs) (List.nodup_cons.mpr ⟨fun q => by
    obtain ⟨x, hx, e⟩ := List.mem_map.mp q
    have := (h0 x hx).1
    omega, a⟩) (fun x hx => by
      rcases List.mem_cons.mp hx with rfl | hx
      · omega
      · obtain ⟨y, hy, rfl⟩ := List.mem_map.mp hx
        have := h0 y hy
        omega)
  rw [List.length_cons, List.length_map] at b
  omega
end
/-- what is read from first on -/
structure Walk (n : Int) (pg : Int → Option Int) (first : Int) (xs : List Int) : Prop where
  hd : xs[0]? = some first
  path : Path pg xs
  once : ∀ j : Nat, xs[j + 1]? ≠ some first
  rng : ∀ x ∈ xs, x ≠ 0 ∧ -n ≤ x ∧ x ≤ n
structure Whole (n : Int) (pg : Int → Option Int) (first : Int) (xs : List Int) : Prop extends Walk n pg first xs where
  stop : ∃ l, xs[xs.length - 1]? = some l ∧ (nx pg l = none ∨ nx pg l = some first)
section
variable {n : Int} {pg : Int → Option Int} (P : Pg n pg) {first : Int} {xs : List Int}
theorem Walk.start (h : first ≠ 0 ∧ -n ≤ first ∧ first ≤ n) : Walk n pg first [first] := ⟨rfl, Path.one first, fun j => by simp, fun x hx => by rw [List.mem_singleton.mp hx]; exact h⟩
include P
theorem Walk.len (h : Walk n pg first xs) : xs.length ≤ n.toNat := path_len P h.path h.rng fun j x hx => by
  rw [h.hd] at hx
  cases hx
  exact h.once j
theorem Walk.step {x y : Int} (h : Walk n pg first (xs ++ [x])) (e : nx pg x = some y) (hy : y ≠ first) : Walk n pg first (xs ++ [x] ++ [y]) := by
  refine ⟨?_, Path.snoc h.path e, fun j => ?_, fun z hz => ?_⟩
  · rw [List.getElem?_append_left (by simp)]
    exact h.hd
  · by_cases hj : j + 1 < (xs ++ [x]).length
    · rw [List.getElem?_append_left hj]
      exact h.once j
    · rw [List.getElem?_append_right (by omega)]
      intro q
      have := List.mem_of_getElem? q
      exact hy (List.mem_singleton.mp this).symm
  · rcases List.mem_append.mp hz with q | q
    · exact h.rng z q
    · rw [List.mem_singleton.mp q]
      exact (nx_rng P e).2
end
end Ch
set_option Elab.async false
set_option linter.all false
set_option maxHeartbeats 1000000
/-! M03b: what is seen. -/
namespace Ch
def ab (x : Int) : Int := (x.natAbs : Int)
/-- closed under the next one -/
def Cl (pg : Int → Option Int) (ss : List Int) : Prop := ∀ x y, nx pg x = some y → (ab x ∈ ss ↔ ab y ∈ ss)
theorem ab_neg (x : Int) : ab (-x) = ab x := by unfold ab; rw [Int.natAbs_neg]
section
variable {n : Int} {pg : Int → Option Int} (P : Pg n pg) {first : Int} {xs ss : List Int}
include P
omit P in
theorem Cl.app {a b : List Int} (h1 : Cl pg a) (h2 : Cl pg b) : Cl pg (a ++ b) := by
  intro x y e
  rw [List.mem_append, List.mem_append, h1 x y e, h2 x y e]
end
end Ch
set_option Elab.async false
set_option linter.all false
set_option maxHeartbeats 1000000
/-! M03c: readings are told by their first item. -/
set_option Elab.async false
set_option linter.all false
set_option maxRecDepth 100000
set_option maxHeartbeats 1000000
/-! M3: readings of a layout, plain (joined by mkm3.py). -/
namespace VS.TR
open PySem PySem.Spec PyProof.Rows L2
def pairD (L : List (Int × Int)) : List (Int × Int) := L.flatMap fun p => [(p.1, p.2), (p.2, p.1)]
theorem lookup_mem {D : List (Int × Int)} {a b : Int} (h : D.lookup a = some b) : (a, b) ∈ D := by
  induction D with
  | nil => cases h
  | cons q D ih =>
    obtain ⟨c, d⟩ := q
    rw [List.lookup_cons] at h
    by_cases z : a = c
    · subst z
      simp at h
      subst h
      exact List.mem_cons_self
    · rw [beq_false_of_ne z] at h
      exact List.mem_cons_of_mem _ (ih h)
theorem mem_lookup {D : List (Int × Int)} (hn : (D.map (·.1)).Nodup) {a b : Int} (h : (a, b) ∈ D) : D.lookup a = some b := by
  induction D with
  | nil => cases h
  | cons q D ih =>
    obtain ⟨c, d⟩ := q
    rw [List.map_cons, List.nodup_cons] at hn
    rw [List.lookup_cons]
    rcases List.mem_cons.mp h with e | h
    · cases e
      simp
    · have z : a ≠ c := fun e => hn.1 (List.mem_map.mpr ⟨(a, b), h, e⟩)
      rw [beq_false_of_ne z]
      exact ih hn.2 h
theorem pairD_keys (L : List (Int × Int)) : (pairD L).map (·.1) = endsOf L := by
  unfold pairD endsOf
  rw [List.map_flatMap]
  rfl
theorem mem_pairD {L : List (Int × Int)} {a b : Int} : (a, b) ∈ pairD L ↔ (a, b) ∈ L ∨ (b, a) ∈ L := by
  unfold pairD
  rw [List.mem_flatMap]
  constructor
  · rintro ⟨p, hp, h⟩
    simp only [List.mem_cons, List.not_mem_nil, or_false, Prod.mk.injEq] at h
    rcases h with ⟨rfl, rfl⟩ | ⟨rfl, rfl⟩
    · exact .inl hp
    · exact .inr hp
  · rintro (h | h)
    · exact ⟨_, h, by simp⟩
    · exact ⟨_, h, by simp⟩
theorem pget_iff {n : Int} {L : List (Int × Int)} (h : Lay n L) {a b : Int} : pget L a = some b ↔ (a, b) ∈ L ∨ (b, a) ∈ L := by
  rw [← mem_pairD]
  constructor
  · exact fun e => lookup_mem e
  · intro e
    have q : (pairD L).lookup a = some b := mem_lookup (by rw [pairD_keys]; exact h.nd) e
    exact q
theorem lay_pg {n : Int} {L : List (Int × Int)} (h : Lay n L) : Ch.Pg n (pget L) := by
  have key : ∀ a b, (a, b) ∈ L → a < b ∧ (a ≠ 0 ∧ -n ≤ a ∧ a ≤ n) ∧ (b ≠ 0 ∧ -n ≤ b ∧ b ≤ n) := fun a b hp => by
    have hc := h.cpl _ hp
    simp only [isCpl, isEnd, Bool.and_eq_true, decide_eq_true_eq] at hc
    omega
  refine ⟨fun a b e => ?_, fun a b e => ?_, fun a b e => ?_⟩
  · rw [pget_iff h] at e ⊢
    exact e.symm
  · rw [pget_iff h] at e
    rcases e with e | e <;> have := key _ _ e <;> omega
  · rw [pget_iff h] at e
    rcases e with e | e <;> have := key _ _ e <;> omega
def absI (xs : List Int) : List Int := xs.map fun x => (x.natAbs : Int)
/-- a row, read from its left end -/
def RowX (n : Int) (L : List (Int × Int)) (xs : List Int) : Prop := ∃ first, Ch.Whole n (pget L) first xs ∧ pget L (-first) = none
def ssOf (Xs : List (List Int)) : List Int := Xs.flatMap absI
structure RInv (n : Int) (L : List (Int × Int)) (cur : Int) (Xs : List (List Int)) : Prop where
  row : ∀ xs ∈ Xs, RowX n L xs
  nd : (ssOf Xs).Nodup
  cl : Ch.Cl (pget L) (ssOf Xs)
  op : ∀ p, 1 ≤ p → p < cur → (pget L p = none ∨ pget L (-p) = none) → p ∈ ssOf Xs
  rng : ∀ a ∈ ssOf Xs, 1 ≤ a ∧ a ≤ n
theorem nodup_len {n : Int} {ss : List Int} (hn : ss.Nodup) (hr : ∀ a ∈ ss, 1 ≤ a ∧ a ≤ n) : ss.length ≤ n.toNat := by
  have a : (ss.map Int.toNat).Nodup := by
    rw [List.nodup_iff_pairwise_ne] at hn ⊢
    rw [List.pairwise_map, List.pairwise_iff_getElem]
    rw [List.pairwise_iff_getElem] at hn
    intro i j hi hj hij e
    have q := hn i j hi hj hij
    have r1 := hr _ (List.getElem_mem hi)
    have r2 := hr _ (List.getElem_mem hj)
    omega
  have b := Ch.pigeon (n.toNat + 1) (0 :: ss.map Int.toNat) (List.nodup_cons.mpr ⟨fun q => by
    obtain ⟨x, hx, e⟩ := List.mem_map.mp q
    have := hr x hx
    omega, a⟩) (fun x hx => by
      rcases List.mem_cons.mp hx with rfl | hx
      · omega
      · obtain ⟨y, hy, rfl⟩ := List.mem_map.mp hx
        have := hr y hy
        omega)
  rw [List.length_cons, List.length_map] at b
  omega
structure GInv (n : Int) (L : List (Int × Int)) (cur : Int) (Xs Ys : List (List Int)) : Prop where
  base : RInv n L (n + 1) Xs
  ring : ∀ ys ∈ Ys, ∃ first, Ch.Whole n (pget L) first ys ∧ 1 ≤ first ∧ (∃ l, ys[ys.length - 1]? = some l ∧ Ch.nx (pget L) l = some first) ∧ ∀ y ∈ ys, first ≤ Ch.ab y
  nd : (ssOf Xs ++ ssOf Ys).Nodup
  cl : Ch.Cl (pget L) (ssOf Xs ++ ssOf Ys)
  all : ∀ p, 1 ≤ p → p < cur → p ∈ ssOf Xs ++ ssOf Ys
  rng : ∀ a ∈ ssOf Xs ++ ssOf Ys, 1 ≤ a ∧ a ≤ n
theorem two_of_abs {xs : List Int} (hn : (absI xs).Nodup) {x y : Int} (hx : x ∈ xs) (hy : y ∈ xs) (e : Ch.ab x = Ch.ab y) : x = y := by
  obtain ⟨i, hi, rfl⟩ := List.getElem_of_mem hx
  obtain ⟨j, hj, rfl⟩ := List.getElem_of_mem hy
  have hl : (absI xs).length = xs.length := by unfold absI; rw [List.length_map]
  have q : i = j := (List.getElem?_inj (by omega) hn).mp (by
    unfold absI
    rw [List.getElem?_map, List.getElem?_map, List.getElem?_eq_getElem hi, List.getElem?_eq_getElem hj]
    exact congrArg some e)
  subst q
  rfl
def rowL (xs : List Int) : List (Int × Int) := xs.zip (xs.drop 1)
def ringL (xs : List Int) : List (Int × Int) := xs.zip (xs.drop 1 ++ xs.take 1)
def cpl (x y : Int) : Int × Int := (if 0 - y < x then 0 - y else x, if 0 - y > x then 0 - y else x)
def linksOf (Xs Ys : List (List Int)) : List (Int × Int) := Xs.flatMap rowL ++ Ys.flatMap ringL
theorem mem_rowL {xs : List Int} {x y : Int} : (x, y) ∈ rowL xs ↔ ∃ i, xs[i]? = some x ∧ xs[i + 1]? = some y := by
  unfold rowL
  rw [List.mem_iff_getElem?]
  constructor
  · rintro ⟨i, e⟩
    obtain ⟨a, b⟩ := List.getElem?_zip_eq_some.mp e
    rw [List.getElem?_drop] at b
    exact ⟨i, a, by rw [Nat.add_comm i 1]; exact b⟩
  · rintro ⟨i, a, b⟩
    refine ⟨i, List.getElem?_zip_eq_some.mpr ⟨a, ?_⟩⟩
    rw [List.getElem?_drop, Nat.add_comm 1 i]
    exact b
theorem mem_ringL {xs : List Int} {x y : Int} : (x, y) ∈ ringL xs ↔ ∃ i, xs[i]? = some x ∧ (xs[i + 1]? = some y ∨ (i + 1 = xs.length ∧ xs[0]? = some y)) := by
  unfold ringL
  rw [List.mem_iff_getElem?]
  have key : ∀ i, i < xs.length → ((xs.drop 1 ++ xs.take 1)[i]? = some y ↔ (xs[i + 1]? = some y ∨ (i + 1 = xs.length ∧ xs[0]? = some y))) := fun i hi => by
    by_cases hl : i + 1 < xs.length
    · rw [List.getElem?_append_left (by rw [List.length_drop]; omega), List.getElem?_drop, Nat.add_comm 1 i]
      exact ⟨fun q => .inl q, fun q => q.elim id fun q => by omega⟩
    · have e : i + 1 = xs.length := by omega
      rw [List.getElem?_append_right (by rw [List.length_drop]; omega), List.length_drop, show i - (xs.length - 1) = 0 by omega, List.getElem?_take_of_lt (by omega), List.getElem?_eq_none (l := xs) (i := i + 1) (by omega)]
      exact ⟨fun q => .inr ⟨e, q⟩, fun q => q.elim (fun q => nomatch q) fun q => q.2⟩
  constructor
  · rintro ⟨i, e⟩
    obtain ⟨a, b⟩ := List.getElem?_zip_eq_some.mp e
    exact ⟨i, a, (key i (List.getElem?_eq_some_iff.mp a).1).mp b⟩
  · rintro ⟨i, a, b⟩
    exact ⟨i, List.getElem?_zip_eq_some.mpr ⟨a, (key i (List.getElem?_eq_some_iff.mp a).1).mpr b⟩⟩
theorem zip_sub {α β : Type} : ∀ (a : List α) (b : List β), ((a.zip b).map Prod.fst).Sublist a
  | [], _ => .slnil
  | _ :: _, [] => List.nil_sublist _
  | x :: a, y :: b => (zip_sub a b).cons₂ x
theorem flat_sub {f : List Int → List (Int × Int)} (hf : ∀ xs, ((f xs).map Prod.fst).Sublist xs) : ∀ Xs : List (List Int), ((Xs.flatMap f).map Prod.fst).Sublist (Xs.flatMap id)
  | [] => .slnil
  | x :: Xs => by
    rw [List.flatMap_cons, List.flatMap_cons, List.map_append]
    exact (hf x).append (flat_sub hf Xs)
def itemsOf (Xs Ys : List (List Int)) : List Int := Xs.flatMap id ++ Ys.flatMap id
theorem items_abs (Xs Ys : List (List Int)) : (itemsOf Xs Ys).map Ch.ab = ssOf Xs ++ ssOf Ys := by
  unfold itemsOf ssOf
  rw [List.map_append, List.map_flatMap, List.map_flatMap]
  rfl
end VS.TR
set_option Elab.async false
set_option linter.all false
set_option maxRecDepth 100000
set_option maxHeartbeats 1000000
/-! Q5: the readings of a layout. -/
namespace VS.TR
open PySem PySem.Spec PyProof.Rows L2
/-! ### plain steps -/
section
variable {n : Int} {L : List (Int × Int)} {cur : Int} {Xs Ys : List (List Int)}
theorem GInv.start (h : RInv n L (n + 1) Xs) : GInv n L 1 Xs [] :=
  ⟨h, fun ys hy => absurd hy (by simp), by simpa [ssOf] using h.nd, by simpa [ssOf] using h.cl, fun p p1 p2 => by omega, by simpa [ssOf] using h.rng⟩
end
/-! ### one reading -/
/-! ### what is seen -/
end VS.TR
set_option Elab.async false
set_option linter.all false
set_option maxRecDepth 100000
set_option maxHeartbeats 1000000
/-! Q6: rows_of, rings_of. -/
namespace VS.TR
open PySem PySem.Spec PyProof.Rows L2
end VS.TR
set_option Elab.async false
set_option linter.all false
set_option maxRecDepth 100000
set_option maxHeartbeats 1000000
/-! Q7: couplings of readings; the judged part. -/
namespace VS.TR
open PySem PySem.Spec PyProof.Rows L2
def cp (p : Int × Int) : Int × Int := cpl p.1 p.2
end VS.TR
set_option Elab.async false
set_option linter.all false
set_option maxRecDepth 100000
set_option maxHeartbeats 1000000
/-! Q8: rings turned about and begun elsewhere. -/
namespace VS.TR
open PySem PySem.Spec PyProof.Rows L2
/-! ### the layout of dealt readings -/
structure Dealt (n : Int) (Rs Gs : List (List Int)) : Prop where
  ne : ∀ r ∈ Rs ++ Gs, r ≠ []
  nd : (ssOf Rs ++ ssOf Gs).Nodup
  all : ∀ p, 1 ≤ p → p ≤ n → p ∈ ssOf Rs ++ ssOf Gs
  rng : ∀ x ∈ itemsOf Rs Gs, x ≠ 0 ∧ -n ≤ x ∧ x ≤ n
def layOf (Rs Gs : List (List Int)) : List (Int × Int) := sortP ((linksOf Rs Gs).map cp)
section
variable {n : Int} {Rs Gs : List (List Int)} (D : Dealt n Rs Gs)
include D
theorem Dealt.inj {x y : Int} (hx : x ∈ itemsOf Rs Gs) (hy : y ∈ itemsOf Rs Gs) (e : Ch.ab x = Ch.ab y) : x = y :=
  two_of_abs (xs := itemsOf Rs Gs) (by
    have := items_abs Rs Gs
    unfold absI
    rw [show (itemsOf Rs Gs).map (fun x => (x.natAbs : Int)) = ssOf Rs ++ ssOf Gs from this]
    exact D.nd) hx hy e
theorem Dealt.ind : (itemsOf Rs Gs).Nodup := by
  have h := D.nd
  rw [← items_abs] at h
  rw [List.nodup_iff_pairwise_ne] at h ⊢
  rw [List.pairwise_map] at h
  exact h.imp fun {a b} q e => q (by rw [e])
omit D in
theorem link_items {x y : Int} (q : (x, y) ∈ linksOf Rs Gs) : x ∈ itemsOf Rs Gs ∧ y ∈ itemsOf Rs Gs := by
  unfold linksOf at q
  unfold itemsOf
  rcases List.mem_append.mp q with q | q
  · obtain ⟨r, hr, q⟩ := List.mem_flatMap.mp q
    obtain ⟨i, h1, h2⟩ := mem_rowL.mp q
    exact ⟨List.mem_append_left _ (List.mem_flatMap.mpr ⟨r, hr, List.mem_of_getElem? h1⟩), List.mem_append_left _ (List.mem_flatMap.mpr ⟨r, hr, List.mem_of_getElem? h2⟩)⟩
  · obtain ⟨r, hr, q⟩ := List.mem_flatMap.mp q
    obtain ⟨i, h1, h2⟩ := mem_ringL.mp q
    refine ⟨List.mem_append_right _ (List.mem_flatMap.mpr ⟨r, hr, List.mem_of_getElem? h1⟩), List.mem_append_right _ (List.mem_flatMap.mpr ⟨r, hr, ?_⟩)⟩
    rcases h2 with h2 | ⟨_, h2⟩
    · exact List.mem_of_getElem? h2
    · exact List.mem_of_getElem? h2
theorem Dealt.opp {x y : Int} (hx : x ∈ itemsOf Rs Gs) (hy : y ∈ itemsOf Rs Gs) : x ≠ -y := fun e => by
  have := D.inj hx hy (by rw [e, Ch.ab_neg])
  have := (D.rng y hy).1
  omega
omit D in
theorem cp_cases {x y : Int} (h : x ≠ -y) : cp (x, y) = (x, -y) ∧ x < -y ∨ cp (x, y) = (-y, x) ∧ -y < x := by
  unfold cp cpl
  show ((if 0 - y < x then 0 - y else x, if 0 - y > x then 0 - y else x) = (x, -y) ∧ _) ∨ ((if 0 - y < x then 0 - y else x, if 0 - y > x then 0 - y else x) = (-y, x) ∧ _)
  rw [show 0 - y = -y by omega]
  by_cases c : -y < x
  · right
    rw [if_pos c, if_neg (by omega)]
    exact ⟨rfl, c⟩
  · left
    rw [if_neg c, if_pos (by omega)]
    exact ⟨rfl, by omega⟩
omit D in
theorem ends_links : ∀ F : List (Int × Int), (∀ p ∈ F, p.1 ≠ -p.2) → (endsOf (F.map cp)).Perm (F.map Prod.fst ++ (F.map Prod.snd).map fun y => -y)
  | [], _ => .refl _
  | (x, y) :: F, h => by
    have ih := ends_links F fun p hp => h p (List.mem_cons_of_mem _ hp)
    have e : endsOf (((x, y) :: F).map cp) = [(cp (x, y)).1, (cp (x, y)).2] ++ endsOf (F.map cp) := rfl
    rw [e]
    have p1 : ([(cp (x, y)).1, (cp (x, y)).2] : List Int).Perm [x, -y] := by
      rcases cp_cases (h (x, y) List.mem_cons_self) with ⟨q, _⟩ | ⟨q, _⟩
      · rw [q]
      · rw [q]
        exact .swap _ _ _
    refine (p1.append ih).trans ?_
    show (x :: -y :: (F.map Prod.fst ++ (F.map Prod.snd).map fun y => -y)).Perm (x :: (F.map Prod.fst ++ -y :: (F.map Prod.snd).map fun y => -y))
    exact List.Perm.cons _ List.perm_middle.symm
omit D in
theorem snd_row (r : List Int) : ((rowL r).map Prod.snd).Sublist r := by
  unfold rowL
  rw [List.map_snd_zip (by rw [List.length_drop]; omega)]
  exact List.drop_sublist _ _
omit D in
theorem snd_ring (r : List Int) : ((ringL r).map Prod.snd).Perm r := by
  unfold ringL
  rw [List.map_snd_zip (by rw [List.length_append, List.length_drop, List.length_take]; omega)]
  refine List.perm_append_comm.trans ?_
  rw [List.take_append_drop]
omit D in
theorem flat_sub2 {f : List Int → List (Int × Int)} (hf : ∀ xs, ((f xs).map Prod.snd).Sublist xs) : ∀ Xs : List (List Int), ((Xs.flatMap f).map Prod.snd).Sublist (Xs.flatMap id)
  | [] => .slnil
  | x :: Xs => by
    rw [List.flatMap_cons, List.flatMap_cons, List.map_append]
    exact (hf x).append (flat_sub2 hf Xs)
omit D in
theorem flat_perm {f : List Int → List (Int × Int)} (hf : ∀ xs, ((f xs).map Prod.snd).Perm xs) : ∀ Xs : List (List Int), ((Xs.flatMap f).map Prod.snd).Perm (Xs.flatMap id)
  | [] => .refl _
  | x :: Xs => by
    rw [List.flatMap_cons, List.flatMap_cons, List.map_append]
    exact (hf x).append (flat_perm hf Xs)
theorem Dealt.lay (hn : 1 ≤ n ∧ n ≤ 60) : Lay n (layOf Rs Gs) := by
  have opp : ∀ p ∈ linksOf Rs Gs, p.1 ≠ -p.2 := fun ⟨x, y⟩ hp => D.opp (link_items hp).1 (link_items hp).2
  have n1 : ((linksOf Rs Gs).map Prod.fst).Nodup := by
    have s : ((linksOf Rs Gs).map Prod.fst).Sublist (itemsOf Rs Gs) := by
      unfold linksOf itemsOf
      rw [List.map_append]
      exact (flat_sub (fun xs => zip_sub _ _) Rs).append (flat_sub (fun xs => zip_sub _ _) Gs)
    exact D.ind.sublist s
  have n2 : ((linksOf Rs Gs).map Prod.snd).Nodup := by
    unfold linksOf
    rw [List.map_append]
    have p : ((Rs.flatMap rowL).map Prod.snd ++ (Gs.flatMap ringL).map Prod.snd).Perm ((Rs.flatMap rowL).map Prod.snd ++ Gs.flatMap id) := (flat_perm snd_ring Gs).append_left _
    have s : ((Rs.flatMap rowL).map Prod.snd ++ Gs.flatMap id).Sublist (itemsOf Rs Gs) := (flat_sub2 snd_row Rs).append (.refl _)
    exact p.nodup_iff.mpr (D.ind.sublist s)
  have len : (linksOf Rs Gs).length ≤ 100000 := by
    have s := n1
    have l : (linksOf Rs Gs).length = ((linksOf Rs Gs).map Prod.fst).length := by rw [List.length_map]
    have i : (itemsOf Rs Gs).length = (ssOf Rs ++ ssOf Gs).length := by rw [← items_abs, List.length_map]
    have r := nodup_len (n := n) D.nd fun a ha => by
      rw [← items_abs] at ha
      obtain ⟨x, hx, rfl⟩ := List.mem_map.mp ha
      have := D.rng x hx
      unfold Ch.ab
      omega
    have sl : ((linksOf Rs Gs).map Prod.fst).Sublist (itemsOf Rs Gs) := by
      unfold linksOf itemsOf
      rw [List.map_append]
      exact (flat_sub (fun xs => zip_sub _ _) Rs).append (flat_sub (fun xs => zip_sub _ _) Gs)
    have := sl.length_le
    omega
  refine sortP_lay (fun p hp => ?_) ?_ (by rw [List.length_map]; exact len)
  · obtain ⟨⟨x, y⟩, hq, rfl⟩ := List.mem_map.mp hp
    obtain ⟨i1, i2⟩ := link_items hq
    have r1 := D.rng x i1
    have r2 := D.rng y i2
    rcases cp_cases (opp _ hq) with ⟨q, l⟩ | ⟨q, l⟩
    · rw [q]
      simp only [isCpl, isEnd, Bool.and_eq_true, decide_eq_true_eq]
      omega
    · rw [q]
      simp only [isCpl, isEnd, Bool.and_eq_true, decide_eq_true_eq]
      omega
  · refine (ends_links _ opp).nodup_iff.mpr (List.nodup_append.mpr ⟨n1, ?_, fun a ha b hb e => ?_⟩)
    · rw [List.nodup_iff_pairwise_ne] at n2 ⊢
      rw [List.pairwise_map]
      exact n2.imp fun {a b} q e => q (by omega)
    · obtain ⟨⟨x, y⟩, h1, rfl⟩ := List.mem_map.mp ha
      obtain ⟨z, h2, rfl⟩ := List.mem_map.mp hb
      obtain ⟨⟨u, v⟩, h3, rfl⟩ := List.mem_map.mp h2
      exact D.opp (link_items h1).1 (link_items h3).2 e
theorem Dealt.nx (hn : 1 ≤ n ∧ n ≤ 60) {x y : Int} : Ch.nx (pget (layOf Rs Gs)) x = some y ↔ (x, y) ∈ linksOf Rs Gs ∨ (-y, -x) ∈ linksOf Rs Gs := by
  have mem : ∀ a b, (a, b) ∈ layOf Rs Gs ↔ ∃ u v, (u, v) ∈ linksOf Rs Gs ∧ cp (u, v) = (a, b) := fun a b => by
    unfold layOf
    have pm : (sortP ((linksOf Rs Gs).map cp)).Perm ((linksOf Rs Gs).map cp) := List.mergeSort_perm _ leP
    rw [pm.mem_iff, List.mem_map]
    exact ⟨fun ⟨⟨u, v⟩, h1, h2⟩ => ⟨u, v, h1, h2⟩, fun ⟨u, v, h1, h2⟩ => ⟨(u, v), h1, h2⟩⟩
  have opp : ∀ u v, (u, v) ∈ linksOf Rs Gs → u ≠ -v := fun u v hp => D.opp (link_items hp).1 (link_items hp).2
  rw [Ch.nx_some (lay_pg (D.lay hn)), pget_iff (D.lay hn), mem, mem]
  constructor
  · rintro (⟨u, v, h1, h2⟩ | ⟨u, v, h1, h2⟩)
    · rcases cp_cases (opp u v h1) with ⟨q, _⟩ | ⟨q, _⟩
      · rw [q] at h2
        injection h2 with e1 e2
        left
        rw [← e1, show y = v by omega]
        exact h1
      · rw [q] at h2
        injection h2 with e1 e2
        right
        rw [show -x = v by omega, ← e2]
        exact h1
    · rcases cp_cases (opp u v h1) with ⟨q, _⟩ | ⟨q, _⟩
      · rw [q] at h2
        injection h2 with e1 e2
        right
        rw [← e1, show -x = v by omega]
        exact h1
      · rw [q] at h2
        injection h2 with e1 e2
        left
        rw [← e2, show y = v by omega]
        exact h1
  · rintro (h | h)
    · rcases cp_cases (opp x y h) with ⟨q, _⟩ | ⟨q, _⟩
      · exact .inl ⟨x, y, h, q⟩
      · exact .inr ⟨x, y, h, q⟩
    · rcases cp_cases (opp (-y) (-x) h) with ⟨q, _⟩ | ⟨q, _⟩
      · exact .inr ⟨-y, -x, h, by rw [q, Int.neg_neg]⟩
      · exact .inl ⟨-y, -x, h, by rw [q, Int.neg_neg]⟩
end
end VS.TR
set_option Elab.async false
set_option linter.all false
set_option maxRecDepth 100000
set_option maxHeartbeats 1000000
/-! Q9: the dealt readings are the layout's. -/
namespace VS.TR
open PySem PySem.Spec PyProof.Rows L2
theorem flat_uniq : ∀ {Xs : List (List Int)}, (Xs.flatMap id).Nodup → ∀ {r s : List Int} {x : Int}, r ∈ Xs → s ∈ Xs → x ∈ r → x ∈ s → r = s
  | [], _, _, _, _, h, _, _, _ => nomatch h
  | a :: Xs, nd, r, s, x, hr, hs, h1, h2 => by
    rw [List.flatMap_cons] at nd
    obtain ⟨_, n2, n3⟩ := List.nodup_append.mp nd
    rcases List.mem_cons.mp hr with e1 | hr'
    · rcases List.mem_cons.mp hs with e2 | hs'
      · rw [e1, e2]
      · rw [e1] at h1
        exact absurd rfl (n3 x h1 x (List.mem_flatMap.mpr ⟨s, hs', h2⟩))
    · rcases List.mem_cons.mp hs with e2 | hs'
      · rw [e2] at h2
        exact absurd rfl (n3 x h2 x (List.mem_flatMap.mpr ⟨r, hr', h1⟩))
      · exact flat_uniq n2 hr' hs' h1 h2
theorem flat_nd : ∀ {Xs : List (List Int)}, (Xs.flatMap id).Nodup → ∀ {r : List Int}, r ∈ Xs → r.Nodup
  | a :: Xs, nd, r, hr => by
    rw [List.flatMap_cons] at nd
    obtain ⟨n1, n2, _⟩ := List.nodup_append.mp nd
    rcases List.mem_cons.mp hr with rfl | hr
    · exact n1
    · exact flat_nd n2 hr
section
variable {n : Int} {Rs Gs : List (List Int)} (D : Dealt n Rs Gs) (hn : 1 ≤ n ∧ n ≤ 60)
include D hn
theorem Dealt.row {r : List Int} (hr : r ∈ Rs) : RowX n (layOf Rs Gs) r := by
  have P := lay_pg (D.lay hn)
  obtain ⟨x, t, rfl⟩ : ∃ x t, r = x :: t := by
    cases r with
    | nil => exact absurd rfl (D.ne [] (List.mem_append_left _ hr))
    | cons x t => exact ⟨x, t, rfl⟩
  have it : ∀ z ∈ x :: t, z ∈ itemsOf Rs Gs := fun z hz => List.mem_append_left _ (List.mem_flatMap.mpr ⟨_, hr, hz⟩)
  have ind := D.ind
  unfold itemsOf at ind
  obtain ⟨nR, nG, dis⟩ := List.nodup_append.mp ind
  have rn := flat_nd nR hr
  -- a link at an item of this row stands in this row
  have src : ∀ {u v : Int}, (u, v) ∈ linksOf Rs Gs → (u ∈ x :: t ∨ v ∈ x :: t) → ∃ i, (x :: t)[i]? = some u ∧ (x :: t)[i + 1]? = some v := fun {u v} q c => by
    unfold linksOf at q
    rcases List.mem_append.mp q with q | q
    · obtain ⟨s, hs, q⟩ := List.mem_flatMap.mp q
      obtain ⟨i, h1, h2⟩ := mem_rowL.mp q
      have e : s = x :: t := by
        rcases c with c | c
        · exact flat_uniq nR hs hr (List.mem_of_getElem? h1) c
        · exact flat_uniq nR hs hr (List.mem_of_getElem? h2) c
      subst e
      exact ⟨i, h1, h2⟩
    · obtain ⟨s, hs, q⟩ := List.mem_flatMap.mp q
      obtain ⟨i, h1, h2⟩ := mem_ringL.mp q
      have i2 : v ∈ s := by
        rcases h2 with h2 | ⟨_, h2⟩
        · exact List.mem_of_getElem? h2
        · exact List.mem_of_getElem? h2
      rcases c with c | c
      · exact absurd rfl (dis u (List.mem_flatMap.mpr ⟨_, hr, c⟩) u (List.mem_flatMap.mpr ⟨s, hs, List.mem_of_getElem? h1⟩))
      · exact absurd rfl (dis v (List.mem_flatMap.mpr ⟨_, hr, c⟩) v (List.mem_flatMap.mpr ⟨s, hs, i2⟩))
  refine ⟨x, ⟨⟨rfl, fun i a b h1 h2 => ?_, fun j e => ?_, fun z hz => D.rng z (it z hz)⟩, ?_⟩, ?_⟩
  · refine (D.nx hn).mpr (.inl (List.mem_append_left _ (List.mem_flatMap.mpr ⟨_, hr, mem_rowL.mpr ⟨i, h1, h2⟩⟩)))
  · have e2 : t[j]? = some x := by simpa using e
    exact (List.nodup_cons.mp rn).1 (List.mem_of_getElem? e2)
  · have hlt : (x :: t).length - 1 < (x :: t).length := by simp
    refine ⟨(x :: t)[(x :: t).length - 1], List.getElem?_eq_getElem hlt, .inl ?_⟩
    have hm := List.getElem_mem hlt
    generalize hl : (x :: t)[(x :: t).length - 1] = l at hm
    cases e : Ch.nx (pget (layOf Rs Gs)) l with
    | none => rfl
    | some y =>
      rcases (D.nx hn).mp e with q | q
      · obtain ⟨i, h1, h2⟩ := src q (.inl hm)
        have hi := (List.getElem?_eq_some_iff.mp h1).1
        have hi2 := (List.getElem?_eq_some_iff.mp h2).1
        have : i = (x :: t).length - 1 := (List.getElem?_inj hi rn).mp (by rw [h1, List.getElem?_eq_getElem hlt, hl])
        omega
      · have := D.opp (it l hm) (link_items q).2
        rw [Int.neg_neg] at this
        exact absurd rfl this
  · cases e : pget (layOf Rs Gs) (-x) with
    | none => rfl
    | some b =>
      have en : Ch.nx (pget (layOf Rs Gs)) (-x) = some (-b) := by unfold Ch.nx; rw [e]; rfl
      rcases (D.nx hn).mp en with q | q
      · exact absurd rfl (D.opp (link_items q).1 (it x List.mem_cons_self))
      · rw [Int.neg_neg, Int.neg_neg] at q
        obtain ⟨i, h1, h2⟩ := src q (.inr List.mem_cons_self)
        have hi2 := (List.getElem?_eq_some_iff.mp h2).1
        have : i + 1 = 0 := (List.getElem?_inj hi2 rn).mp (by rw [h2]; rfl)
        omega
end
end VS.TR
set_option Elab.async false
set_option linter.all false
set_option maxRecDepth 100000
set_option maxHeartbeats 1000000
/-! QR: values that repr shows. -/
namespace VS.TR
open PySem PySem.Spec PyProof.Rows L2
structure Shw (d : PyData) (w k : Nat) : Prop where
  s : d.showable = true
  l : d.leavesShort 13 = true
  w : d.weight ≤ w
  d : d.depth ≤ k
theorem Shw.mono {d : PyData} {w k w' k' : Nat} (h : Shw d w k) (h1 : w ≤ w') (h2 : k ≤ k') : Shw d w' k' := ⟨h.s, h.l, Nat.le_trans h.w h1, Nat.le_trans h.d h2⟩
theorem log2_lt {n k : Nat} (h : n < 2 ^ k) (hk : 0 < k) : n.log2 < k := by
  by_cases h0 : n = 0
  · subst h0
    exact hk
  · exact (Nat.log2_lt h0).mpr h
end VS.TR
set_option Elab.async false
set_option linter.all false
set_option maxRecDepth 100000
set_option maxHeartbeats 1000000
/-! Ma: law k31 (the draws are lines of Lh). -/
namespace VS.TR
open PySem PySem.Spec PyProof.Rows L2
def Pu (K : Nat) (l : List Int) : Prop := ∃ a b c, l = [a, b, c] ∧ 0 ≤ a ∧ (0 ≤ b ∧ b < 2 ^ 150) ∧ (0 ≤ c ∧ c ≤ K)
theorem Pu.mono {K M : Nat} {l : List Int} (h : Pu K l) (e : K ≤ M) : Pu M l := by
  obtain ⟨a, b, c, rfl, h1, h2, h3, h4⟩ := h
  exact ⟨a, b, c, rfl, h1, h2, h3, by omega⟩
theorem bits_le {i : Int} {n : Nat} (h : i.natAbs < 2 ^ n) : Builtin.Int.intBits i ≤ n := by
  unfold Builtin.Int.intBits
  by_cases z : i = 0
  · subst z
    simp
  · have e : (i == 0) = false := beq_false_of_ne z
    rw [e]
    have := (Nat.log2_lt (n := i.natAbs) (k := n) (by omega)).mpr h
    show i.natAbs.log2 + 1 ≤ n
    omega
theorem pow3_ok {i : Int} (h : i.natAbs < 2 ^ 300) : powG i 3 = some (i ^ 3) := gd_ok (by
  have := bits_le h
  unfold okPow
  simp
  omega) _
theorem pow5_ok {i : Int} (h : i.natAbs < 2 ^ 300) : powG i 5 = some (i ^ 5) := gd_ok (by
  have := bits_le h
  unfold okPow
  simp
  omega) _
theorem pow33 : powG 10 33 = some (10 ^ 33) := gd_ok (by decide +kernel) _
theorem pow27 : powG 10 27 = some (10 ^ 27) := gd_ok (by decide +kernel) _
theorem pow31 : powG 10 31 = some (10 ^ 31) := gd_ok (by decide +kernel) _
theorem pick_v {K : Nat} {t : List Int} (ht : Pu K t) (hK : K ≤ 100000) {m : Int} (hm : 0 < m ∧ m < 2 ^ 62) : ∃ r t', T_law_pick t m = .ok (r, t') ∧ 0 ≤ r ∧ r < m ∧ Pu (K + 1) t' := by
  obtain ⟨a, b, c, rfl, ha, hb, hc⟩ := ht
  by_cases h : 0 < a
  · refine ⟨a % m, [a / m, b, c], ?_, Int.emod_nonneg _ (by omega), Int.emod_lt_of_pos _ hm.1, _, _, _, rfl, Int.ediv_nonneg ha (by omega), hb, hc.1, by omega⟩
    unfold T_law_pick
    simp only [atI0, ob, h, decide_true, cd, if_true, mod_ok hm.1, lt, div_ok hm, set0, Ct.fin]
  · generalize hx : (b + 524287 * (c + 1)) ^ 5 % (10 ^ 33 + 61) = x
    have x0 : 0 ≤ x ∧ x < 10 ^ 33 + 61 := by
      rw [← hx]
      exact ⟨Int.emod_nonneg _ (by decide), Int.emod_lt_of_pos _ (by decide)⟩
    generalize hy : (x + 2097143 * (c + 1)) ^ 3 % (10 ^ 27 + 103) = y
    have y0 : 0 ≤ y := by
      rw [← hy]
      exact Int.emod_nonneg _ (by decide)
    have p1 : powG (b + 524287 * (c + 1)) 5 = some ((b + 524287 * (c + 1)) ^ 5) := pow5_ok (by omega)
    have p2 : powG (x + 2097143 * (c + 1)) 3 = some ((x + 2097143 * (c + 1)) ^ 3) := pow3_ok (by omega)
    refine ⟨y / 4093 % m, [a, b, c + 1], ?_, Int.emod_nonneg _ (by omega), Int.emod_lt_of_pos _ hm.1, _, _, _, rfl, ha, hb, by omega, by omega⟩
    unfold T_law_pick
    simp only [atI0, atI1, atI2, ob, h, decide_false, cd, Bool.false_eq_true, if_false, lt, set2, Ct.fin, mul_ok (okMul_l (i := 524287) (by decide)), mul_ok (okMul_l (i := 2097143) (by decide)), p1, pow33, pow27, mod_ok (j := 10 ^ 33 + 61) (by decide), mod_ok (j := 10 ^ 27 + 103) (by decide), hx, p2, hy, div_ok (j := 4093) (by decide), mod_ok hm.1]
theorem pick_ok {K : Nat} {t : List Int} (ht : Pu K t) (hK : K ≤ 100000) {m : Int} (hm : 0 < m ∧ m < 2 ^ 62) : Ok (T_law_pick t m) fun r => 0 ≤ r.1 ∧ r.1 < m ∧ Pu (K + 1) r.2 := by
  obtain ⟨r, t', e, h1, h2, h3⟩ := pick_v ht hK hm
  exact ⟨(r, t'), e, h1, h2, h3⟩
theorem lwell_ok {ns : List Int} {k : Int} (hk : 0 ≤ k ∧ k < 1000) : Ok (T_law_well_2 ns k) fun r => Pu 0 r := by
  have fin : ∀ x : Int, wp (lt x fun cell6 =>
  ob (powG (10 : Int) (18 : Int)) fun pow7 =>
  ob (powG (10 : Int) (31 : Int)) fun pow9 =>
  ob (modG (absT cell6) (pow9 + (33 : Int))) fun mod11 =>
  ob (mulG (6700417 : Int) k) fun mul13 =>
  (.rt (([(max2T (0 : Int) (cell6 - pow7)), ((mod11 + mul13) + (257 : Int)), (0 : Int)] : List Int)) : Ct Unit Unit (List Int))) (fun _ => False) (fun _ => False) (fun _ => False) (fun r => Pu 0 r) := fun x => by
    have m0 := Int.emod_nonneg (absT x) (show (10 ^ 31 + 33 : Int) ≠ 0 by decide)
    have m1 := Int.emod_lt_of_pos (absT x) (show (0 : Int) < 10 ^ 31 + 33 by decide)
    refine w_lt (w_ob pow18 (w_ob pow31 (w_ob (mod_ok (by decide)) (w_ob (mul_ok (okMul_l (by decide))) (w_rt ⟨_, _, _, rfl, ?_, ⟨?_, ?_⟩, Int.le_refl _, by decide⟩)))))
    · unfold max2T
      split <;> omega
    · omega
    · omega
  unfold T_law_well_2
  by_cases c : k < (ns.length : Int)
  · obtain ⟨y, hy, _⟩ := atI_ok (xs := ns) hk.1 c
    exact w_fin (w_ob (x := y) (by rw [decide_eq_true c, hy]; rfl) (fin y))
  · exact w_fin (w_ob (x := 0) (by rw [decide_eq_false c]; rfl) (fin 0))
theorem w_orF {σ τ ρ : Type} {N : σ → Prop} {U C : τ → Prop} {R : ρ → Prop} {c : Bool} {a b : Ct σ τ ρ} (e : c = false) (h1 : wp b N U C R) : wp (cd c a b) N U C R := by
  subst e
  exact h1
/-! ### what repr shows of a few numbers -/
def few (d : PyData) : Prop := d = .none ∨ ∃ i : Int, d = .int i ∧ i.natAbs < 10 ^ 31
theorem few_one {d : PyData} (h : few d) : d.showable = true ∧ d.leavesShort 40 = true ∧ d.weight ≤ 120 ∧ d.depth = 0 := by
  rcases h with rfl | ⟨i, rfl, h⟩
  · exact ⟨rfl, rfl, Nat.zero_le _, rfl⟩
  · have h2 : i.natAbs < 2 ^ 110 := Nat.lt_trans h (by decide)
    have h3 := log2_lt h2 (by decide)
    refine ⟨?_, ?_, ?_, rfl⟩
    · simp only [PyData.showable, decide_eq_true_eq]
      omega
    · have q := int_text_length_le10 (k := 31) (by decide) h
      have q2 : (PyData.shown (.int i)).length ≤ 40 := by
        show (Str.ofString (toString i)).length ≤ 40
        rw [PySem.ofString_length]
        omega
      simp only [PyData.leavesShort]
      exact decide_eq_true q2
    · simp only [PyData.weight]
      split <;> omega
theorem few_all : ∀ {ds : List PyData}, (∀ d ∈ ds, few d) → PyData.showableAll ds = true ∧ PyData.leavesShortAll 40 ds = true ∧ PyData.weightAll ds ≤ ds.length * 121 ∧ PyData.depthAll ds = 0
  | [], _ => ⟨rfl, rfl, Nat.zero_le _, rfl⟩
  | d :: ds, h => by
    obtain ⟨h1, h2, h3, h4⟩ := few_all (ds := ds) fun x hx => h x (List.mem_cons_of_mem _ hx)
    obtain ⟨q1, q2, q3, q4⟩ := few_one (h d List.mem_cons_self)
    refine ⟨?_, ?_, ?_, ?_⟩
    · simp only [PyData.showableAll, q1, h1, Bool.and_self]
    · simp only [PyData.leavesShortAll, q2, h2, Bool.and_self]
    · simp only [PyData.weightAll, List.length_cons, Nat.add_mul, Nat.one_mul]
      omega
    · simp only [PyData.depthAll, q4, h4]
      rfl
theorem repr_few {ds : List PyData} (hl : ds.length ≤ 10) (h : ∀ d ∈ ds, few d) : ∃ t, reprG ds = some t := by
  obtain ⟨h1, h2, h3, h4⟩ := few_all h
  have e : En.en ds = .list ds := by
    show PyData.list (ds.map fun d => d) = _
    rw [List.map_id']
  refine ⟨_, gd_ok ?_ _⟩
  rw [e]
  have q := PyData.shown_le 40 (by decide) (.list ds) (by simpa only [PyData.leavesShort] using h2)
  have w : (PyData.list ds).weight = PyData.weightAll ds := by simp only [PyData.weight]
  have d : (PyData.list ds).depth ≤ 60 := by simp only [PyData.depth]; omega
  have s : (PyData.list ds).showable = true := by simpa only [PyData.showable] using h1
  unfold okShow
  rw [s, decide_eq_true d, decide_eq_true (show (PyData.list ds).shown.length ≤ sizeLine by rw [sizeLine_eq]; omega)]
  rfl
/-! ### the classes -/
def nm19 : List Str := ["InvalidLayout", "InvalidRows", "InvalidRings", "InvalidOpens", "InvalidText", "TooMany", "Farther", "InvalidPieces", "InvalidEnd", "InvalidMove", "InvalidMoves", "InvalidSight", "InvalidNumber", "InvalidCommand", "NotBetween", "MixedWays", "NotFitting", "Clash", "NothingToUndo"]
def rowsE (a b : PyData) : List Er := [⟨"InvalidLayout", some ("index", a)⟩, ⟨"InvalidRows", some ("index", a)⟩, ⟨"InvalidRings", some ("index", a)⟩, ⟨"InvalidOpens", some ("index", a)⟩, ⟨"InvalidText", some ("part", a)⟩, ⟨"TooMany", some ("limit", b)⟩, ⟨"Farther", some ("moves", b)⟩,
  ⟨"InvalidPieces", none⟩, ⟨"InvalidEnd", none⟩, ⟨"InvalidMove", none⟩, ⟨"InvalidMoves", none⟩, ⟨"InvalidSight", none⟩, ⟨"InvalidNumber", none⟩, ⟨"InvalidCommand", none⟩, ⟨"NotBetween", none⟩, ⟨"MixedWays", none⟩, ⟨"NotFitting", none⟩, ⟨"Clash", none⟩, ⟨"NothingToUndo", none⟩]
theorem created_v (t : Str) (a b : PyData) : T_law_created t a b = .ok (rowsE a b) := by
  unfold T_law_created
  exact Ok.eq (w_fin (w_lt (w_ob (gd_ok (by show 5 + 5 ≤ sizeLine; decide) _) (w_lt (w_ob (gd_ok (by show 10 + 4 ≤ sizeLine; decide) _) (w_lt (w_ob (gd_ok (by show 14 + 5 ≤ sizeLine; decide) _) (w_rt rfl))))))))
theorem isE_v {e : Er} (T : Str) (h : e.cls ∈ ernsAll.map (·.1)) : isErG ernsAll e T = some (erS e.cls T) := by
  unfold isErG
  rw [if_pos]
  obtain ⟨p, hp, q⟩ := List.mem_map.mp h
  exact List.any_eq_true.mpr ⟨p, hp, decide_eq_true q⟩
theorem kinds_v {e : Er} (h : e.cls ∈ ernsAll.map (·.1)) : T_law_kinds e = .ok (nm19.map (erS e.cls)) := by
  unfold T_law_kinds
  simp only [isE_v _ h]
  exact Ok.eq (w_fin (w_ob rfl (w_ob rfl (w_ob rfl (w_lt (w_ob rfl (w_ob rfl (w_ob rfl (w_ob (gd_ok (by show 3 + 3 ≤ sizeLine; decide) _) (w_lt (w_ob rfl (w_ob rfl (w_ob rfl (w_ob (gd_ok (by show 6 + 3 ≤ sizeLine; decide) _) (w_lt (w_ob rfl (w_ob rfl (w_ob rfl (w_ob (gd_ok (by show 9 + 3 ≤ sizeLine; decide) _) (w_lt (w_ob rfl (w_ob rfl (w_ob rfl (w_ob (gd_ok (by show 12 + 3 ≤ sizeLine; decide) _) (w_lt (w_ob rfl (w_ob rfl (w_ob rfl (w_ob (gd_ok (by show 15 + 3 ≤ sizeLine; decide) _) (w_lt (w_ob rfl (w_ob (gd_ok (by show 18 + 1 ≤ sizeLine; decide) _) (w_rt rfl)))))))))))))))))))))))))))))))))
theorem tab19 : ∀ i : Nat, i < 19 → ∀ c, nm19[i]? = some c → nm19.map (erS c) = (rangeT 0 19).map fun x => decide (x = (i : Int)) := by
  intro i hi
  have key : ∀ i : Fin 19, nm19.map (erS (nm19.getD i.1 "")) = (rangeT 0 19).map fun x => decide (x = (i.1 : Int)) := by decide +kernel
  intro c hc
  have := key ⟨i, hi⟩
  rw [List.getD_eq_getElem?_getD, hc] at this
  exact this
theorem rows_at (a b : PyData) : ∀ x ∈ enumT 0 (rowsE a b), ∃ i : Nat, i < 19 ∧ x.1 = (i : Int) ∧ nm19[i]? = some x.2.cls ∧ x.2.cls ∈ ernsAll.map (·.1) := by
  intro x hx
  simp only [rowsE, enumT, List.mem_cons, List.not_mem_nil, or_false] at hx
  rcases hx with rfl | rfl | rfl | rfl | rfl | rfl | rfl | rfl | rfl | rfl | rfl | rfl | rfl | rfl | rfl | rfl | rfl | rfl | rfl
  · exact ⟨0, by decide, rfl, rfl, (by show ("InvalidLayout" : Str) ∈ ernsAll.map (·.1); decide)⟩
  · exact ⟨1, by decide, rfl, rfl, (by show ("InvalidRows" : Str) ∈ ernsAll.map (·.1); decide)⟩
  · exact ⟨2, by decide, rfl, rfl, (by show ("InvalidRings" : Str) ∈ ernsAll.map (·.1); decide)⟩
  · exact ⟨3, by decide, rfl, rfl, (by show ("InvalidOpens" : Str) ∈ ernsAll.map (·.1); decide)⟩
  · exact ⟨4, by decide, rfl, rfl, (by show ("InvalidText" : Str) ∈ ernsAll.map (·.1); decide)⟩
  · exact ⟨5, by decide, rfl, rfl, (by show ("TooMany" : Str) ∈ ernsAll.map (·.1); decide)⟩
  · exact ⟨6, by decide, rfl, rfl, (by show ("Farther" : Str) ∈ ernsAll.map (·.1); decide)⟩
  · exact ⟨7, by decide, rfl, rfl, (by show ("InvalidPieces" : Str) ∈ ernsAll.map (·.1); decide)⟩
  · exact ⟨8, by decide, rfl, rfl, (by show ("InvalidEnd" : Str) ∈ ernsAll.map (·.1); decide)⟩
  · exact ⟨9, by decide, rfl, rfl, (by show ("InvalidMove" : Str) ∈ ernsAll.map (·.1); decide)⟩
  · exact ⟨10, by decide, rfl, rfl, (by show ("InvalidMoves" : Str) ∈ ernsAll.map (·.1); decide)⟩
  · exact ⟨11, by decide, rfl, rfl, (by show ("InvalidSight" : Str) ∈ ernsAll.map (·.1); decide)⟩
  · exact ⟨12, by decide, rfl, rfl, (by show ("InvalidNumber" : Str) ∈ ernsAll.map (·.1); decide)⟩
  · exact ⟨13, by decide, rfl, rfl, (by show ("InvalidCommand" : Str) ∈ ernsAll.map (·.1); decide)⟩
  · exact ⟨14, by decide, rfl, rfl, (by show ("NotBetween" : Str) ∈ ernsAll.map (·.1); decide)⟩
  · exact ⟨15, by decide, rfl, rfl, (by show ("MixedWays" : Str) ∈ ernsAll.map (·.1); decide)⟩
  · exact ⟨16, by decide, rfl, rfl, (by show ("NotFitting" : Str) ∈ ernsAll.map (·.1); decide)⟩
  · exact ⟨17, by decide, rfl, rfl, (by show ("Clash" : Str) ∈ ernsAll.map (·.1); decide)⟩
  · exact ⟨18, by decide, rfl, rfl, (by show ("NothingToUndo" : Str) ∈ ernsAll.map (·.1); decide)⟩
theorem erS_top (c : Str) : erS c "HitchError" = true ∧ erS c "ValueError" = true := by
  unfold erS
  constructor
  · rw [show (("HitchError" : Str) == ("HitchError" : Str)) = true from beq_self_eq_true _, Bool.or_true, Bool.true_or]
  · rw [show (("ValueError" : Str) == ("ValueError" : Str)) = true from beq_self_eq_true _, Bool.or_true]
theorem fld_v (c f : Str) (y : PyData) (h : (c, some f) ∈ ernsAll) : fldG ernsAll ⟨c, some (f, y)⟩ f = some y := by
  unfold fldG
  exact if_pos ⟨rfl, h⟩
theorem sign_v {i : Int} (h0 : 0 ≤ i) (h1 : i < 6) : ∃ z : Str, atSG "abc (-" i = some z ∧ z.length = 1 := by
  have : i = 0 ∨ i = 1 ∨ i = 2 ∨ i = 3 ∨ i = 4 ∨ i = 5 := by omega
  unfold atSG
  rw [if_pos (by decide)]
  rcases this with rfl | rfl | rfl | rfl | rfl | rfl <;> exact ⟨_, rfl, rfl⟩
/-- the signs of a text -/
theorem signs_ok : ∀ (xs : List Int) {K : Nat} {t : List Int}, Pu K t → K + xs.length ≤ 90000 → ∃ t' zs, lcT (fun (s21 : List Int) (x22 : Int) => ((T_law_pick s21 (6 : Int)).opt).bind fun r23 => ((atSG ("abc (-" : Str) r23.1)).bind fun sign25 => some ((r23.2), some sign25)) t xs = some (t', zs) ∧ Pu (K + xs.length) t' ∧ zs.length = xs.length ∧ ∀ z ∈ zs, z.length = 1
  | [], K, t, h, _ => ⟨t, [], rfl, h, rfl, fun z hz => (by cases hz)⟩
  | x :: xs, K, t, h, hz => by
    rw [List.length_cons] at hz
    obtain ⟨r, t1, e, h1, h2, h3⟩ := pick_v h (by omega) (m := 6) (by decide)
    obtain ⟨z, ez, lz⟩ := sign_v h1 h2
    obtain ⟨t', zs, e2, p, l, q⟩ := signs_ok xs h3 (by omega)
    refine ⟨t', z :: zs, ?_, ?_, by rw [List.length_cons, List.length_cons, l], fun y hy => ?_⟩
    · unfold lcT
      rw [e]
      show ((atSG ("abc (-" : Str) r).bind fun sign25 => some (t1, some sign25)).bind _ = _
      rw [ez]
      show (lcT _ t1 xs).map _ = _
      rw [e2]
      rfl
    · rw [List.length_cons]
      exact p.mono (by omega)
    · rcases List.mem_cons.mp hy with rfl | hy
      · exact lz
      · exact q y hy
theorem sum_ones : ∀ {zs : List Str}, (∀ z ∈ zs, z.length = 1) → (zs.map (·.length)).sum = zs.length
  | [], _ => rfl
  | z :: zs, h => by
    rw [List.map_cons, List.sum_cons, sum_ones fun y hy => h y (List.mem_cons_of_mem _ hy), h z List.mem_cons_self, List.length_cons]
    omega
theorem pow30 : powG 10 30 = some (10 ^ 30) := gd_ok (by decide +kernel) _
theorem at_few {ds : List PyData} {i : Int} (h0 : 0 ≤ i) (h1 : i < ds.length) (h : ∀ d ∈ ds, few d) : ∃ d, L2.atI ds i = some d ∧ few d := by
  obtain ⟨d, e, m⟩ := atI_ok h0 h1
  exact ⟨d, e, h d m⟩
theorem few_int {i : Int} (h : i.natAbs < 10 ^ 31) : few (.int i) := .inr ⟨i, rfl, h⟩
theorem law_k31_ok (ns : List Int) : T_law_k31 ns = .ok true := by
  refine Ok.eq ?_
  unfold T_law_k31
  have hm : 1 ≤ max2T (1 : Int) (min2T (3 : Int) (ns.length : Int)) ∧ max2T (1 : Int) (min2T (3 : Int) (ns.length : Int)) ≤ 3 := by
    unfold max2T min2T
    constructor
    · split <;> omega
    · split
      · split <;> omega
      · omega
  generalize max2T (1 : Int) (min2T (3 : Int) (ns.length : Int)) = m at hm
  refine w_fin (w_ob (x := rangeT 0 m) (gd_ok (by omega) _) (w_loop (fun _ _ => True) trivial ?_ fun _ _ => w_rt rfl))
  rintro pre x post s e _
  have hx : 0 ≤ x ∧ x < m := by
    have : x ∈ rangeT 0 m := by rw [e]; simp
    unfold rangeT at this
    obtain ⟨i, hi, rfl⟩ := List.mem_map.mp this
    have := List.mem_range.mp hi
    omega
  refine w_cal (lwell_ok (ns := ns) (k := x) (by omega)) fun t0 ht0 => w_lt (w_cal (pick_ok ht0 (by omega) (m := 9) (by decide)) ?_)
  rintro ⟨n1, t1⟩ ⟨a1, a2, a3⟩
  have a1 : 0 ≤ n1 := a1
  have a2 : n1 < 9 := a2
  have a3 : Pu (0 + 1) t1 := a3
  have lr : (rangeT 0 n1).length = n1.toNat := by
    unfold rangeT
    rw [List.length_map, List.length_range]
    omega
  obtain ⟨t2, zs, el, p2, lz, ones⟩ := signs_ok (rangeT 0 n1) a3 (by omega)
  have elc : lcS (fun (s21 : List Int) (x22 : Int) => ((T_law_pick s21 (6 : Int)).opt).bind fun r23 => ((atSG ("abc (-" : Str) r23.1)).bind fun sign25 => some ((r23.2), some sign25)) t1 (rangeT 0 n1) = some (t2, zs) := by
    unfold lcS
    rw [if_pos (by unfold sizeLine; omega)]
    exact el
  have p2 : Pu 10 t2 := p2.mono (by omega)
  have ej : joinG ("" : Str) zs = some (Txt.join ("" : Str) zs) := gd_ok (by
    rw [sum_ones ones]
    show zs.length + zs.length * 0 ≤ 16777216
    omega) _
  refine w_ob (x := rangeT 0 n1) (gd_ok (by show -2 ^ 62 ≤ n1 ∧ n1 < 2 ^ 62; omega) _) (w_ob elc (w_ob ej (w_lt (w_cal (pick_ok p2 (by omega) (m := 400) (by decide)) ?_))))
  rintro ⟨n2, t3⟩ ⟨b1, b2, b3⟩
  have b1 : 0 ≤ n2 := b1
  have b2 : n2 < 400 := b2
  refine w_ob pow30 (w_cal (pick_ok b3 (by omega) (m := 4) (by decide)) ?_)
  rintro ⟨n3, t4⟩ ⟨c1, c2, c3⟩
  have c1 : 0 ≤ n3 := c1
  have c2 : n3 < 4 := c2
  obtain ⟨sp, es, fs⟩ := at_few (ds := [PyData.none, (PyData.int (0 : Int)), (PyData.int n2), (PyData.int (10 ^ 30))]) c1 (by show n3 < 4; exact c2) (fun d hd => by
    simp only [List.mem_cons, List.not_mem_nil, or_false] at hd
    rcases hd with rfl | rfl | rfl | rfl
    · exact .inl rfl
    · exact few_int (by decide)
    · exact few_int (by omega)
    · exact few_int (by decide))
  refine w_ob es (w_lt (w_cal (pick_ok c3 (by omega) (m := 900) (by decide)) ?_))
  rintro ⟨n4, t5⟩ ⟨d1, d2, d3⟩
  have d1 : 0 ≤ n4 := d1
  have d2 : n4 < 900 := d2
  refine w_ob pow30 (w_cal (pick_ok d3 (by omega) (m := 3) (by decide)) ?_)
  rintro ⟨n5, t6⟩ ⟨f1, f2, f3⟩
  have f1 : 0 ≤ n5 := f1
  have f2 : n5 < 3 := f2
  obtain ⟨bo, eb, fb⟩ := at_few (ds := [(PyData.int (500 : Int)), (PyData.int n4), (PyData.int (10 ^ 30))]) f1 (by show n5 < 3; exact f2) (fun d hd => by
    simp only [List.mem_cons, List.not_mem_nil, or_false] at hd
    rcases hd with rfl | rfl | rfl
    · exact few_int (by decide)
    · exact few_int (by omega)
    · exact few_int (by decide))
  refine w_ob eb (w_lt (w_obn (created_v _ _ _) (w_lt ?_)))
  refine w_loop (fun _ _ => True) trivial ?_ fun _ _ => ?_
  · rintro pre2 y post2 s2 e2 _
    obtain ⟨i, hi, ey, hc, hin⟩ := rows_at sp bo y (by rw [e2]; simp)
    refine w_ob (isE_v _ hin) (w_ob (x := false) ?_ (w_orF rfl (w_obn (kinds_v hin) (w_ob (x := rangeT 0 19) (gd_ok (by decide) _) (w_ob (gd_ok (by show (rangeT 0 19).length ≤ _; decide) _) (w_orF ?_ (w_nx trivial)))))))
    · rw [isE_v _ hin, (erS_top _).1, (erS_top _).2]
      rfl
    · rw [tab19 i hi _ hc, ey, decide_eq_true rfl]
      rfl
  · have ec : cutL (rowsE sp bo) none (some (4 : Int)) = [⟨"InvalidLayout", some ("index", sp)⟩, ⟨"InvalidRows", some ("index", sp)⟩, ⟨"InvalidRings", some ("index", sp)⟩, ⟨"InvalidOpens", some ("index", sp)⟩] := rfl
    have el4 : lcO (fun (x71 : Er) => ((fldG ernsAll x71 ("index" : Str))).bind fun fld72 => some (some fld72)) (cutL (rowsE sp bo) none (some (4 : Int))) = some [sp, sp, sp, sp] := by
      rw [ec]
      simp only [lcO, lcS, lcT, fld_v "InvalidLayout" "index" sp (by decide), fld_v "InvalidRows" "index" sp (by decide), fld_v "InvalidRings" "index" sp (by decide), fld_v "InvalidOpens" "index" sp (by decide)]
      rw [if_pos (by show 4 ≤ sizeLine; decide)]
      rfl
    obtain ⟨tx, etx⟩ := repr_few (ds := [sp, sp, sp, sp, sp, bo, bo]) (by show 7 ≤ 10; decide) (fun d hd => by
      simp only [List.mem_cons, List.not_mem_nil, or_false] at hd
      rcases hd with rfl | rfl | rfl | rfl | rfl | rfl | rfl <;> assumption)
    refine w_ob el4 (w_ob (x := ⟨"InvalidText", some ("part", sp)⟩) rfl (w_ob (fld_v _ _ _ (by decide)) (w_ob (x := ⟨"TooMany", some ("limit", bo)⟩) rfl (w_ob (fld_v _ _ _ (by decide)) (w_ob (x := ⟨"Farther", some ("moves", bo)⟩) rfl (w_ob (fld_v _ _ _ (by decide)) (w_ob (gd_ok (by show 4 + 3 ≤ sizeLine; decide) _) (w_lt (w_ob etx ?_)))))))))
    refine w_ob (gd_ok ⟨by decide, by decide, by show 1 * 5 ≤ sizeLine; decide⟩ _) (w_ob (gd_ok ⟨by decide, by decide, by show 1 * 2 ≤ sizeLine; decide⟩ _) (w_ob (gd_ok (by show 5 + 2 ≤ sizeLine; decide) _) (w_ob etx (w_orF (by simp) (w_lt (w_obn (kinds_v (by decide)) (w_ob (gd_ok ⟨by decide, by decide, by show 1 * 19 ≤ sizeLine; decide⟩ _) (w_ob (x := false) ?_ (w_orF rfl (w_nx trivial))))))))))
    rw [isE_v _ (by decide), (erS_top _).2]
    have : (decide (nm19.map (erS ("HitchError" : Str)) = (List.replicate ((19 : Int)).toNat ([false] : List Bool)).flatten)) = true := by decide +kernel
    show orO (!(decide (nm19.map (erS ("HitchError" : Str)) = (List.replicate ((19 : Int)).toNat ([false] : List Bool)).flatten))) _ = _
    rw [this]
    rfl
end VS.TR
namespace P31
theorem pure_law (ns : List Int) (_ : ns.length ≤ 63) : VS.Says RD.f_law_k31 ns := VS.TR.says_of (VS.TR.ok_law_k31 ns) (VS.TR.law_k31_ok ns)
end P31
set_option Elab.async false
set_option linter.all false
set_option maxRecDepth 100000
set_option maxHeartbeats 1000000
namespace K31
open PySem PySem.Spec PyProof.Rows L2 VS
def topS (i : Nat) : Stmt := PySem.Challenge.pw_crosshitch_k31_errors_made.main.body.getD i (.Pass ⟨0, 0, 0, 0⟩)
structure Bi (mg : Str → Option Value) : Prop where
  ValueError_ : mg "ValueError" = none
  abs_ : mg "abs" = none
  enumerate_ : mg "enumerate" = none
  int_ : mg "int" = none
  isinstance_ : mg "isinstance" = none
  len_ : mg "len" = none
  max_ : mg "max" = none
  min_ : mg "min" = none
  range_ : mg "range" = none
  repr_ : mg "repr" = none
section
variable {P : Program} {w : World} {K : Frg} {mg : Str → Option Value} {base : Heap} {CA : Nat → Addr}
def mthS (i j : Nat) : Stmt := match topS i with
  | .ClassDef _ _ _ body _ _ _ _ _ _ _ => body.getD j (.Pass ⟨0, 0, 0, 0⟩)
  | _ => .Pass ⟨0, 0, 0, 0⟩
theorem init_InvalidLayout {fI : Addr} {fd : FuncData} (Hf : HiF K mg) (F : L2.Fun K "__init__" "InvalidLayout.__init__" (mthS 2 0) fI fd) : FnG P w K mg base 1 fI fd ["self", "index"] (spInit K "index") := by
  obtain ⟨Ch, mc, hm, rd, ga, at_⟩ := Hf
  refine fnG_init (N := ["self", "index"]) (m := "not a layout") F ⟨rfl, rfl, rfl, by decide +kernel, rfl, by decide +kernel, by decide +kernel⟩ rfl fun cdv A out s H E => ?_
  exact pss_cons (ps_expr (pe_hinit rfl hm rd ga at_ (pa_cons (pe_var rfl (Or.inl rfl)) (pa_cons pe_str pa_nil)))) (pss_one (ps_ost (pe_var rfl (Or.inl rfl)) (pe_var rfl (Or.inl rfl))))
theorem init_InvalidRows {fI : Addr} {fd : FuncData} (Hf : HiF K mg) (F : L2.Fun K "__init__" "InvalidRows.__init__" (mthS 3 0) fI fd) : FnG P w K mg base 1 fI fd ["self", "index"] (spInit K "index") := by
  obtain ⟨Ch, mc, hm, rd, ga, at_⟩ := Hf
  refine fnG_init (N := ["self", "index"]) (m := "not rows") F ⟨rfl, rfl, rfl, by decide +kernel, rfl, by decide +kernel, by decide +kernel⟩ rfl fun cdv A out s H E => ?_
  exact pss_cons (ps_expr (pe_hinit rfl hm rd ga at_ (pa_cons (pe_var rfl (Or.inl rfl)) (pa_cons pe_str pa_nil)))) (pss_one (ps_ost (pe_var rfl (Or.inl rfl)) (pe_var rfl (Or.inl rfl))))
theorem init_InvalidRings {fI : Addr} {fd : FuncData} (Hf : HiF K mg) (F : L2.Fun K "__init__" "InvalidRings.__init__" (mthS 4 0) fI fd) : FnG P w K mg base 1 fI fd ["self", "index"] (spInit K "index") := by
  obtain ⟨Ch, mc, hm, rd, ga, at_⟩ := Hf
  refine fnG_init (N := ["self", "index"]) (m := "not rings") F ⟨rfl, rfl, rfl, by decide +kernel, rfl, by decide +kernel, by decide +kernel⟩ rfl fun cdv A out s H E => ?_
  exact pss_cons (ps_expr (pe_hinit rfl hm rd ga at_ (pa_cons (pe_var rfl (Or.inl rfl)) (pa_cons pe_str pa_nil)))) (pss_one (ps_ost (pe_var rfl (Or.inl rfl)) (pe_var rfl (Or.inl rfl))))
theorem init_InvalidOpens {fI : Addr} {fd : FuncData} (Hf : HiF K mg) (F : L2.Fun K "__init__" "InvalidOpens.__init__" (mthS 5 0) fI fd) : FnG P w K mg base 1 fI fd ["self", "index"] (spInit K "index") := by
  obtain ⟨Ch, mc, hm, rd, ga, at_⟩ := Hf
  refine fnG_init (N := ["self", "index"]) (m := "not open ends") F ⟨rfl, rfl, rfl, by decide +kernel, rfl, by decide +kernel, by decide +kernel⟩ rfl fun cdv A out s H E => ?_
  exact pss_cons (ps_expr (pe_hinit rfl hm rd ga at_ (pa_cons (pe_var rfl (Or.inl rfl)) (pa_cons pe_str pa_nil)))) (pss_one (ps_ost (pe_var rfl (Or.inl rfl)) (pe_var rfl (Or.inl rfl))))
theorem init_InvalidText {fI : Addr} {fd : FuncData} (Hf : HiF K mg) (F : L2.Fun K "__init__" "InvalidText.__init__" (mthS 6 0) fI fd) : FnG P w K mg base 1 fI fd ["self", "part"] (spInit K "part") := by
  obtain ⟨Ch, mc, hm, rd, ga, at_⟩ := Hf
  refine fnG_init (N := ["self", "part"]) (m := "not such a text") F ⟨rfl, rfl, rfl, by decide +kernel, rfl, by decide +kernel, by decide +kernel⟩ rfl fun cdv A out s H E => ?_
  exact pss_cons (ps_expr (pe_hinit rfl hm rd ga at_ (pa_cons (pe_var rfl (Or.inl rfl)) (pa_cons pe_str pa_nil)))) (pss_one (ps_ost (pe_var rfl (Or.inl rfl)) (pe_var rfl (Or.inl rfl))))
theorem init_TooMany {fI : Addr} {fd : FuncData} (Hf : HiF K mg) (F : L2.Fun K "__init__" "TooMany.__init__" (mthS 7 0) fI fd) : FnG P w K mg base 1 fI fd ["self", "limit"] (spInit K "limit") := by
  obtain ⟨Ch, mc, hm, rd, ga, at_⟩ := Hf
  refine fnG_init (N := ["self", "limit"]) (m := "too many") F ⟨rfl, rfl, rfl, by decide +kernel, rfl, by decide +kernel, by decide +kernel⟩ rfl fun cdv A out s H E => ?_
  exact pss_cons (ps_expr (pe_hinit rfl hm rd ga at_ (pa_cons (pe_var rfl (Or.inl rfl)) (pa_cons pe_str pa_nil)))) (pss_one (ps_ost (pe_var rfl (Or.inl rfl)) (pe_var rfl (Or.inl rfl))))
theorem init_Farther {fI : Addr} {fd : FuncData} (Hf : HiF K mg) (F : L2.Fun K "__init__" "Farther.__init__" (mthS 8 0) fI fd) : FnG P w K mg base 1 fI fd ["self", "moves"] (spInit K "moves") := by
  obtain ⟨Ch, mc, hm, rd, ga, at_⟩ := Hf
  refine fnG_init (N := ["self", "moves"]) (m := "too far from the goal") F ⟨rfl, rfl, rfl, by decide +kernel, rfl, by decide +kernel, by decide +kernel⟩ rfl fun cdv A out s H E => ?_
  exact pss_cons (ps_expr (pe_hinit rfl hm rd ga at_ (pa_cons (pe_var rfl (Or.inl rfl)) (pa_cons pe_str pa_nil)))) (pss_one (ps_ost (pe_var rfl (Or.inl rfl)) (pe_var rfl (Or.inl rfl))))
theorem sc_law_well : FnScope ["script", "k", "cell"] ["script", "k"] (defScope (topS 22)) := ⟨rfl, rfl, rfl, by decide +kernel, rfl, by decide +kernel, by decide +kernel⟩
theorem ok_law_well (B : Bi mg) (T : DefT K mg "_law_well" (topS 22) ["script", "k"])  : FnF P w K mg base CA "_law_well" 1 ["script", "k"] RD.f_law_well_2 :=
  fnF_mk T sc_law_well fun f cdv A out s H E ck hr => ((ss_cons (ss_asg ck.nd (se_if (t_lt ck (se_vr 1) (se_callB lenR by_len (sa_cons (se_vr 0) sa_nil) B.len_)) (e_ix ck (se_vr 0) (se_vr 1)) se_int))
    (ss_one (ss_ret (se_lstC (sa_cons (se_callB (call_max2 ck.calm) by_max2 (sa_cons se_int (sa_cons (e_sub (se_vr 2) (e_pow se_int se_int)) sa_nil)) B.max_) (sa_cons (e_addR (e_addR (e_mod (se_callTy call_int1 by_int (sa_cons (se_callB call_abs by_abs (sa_cons (se_vr 2) sa_nil) B.abs_) sa_nil) B.int_) (e_addR (e_pow se_int se_int) se_int)) (e_mul se_int (se_vr 1))) se_int) (sa_cons se_int sa_nil))))))))
theorem sc_law_pick : FnScope ["well", "bound", "found", "stirred"] ["well", "bound"] (defScope (topS 23)) := ⟨rfl, rfl, rfl, by decide +kernel, rfl, by decide +kernel, by decide +kernel⟩
theorem ok_law_pick (B : Bi mg) (T : DefT K mg "_law_pick" (topS 23) ["well", "bound"])  : FnF P w K mg base CA "_law_pick" 1 ["well", "bound"] RD.f_law_pick :=
  fnF_mk T sc_law_pick fun f cdv A out s H E ck hr => ((ss_cons (ss_if (t_gt ck (e_ix ck (se_vr 0) se_int) se_int) (ss_cons (ss_asg ck.nd (e_mod (se_callTy call_int1 by_int (sa_cons (e_ix ck (se_vr 0) se_int) sa_nil) B.int_) (se_vr 1)))
    (ss_cons (ss_asgG (e_div (e_ix ck (se_vr 0) se_int) (se_vr 1)) (sg_sub ck.hu (se_vr 0) se_int))
    (ss_one (ss_ret (se_vr 2))))) ss_nil)
    (ss_cons (ss_asgG (e_addR (e_ix ck (se_vr 0) se_int) se_int) (sg_sub ck.hu (se_vr 0) se_int))
    (ss_cons (ss_asg ck.nd (e_mod (se_callTy call_int1 by_int (sa_cons (e_pow (e_addR (e_ix ck (se_vr 0) se_int) (e_mul se_int (e_ix ck (se_vr 0) se_int))) se_int) sa_nil) B.int_) (e_addR (e_pow se_int se_int) se_int)))
    (ss_cons (ss_asg ck.nd (e_mod (se_callTy call_int1 by_int (sa_cons (e_pow (e_addR (se_vr 3) (e_mul se_int (e_ix ck (se_vr 0) se_int))) se_int) sa_nil) B.int_) (e_addR (e_pow se_int se_int) se_int)))
    (ss_one (ss_ret (e_mod (se_callTy call_int1 by_int (sa_cons (e_div (se_vr 3) se_int) sa_nil) B.int_) (se_vr 1)))))))))
theorem sc_law_kinds : FnScope ["error", "found"] ["error"] (defScope (topS 24)) := ⟨rfl, rfl, rfl, by decide +kernel, rfl, by decide +kernel, by decide +kernel⟩
theorem ok_law_kinds (B : Bi mg) (T : DefT K mg "_law_kinds" (topS 24) ["error"]) (EF : ErF P w K mg base ernsAll 1)  : FnF P w K mg base CA "_law_kinds" 1 ["error"] RD.f_law_kinds :=
  fnF_mk T sc_law_kinds fun f cdv A out s H E ck hr => ((ss_cons (ss_asg ck.nd (se_lstC (sa_cons (se_isEr EF.e EF.m (by decide) (se_vr 0) B.isinstance_) (sa_cons (se_isEr EF.e EF.m (by decide) (se_vr 0) B.isinstance_) (sa_cons (se_isEr EF.e EF.m (by decide) (se_vr 0) B.isinstance_) sa_nil)))))
    (ss_cons (ss_asg ck.nd (e_addR (se_vr 1) (se_lstC (sa_cons (se_isEr EF.e EF.m (by decide) (se_vr 0) B.isinstance_) (sa_cons (se_isEr EF.e EF.m (by decide) (se_vr 0) B.isinstance_) (sa_cons (se_isEr EF.e EF.m (by decide) (se_vr 0) B.isinstance_) sa_nil))))))
    (ss_cons (ss_asg ck.nd (e_addR (se_vr 1) (se_lstC (sa_cons (se_isEr EF.e EF.m (by decide) (se_vr 0) B.isinstance_) (sa_cons (se_isEr EF.e EF.m (by decide) (se_vr 0) B.isinstance_) (sa_cons (se_isEr EF.e EF.m (by decide) (se_vr 0) B.isinstance_) sa_nil))))))
    (ss_cons (ss_asg ck.nd (e_addR (se_vr 1) (se_lstC (sa_cons (se_isEr EF.e EF.m (by decide) (se_vr 0) B.isinstance_) (sa_cons (se_isEr EF.e EF.m (by decide) (se_vr 0) B.isinstance_) (sa_cons (se_isEr EF.e EF.m (by decide) (se_vr 0) B.isinstance_) sa_nil))))))
    (ss_cons (ss_asg ck.nd (e_addR (se_vr 1) (se_lstC (sa_cons (se_isEr EF.e EF.m (by decide) (se_vr 0) B.isinstance_) (sa_cons (se_isEr EF.e EF.m (by decide) (se_vr 0) B.isinstance_) (sa_cons (se_isEr EF.e EF.m (by decide) (se_vr 0) B.isinstance_) sa_nil))))))
    (ss_cons (ss_asg ck.nd (e_addR (se_vr 1) (se_lstC (sa_cons (se_isEr EF.e EF.m (by decide) (se_vr 0) B.isinstance_) (sa_cons (se_isEr EF.e EF.m (by decide) (se_vr 0) B.isinstance_) (sa_cons (se_isEr EF.e EF.m (by decide) (se_vr 0) B.isinstance_) sa_nil))))))
    (ss_one (ss_ret (e_addR (se_vr 1) (se_lstC (sa_cons (se_isEr EF.e EF.m (by decide) (se_vr 0) B.isinstance_) sa_nil))))))))))))
theorem sc_law_created : FnScope ["text", "spot", "bound", "found"] ["text", "spot", "bound"] (defScope (topS 25)) := ⟨rfl, rfl, rfl, by decide +kernel, rfl, by decide +kernel, by decide +kernel⟩
theorem ok_law_created (B : Bi mg) (T : DefT K mg "_law_created" (topS 25) ["text", "spot", "bound"]) (EF : ErF P w K mg base ernsAll 1)  : FnF P w K mg base CA "_law_created" 3 ["text", "spot", "bound"] RD.f_law_created :=
  fnF_mk T sc_law_created fun f cdv A out s H E ck hr => ((ss_cons (ss_asg ck.nd (se_lstC (sa_cons (se_erI ck EF.e EF.m EF.i (hr.mono (by decide)) (by decide) (se_vr 1)) (sa_cons (se_erI ck EF.e EF.m EF.i (hr.mono (by decide)) (by decide) (se_vr 1)) (sa_cons (se_erI ck EF.e EF.m EF.i (hr.mono (by decide)) (by decide) (se_vr 1)) (sa_cons (se_erI ck EF.e EF.m EF.i (hr.mono (by decide)) (by decide) (se_vr 1)) (sa_cons (se_erI ck EF.e EF.m EF.i (hr.mono (by decide)) (by decide) (se_vr 1)) sa_nil)))))))
    (ss_cons (ss_asg ck.nd (e_addR (se_vr 3) (se_lstC (sa_cons (se_erI ck EF.e EF.m EF.i (hr.mono (by decide)) (by decide) (se_vr 2)) (sa_cons (se_erI ck EF.e EF.m EF.i (hr.mono (by decide)) (by decide) (se_vr 2)) (sa_cons (se_er0 EF.e EF.m (by decide) (se_vr 0)) (sa_cons (se_er0 EF.e EF.m (by decide) (se_vr 0)) (sa_cons (se_er0 EF.e EF.m (by decide) (se_vr 0)) sa_nil))))))))
    (ss_cons (ss_asg ck.nd (e_addR (se_vr 3) (se_lstC (sa_cons (se_er0 EF.e EF.m (by decide) (se_vr 0)) (sa_cons (se_er0 EF.e EF.m (by decide) (se_vr 0)) (sa_cons (se_er0 EF.e EF.m (by decide) (se_vr 0)) (sa_cons (se_er0 EF.e EF.m (by decide) (se_vr 0)) sa_nil)))))))
    (ss_one (ss_ret (e_addR (se_vr 3) (se_lstC (sa_cons (se_er0 EF.e EF.m (by decide) (se_vr 0)) (sa_cons (se_er0 EF.e EF.m (by decide) (se_vr 0)) (sa_cons (se_er0 EF.e EF.m (by decide) (se_vr 0)) (sa_cons (se_er0 EF.e EF.m (by decide) (se_vr 0)) (sa_cons (se_er0 EF.e EF.m (by decide) (se_vr 0)) sa_nil)))))))))))))
theorem sc_law : FnScope ["script", "k", "well", "text", "turn", "spot", "bound", "rows", "rank", "one", "other", "told", "plain"] ["script"] (defScope (topS 26)) := ⟨rfl, rfl, rfl, by decide +kernel, rfl, by decide +kernel, by decide +kernel⟩
theorem ok_law (B : Bi mg) {f : Addr} {fd : FuncData} (T : L2.Fun K "law" "law" (topS 26) f fd) (EF : ErF P w K mg base ernsAll 1) (F_law_well : FnF P w K mg base CA "_law_well" 1 ["script", "k"] RD.f_law_well_2) (F_law_pick : FnF P w K mg base CA "_law_pick" 1 ["well", "bound"] RD.f_law_pick) (F_law_created : FnF P w K mg base CA "_law_created" 3 ["text", "spot", "bound"] RD.f_law_created) (F_law_kinds : FnF P w K mg base CA "_law_kinds" 1 ["error"] RD.f_law_kinds) : FnG P w K mg base 4 f fd ["script"] (spF K CA 1 RD.f_law_k31) :=
  fn_ok T sc_law fun cdv A out s H E gd hr => by
    have ck := defC_ok (P := P) (w := w) (K := K) (mg := mg) (base := base) (CA := CA) (f := f) (cdv := cdv) (outer := out) (H := H) (E := E) gd hr sc_law
    exact ((ss_cons (ss_for ck (si_rng1 (sa_cons (se_callB (call_max2 ck.calm) by_max2 (sa_cons se_int (sa_cons (se_callB (call_min2 ck.calm) by_min2 (sa_cons se_int (sa_cons (se_callB lenR by_len (sa_cons (se_vr 0) sa_nil) B.len_) sa_nil)) B.min_) sa_nil)) B.max_) sa_nil) B.range_) (sgi_w (sg_name ck.nd 1)) (ss_cons (ss_asg ck.nd (se_calR ck F_law_well hr (sa_cons (se_vr 0) (sa_cons (se_vr 1) sa_nil))))
    (ss_cons (ss_asg ck.nd (se_bm PySem.F.plainAttrs_str PySem.F.slot_str_join PySem.F.type_str_join mt_join by_join se_str (sa_cons (se_lcR (own := [("turn", 4)]) ck (si_rng1 (sa_cons (se_calR ck F_law_pick hr (sa_cons (se_vr 2) (sa_cons se_int sa_nil))) sa_nil) B.range_) (blkOk_by (N := ["script", "k", "well", "text", "turn", "spot", "bound", "rows", "rank", "one", "other", "told", "plain"]) (sc := defScope (topS 26)) (own := [("turn", 4)]) (by decide +kernel)) (blkG ck fun s H L cl fp ck1 => (sgc_name ck1.nd 4)) (blkT ck fun s H L cl fp ck1 => sts_nil) (blkE ck fun s H L cl fp ck1 => (e_ix ck1 se_str (se_calR ck1 F_law_pick hr (sa_cons (se_vr 2) (sa_cons se_int sa_nil)))))) sa_nil)))
    (ss_cons (ss_asg ck.nd (e_ix ck (se_lstC (sa_cons se_non (sa_cons se_int (sa_cons (se_calR ck F_law_pick hr (sa_cons (se_vr 2) (sa_cons se_int sa_nil))) (sa_cons (e_pow se_int se_int) sa_nil))))) (se_calR ck F_law_pick hr (sa_cons (se_vr 2) (sa_cons se_int sa_nil)))))
    (ss_cons (ss_asg ck.nd (e_ix ck (se_lstC (sa_cons se_int (sa_cons (se_calR ck F_law_pick hr (sa_cons (se_vr 2) (sa_cons se_int sa_nil))) (sa_cons (e_pow se_int se_int) sa_nil)))) (se_calR ck F_law_pick hr (sa_cons (se_vr 2) (sa_cons se_int sa_nil)))))
    (ss_cons (ss_asg ck.nd (se_calR ck F_law_created hr (sa_cons (se_vr 3) (sa_cons (se_vr 5) (sa_cons (se_vr 6) sa_nil)))))
    (ss_cons (ss_for ck (si_enu (se_vr 7) B.enumerate_) (sgi_tup ck.calm (sgs_cons (sg_name ck.nd 8) (sgs_cons (sg_name ck.nd 9) sgs_nil))) (ss_cons (ss_if (SW.pt (sw_or (st_not (st_tru (se_isEr EF.e EF.m (by decide) (se_vr 9) B.isinstance_))) (sw_or1 (st_not (st_tru (se_isVe EF.e (se_vr 9) B.isinstance_ B.ValueError_)))))) (ss_one (ss_ret se_bl)) ss_nil)
    (ss_one (ss_if (t_ne ck (se_calR ck F_law_kinds hr (sa_cons (se_vr 9) sa_nil)) (se_lcR (own := [("other", 10)]) ck (si_rng1 (sa_cons se_int sa_nil) B.range_) (blkOk_by (N := ["script", "k", "well", "text", "turn", "spot", "bound", "rows", "rank", "one", "other", "told", "plain"]) (sc := defScope (topS 26)) (own := [("other", 10)]) (by decide +kernel)) (blkG ck fun s H L cl fp ck1 => (sgc_name ck1.nd 10)) (blkT ck fun s H L cl fp ck1 => sts_nil) (blkE ck fun s H L cl fp ck1 => (e_eq ck1 (se_vr 10) (se_vr 8))))) (ss_one (ss_ret se_bl)) ss_nil))))
    (ss_cons (ss_asg ck.nd (e_addR (se_lcR (own := [("one", 9)]) ck (si_seq (se_slcC (se_vr 7) so_none (so_some se_int))) (blkOk_by (N := ["script", "k", "well", "text", "turn", "spot", "bound", "rows", "rank", "one", "other", "told", "plain"]) (sc := defScope (topS 26)) (own := [("one", 9)]) (by decide +kernel)) (blkG ck fun s H L cl fp ck1 => (sgc_name ck1.nd 9)) (blkT ck fun s H L cl fp ck1 => sts_nil) (blkE ck fun s H L cl fp ck1 => (se_fldEr EF.e (se_vr 9)))) (se_lstC (sa_cons (se_fldEr EF.e (e_ix ck (se_vr 7) se_int)) (sa_cons (se_fldEr EF.e (e_ix ck (se_vr 7) se_int)) (sa_cons (se_fldEr EF.e (e_ix ck (se_vr 7) se_int)) sa_nil))))))
    (ss_cons (ss_if (t_ne ck (se_callB (reprR ck) by_repr (sa_cons (se_vr 11) sa_nil) B.repr_) (se_callB (reprR ck) by_repr (sa_cons (e_addR (e_repR (se_lstC (sa_cons (se_vr 5) sa_nil)) se_int) (e_repR (se_lstC (sa_cons (se_vr 6) sa_nil)) se_int)) sa_nil) B.repr_)) (ss_one (ss_ret se_bl)) ss_nil)
    (ss_cons (ss_asg ck.nd (se_er0 EF.e EF.m (by decide) (se_vr 3)))
    (ss_one (ss_if (SW.pt (sw_or (t_ne ck (se_calR ck F_law_kinds hr (sa_cons (se_vr 12) sa_nil)) (e_repR (se_lstC (sa_cons se_bl sa_nil)) se_int)) (sw_or1 (st_not (st_tru (se_isVe EF.e (se_vr 12) B.isinstance_ B.ValueError_)))))) (ss_one (ss_ret se_bl)) ss_nil))))))))))))
    (ss_one (ss_ret se_bl))))
end
end K31
namespace K31
open PySem PySem.Spec PyProof.Rows L2 VS
section
variable {P : Program} {w : World} {K : Frg} {h : Heap} {mg : Str → Option Value} {CA : Nat → Addr}
theorem end_all (B : Bi mg) (EF : ∀ base : Heap, ErF P w K mg base ernsAll 1) (D_law_well : DefT K mg "_law_well" (topS 22) ["script", "k"]) (D_law_pick : DefT K mg "_law_pick" (topS 23) ["well", "bound"]) (D_law_kinds : DefT K mg "_law_kinds" (topS 24) ["error"]) (D_law_created : DefT K mg "_law_created" (topS 25) ["text", "spot", "bound"]) (L : DefL K mg (topS 26)) : DefL K mg (topS 26) ∧
    ∀ (f : Addr) (fd : FuncData) (base : Heap), K.In base → base.Ns mainGlobals mg → L2.Fun K "law" "law" (topS 26) f fd → FnG P w K mg base 4 f fd ["script"] (spF K CA 1 RD.f_law_k31) := by
  refine ⟨L, fun f fd base _ _ T => ?_⟩
  have F_law_well := ok_law_well (P := P) (w := w) (base := base) (CA := CA) B D_law_well 
  have F_law_pick := ok_law_pick (P := P) (w := w) (base := base) (CA := CA) B D_law_pick 
  have F_law_kinds := ok_law_kinds (P := P) (w := w) (base := base) (CA := CA) B D_law_kinds (EF base) 
  have F_law_created := ok_law_created (P := P) (w := w) (base := base) (CA := CA) B D_law_created (EF base) 
  exact ok_law B T (EF base) F_law_well F_law_pick F_law_created F_law_kinds
end
end K31
open PySem PySem.W PyProof.Rows in
set_option maxRecDepth 100000 in
set_option maxHeartbeats 0 in
theorem PySem.Challenge.cw_crosshitch_k31_errors_made_holds : PySem.Challenge.rw_crosshitch_k31_errors_made.Holds := by
  w_on; o_law; k_head; (case hw => w_witness2)
  k_fill
  refine VS.walk_vs (l := PySem.Challenge.rw_crosshitch_k31_errors_made) (n := 63) (k := 4) (fun _ _ => 0) RD.f_law_k31 (K31.topS 26) P31.pure_law rfl (by decide) rfl rfl ⟨rfl, by decide, by decide⟩ (fun w h Y => PySem.W.kIn_of Y) ?F
  case F =>
    intro w mg h KX G
    refine' K31.end_all ?B ?EF ?D_law_well ?D_law_pick ?D_law_kinds ?D_law_created ?L
    case B =>
      refine' ⟨?b_ValueError, ?b_abs, ?b_enumerate, ?b_int, ?b_isinstance, ?b_len, ?b_max, ?b_min, ?b_range, ?b_repr⟩
      (case b_ValueError => refine' VS.none_mk KX G ?_; k_is)
      (case b_abs => refine' VS.none_mk KX G ?_; k_is)
      (case b_enumerate => refine' VS.none_mk KX G ?_; k_is)
      (case b_int => refine' VS.none_mk KX G ?_; k_is)
      (case b_isinstance => refine' VS.none_mk KX G ?_; k_is)
      (case b_len => refine' VS.none_mk KX G ?_; k_is)
      (case b_max => refine' VS.none_mk KX G ?_; k_is)
      (case b_min => refine' VS.none_mk KX G ?_; k_is)
      (case b_range => refine' VS.none_mk KX G ?_; k_is)
      (case b_repr => refine' VS.none_mk KX G ?_; k_is)
    case EF =>
      intro base
      refine' VS.erF_mk KX G ?e ?hi ?i_InvalidLayout ?i_InvalidRows ?i_InvalidRings ?i_InvalidOpens ?i_InvalidText ?i_TooMany ?i_Farther
      (case e => kernel_rfl)
      (case hi =>
        refine' VS.hi_mk KX G (.type "type") ?a ?r ?g ?t
        (case a => k_is)
        (case r => k_is)
        (case g => k_is)
        (case t => k_is))
      (case i_InvalidLayout =>
        intro hi
        refine' (fun a b (g : ∃ fd, L2.Fun _ "__init__" "InvalidLayout.__init__" (K31.mthS 2 0) _ fd ∧ L2.Binds _ fd ["self", "index"] []) => VS.ei_one a b (K31.init_InvalidLayout hi g.choose_spec.1) g.choose_spec.2) ?a ?b ?g
        (case a => k_is)
        (case b => k_is)
        (case g =>
          refine' VS.init_mk ?l ?c ?k ?d
          (case l => k_is)
          (case c => k_is)
          (case k => k_is)
          (case d => exact fun _ _ _ _ _ _ us hl => match us, hl with | [_, _], _ => rfl)))
      (case i_InvalidRows =>
        intro hi
        refine' (fun a b (g : ∃ fd, L2.Fun _ "__init__" "InvalidRows.__init__" (K31.mthS 3 0) _ fd ∧ L2.Binds _ fd ["self", "index"] []) => VS.ei_one a b (K31.init_InvalidRows hi g.choose_spec.1) g.choose_spec.2) ?a ?b ?g
        (case a => k_is)
        (case b => k_is)
        (case g =>
          refine' VS.init_mk ?l ?c ?k ?d
          (case l => k_is)
          (case c => k_is)
          (case k => k_is)
          (case d => exact fun _ _ _ _ _ _ us hl => match us, hl with | [_, _], _ => rfl)))
      (case i_InvalidRings =>
        intro hi
        refine' (fun a b (g : ∃ fd, L2.Fun _ "__init__" "InvalidRings.__init__" (K31.mthS 4 0) _ fd ∧ L2.Binds _ fd ["self", "index"] []) => VS.ei_one a b (K31.init_InvalidRings hi g.choose_spec.1) g.choose_spec.2) ?a ?b ?g
        (case a => k_is)
        (case b => k_is)
        (case g =>
          refine' VS.init_mk ?l ?c ?k ?d
          (case l => k_is)
          (case c => k_is)
          (case k => k_is)
          (case d => exact fun _ _ _ _ _ _ us hl => match us, hl with | [_, _], _ => rfl)))
      (case i_InvalidOpens =>
        intro hi
        refine' (fun a b (g : ∃ fd, L2.Fun _ "__init__" "InvalidOpens.__init__" (K31.mthS 5 0) _ fd ∧ L2.Binds _ fd ["self", "index"] []) => VS.ei_one a b (K31.init_InvalidOpens hi g.choose_spec.1) g.choose_spec.2) ?a ?b ?g
        (case a => k_is)
        (case b => k_is)
        (case g =>
          refine' VS.init_mk ?l ?c ?k ?d
          (case l => k_is)
          (case c => k_is)
          (case k => k_is)
          (case d => exact fun _ _ _ _ _ _ us hl => match us, hl with | [_, _], _ => rfl)))
      (case i_InvalidText =>
        intro hi
        refine' (fun a b (g : ∃ fd, L2.Fun _ "__init__" "InvalidText.__init__" (K31.mthS 6 0) _ fd ∧ L2.Binds _ fd ["self", "part"] []) => VS.ei_one a b (K31.init_InvalidText hi g.choose_spec.1) g.choose_spec.2) ?a ?b ?g
        (case a => k_is)
        (case b => k_is)
        (case g =>
          refine' VS.init_mk ?l ?c ?k ?d
          (case l => k_is)
          (case c => k_is)
          (case k => k_is)
          (case d => exact fun _ _ _ _ _ _ us hl => match us, hl with | [_, _], _ => rfl)))
      (case i_TooMany =>
        intro hi
        refine' (fun a b (g : ∃ fd, L2.Fun _ "__init__" "TooMany.__init__" (K31.mthS 7 0) _ fd ∧ L2.Binds _ fd ["self", "limit"] []) => VS.ei_one a b (K31.init_TooMany hi g.choose_spec.1) g.choose_spec.2) ?a ?b ?g
        (case a => k_is)
        (case b => k_is)
        (case g =>
          refine' VS.init_mk ?l ?c ?k ?d
          (case l => k_is)
          (case c => k_is)
          (case k => k_is)
          (case d => exact fun _ _ _ _ _ _ us hl => match us, hl with | [_, _], _ => rfl)))
      (case i_Farther =>
        intro hi
        refine' (fun a b (g : ∃ fd, L2.Fun _ "__init__" "Farther.__init__" (K31.mthS 8 0) _ fd ∧ L2.Binds _ fd ["self", "moves"] []) => VS.ei_one a b (K31.init_Farther hi g.choose_spec.1) g.choose_spec.2) ?a ?b ?g
        (case a => k_is)
        (case b => k_is)
        (case g =>
          refine' VS.init_mk ?l ?c ?k ?d
          (case l => k_is)
          (case c => k_is)
          (case k => k_is)
          (case d => exact fun _ _ _ _ _ _ us hl => match us, hl with | [_, _], _ => rfl)))
    case D_law_well =>
      refine' VS.defT_mk KX G ?a ?l ?c ?k ?b
      (case a => k_is)
      (case l => k_is)
      (case c => k_is)
      (case k => k_is)
      (case b => exact fun _ _ _ _ _ _ us hl => match us, hl with | [_, _], _ => rfl)
    case D_law_pick =>
      refine' VS.defT_mk KX G ?a ?l ?c ?k ?b
      (case a => k_is)
      (case l => k_is)
      (case c => k_is)
      (case k => k_is)
      (case b => exact fun _ _ _ _ _ _ us hl => match us, hl with | [_, _], _ => rfl)
    case D_law_kinds =>
      refine' VS.defT_mk KX G ?a ?l ?c ?k ?b
      (case a => k_is)
      (case l => k_is)
      (case c => k_is)
      (case k => k_is)
      (case b => exact fun _ _ _ _ _ _ us hl => match us, hl with | [_], _ => rfl)
    case D_law_created =>
      refine' VS.defT_mk KX G ?a ?l ?c ?k ?b
      (case a => k_is)
      (case l => k_is)
      (case c => k_is)
      (case k => k_is)
      (case b => exact fun _ _ _ _ _ _ us hl => match us, hl with | [_, _, _], _ => rfl)
    case L =>
      refine' VS.defL_mk KX G ?a ?l ?c ?k ?b
      (case a => k_is)
      (case l => k_is)
      (case c => k_is)
      (case k => k_is)
      (case b => exact fun _ _ _ _ _ _ _ => rfl)
