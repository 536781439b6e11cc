import PyProof.Rows.All
import Wide.All
import OpenK.AllK
import Wide.FinOn
import HandS.ForMost
import HandS.ForExc
import HandS.ExcInit
import HandS.HeadHook1
import HandS.TupAny
import HandS.Wide
import HandS.Star
import HandS.StrMore
import HandS.Deep
import HandS.WideBits
import HandS.IsInst
import HandS.RaiseMore
import PyProof.ReprRoads
import HandS.Style
import HandS.Zip
import HandS.Rev
import HandS.More
import HandS.ExcOwn
import HandS.Defaults
import HandS.HeadEnd
import HandS.Ends
import HandS.Exc
import HandS.ExcIs
import HandS.ExcField
import KE.KExcSuper
import HandS.HeadHook2
import HandS.HeadHook3
import HandS.Head2
import KE.KExcMake
import KE.KExcIs
import PySem.Challenge.RW_fdwires_k86_errors_are_distinct
set_option Elab.async false
set_option linter.all false
set_option maxRecDepth 100000
set_option maxHeartbeats 4000000
/-! DL0: values of the data layer, how they lie in the abstract heap, stores of mutable cells. -/
namespace DL
open PySem PySem.Spec PyProof.Rows L2

/-! ### data that lie still -/
def keyD : Key → PyData
  | .inl i => .int i
  | .inr x => .str x
mutual
inductive Rp (K : PySem.W.Frag) (Z : Hp) : V → PyData → Prop
  | non : Rp K Z .non .none
  | bl (b : Bool) : Rp K Z (.bl b) (.bool b)
  | int (i : Int) : Rp K Z (.int i) (.int i)
  | str (x : Str) : Rp K Z (.str x) (.str x)
  | lst {a : Addr} {vs : List V} {ds : List PyData} : Z a = some (.lst vs) → RpAll K Z vs ds → Rp K Z (.ref a) (.list ds)
  | tup {a : Addr} {vs : List V} {ds : List PyData} : SqT K Z a vs → RpAll K Z vs ds → Rp K Z (.ref a) (.tuple ds)
  | dicK {a : Addr} {kvs : List (Key × V)} {ds : List PyData} : Z a = some (.dK kvs) → RpAll K Z (kvs.map (·.2)) ds → Rp K Z (.ref a) (.dict ((kvs.map fun p => keyD p.1).zip ds))
  | dicT {a : Addr} {kvs : List (List Key × V)} {ds : List PyData} : Z a = some (.dT kvs) → RpAll K Z (kvs.map (·.2)) ds → Rp K Z (.ref a) (.dict ((kvs.map fun p => PyData.tuple (p.1.map keyD)).zip ds))
inductive RpAll (K : PySem.W.Frag) (Z : Hp) : List V → List PyData → Prop
  | nil : RpAll K Z [] []
  | cons {v : V} {vs : List V} {d : PyData} {ds : List PyData} : Rp K Z v d → RpAll K Z vs ds → RpAll K Z (v :: vs) (d :: ds)
end

theorem rdMono {Z H : Hp} {a : Addr} {u : HO} (e : Same Z H) (h : Rd Z a u) : Rd H a u := by
  rcases h with h | ⟨o, h⟩
  · exact .inl (e _ _ h)
  · exact .inr ⟨o, e _ _ h⟩
theorem sqlMono {K : PySem.W.Frag} {Z H : Hp} {a : Addr} {vs : List V} (e : Same Z H) (h : SqL K Z a vs) : SqL K H a vs := by
  rcases h with h | h
  · exact .inl (rdMono e h)
  · exact .inr h
theorem sqtMono {K : PySem.W.Frag} {Z H : Hp} {a : Addr} {vs : List V} (e : Same Z H) (h : SqT K Z a vs) : SqT K H a vs := by
  rcases h with h | h
  · exact .inl (rdMono e h)
  · exact .inr h
mutual
theorem Rp.mono {K : PySem.W.Frag} {Z H : Hp} (e : Same Z H) : ∀ {d : PyData} {v : V}, Rp K Z v d → Rp K H v d
  | _, _, .non => .non
  | _, _, .bl b => .bl b
  | _, _, .int i => .int i
  | _, _, .str x => .str x
  | _, _, .lst h r => .lst (e _ _ h) (RpAll.mono e r)
  | _, _, .tup h r => .tup (sqtMono e h) (RpAll.mono e r)
  | _, _, .dicK h r => .dicK (e _ _ h) (RpAll.mono e r)
  | _, _, .dicT h r => .dicT (e _ _ h) (RpAll.mono e r)
theorem RpAll.mono {K : PySem.W.Frag} {Z H : Hp} (e : Same Z H) : ∀ {ds : List PyData} {vs : List V}, RpAll K Z vs ds → RpAll K H vs ds
  | _, _, .nil => .nil
  | _, _, .cons h t => .cons (Rp.mono e h) (RpAll.mono e t)
end
theorem RpAll.length {K : PySem.W.Frag} {Z : Hp} : ∀ {vs : List V} {ds : List PyData}, RpAll K Z vs ds → vs.length = ds.length
  | _, _, .nil => rfl
  | _, _, .cons _ t => congrArg (· + 1) (RpAll.length t)
theorem RpAll.append {K : PySem.W.Frag} {Z : Hp} : ∀ {vs us : List V} {ds es : List PyData}, RpAll K Z vs ds → RpAll K Z us es → RpAll K Z (vs ++ us) (ds ++ es)
  | _, _, _, _, .nil, h => h
  | _, _, _, _, .cons h t, g => .cons h (RpAll.append t g)
theorem RpAll.get {K : PySem.W.Frag} {Z : Hp} : ∀ {vs : List V} {ds : List PyData} (i : Nat) {d : PyData}, RpAll K Z vs ds → ds[i]? = some d → ∃ v, vs[i]? = some v ∧ Rp K Z v d
  | _, _, _, _, .nil, e => by simp at e
  | _, _, 0, _, .cons h _, e => by simp at e; subst e; exact ⟨_, rfl, h⟩
  | _, _, i + 1, _, .cons _ t, e => by
    obtain ⟨v, h1, h2⟩ := RpAll.get i t (by simpa using e)
    exact ⟨v, by simpa using h1, h2⟩
theorem RpAll.getV {K : PySem.W.Frag} {Z : Hp} : ∀ {vs : List V} {ds : List PyData} (i : Nat) {v : V}, RpAll K Z vs ds → vs[i]? = some v → ∃ d, ds[i]? = some d ∧ Rp K Z v d
  | _, _, _, _, .nil, e => by simp at e
  | _, _, 0, _, .cons h _, e => by simp at e; subst e; exact ⟨_, rfl, h⟩
  | _, _, i + 1, _, .cons _ t, e => by
    obtain ⟨v, h1, h2⟩ := RpAll.getV i t (by simpa using e)
    exact ⟨v, by simpa using h1, h2⟩
theorem RpAll.take {K : PySem.W.Frag} {Z : Hp} : ∀ {vs : List V} {ds : List PyData} (n : Nat), RpAll K Z vs ds → RpAll K Z (vs.take n) (ds.take n)
  | _, _, 0, _ => .nil
  | _, _, _ + 1, .nil => .nil
  | _, _, n + 1, .cons h t => .cons h (RpAll.take n t)
theorem RpAll.drop {K : PySem.W.Frag} {Z : Hp} : ∀ {vs : List V} {ds : List PyData} (n : Nat), RpAll K Z vs ds → RpAll K Z (vs.drop n) (ds.drop n)
  | _, _, 0, h => h
  | _, _, _ + 1, .nil => .nil
  | _, _, n + 1, .cons _ t => RpAll.drop n t
theorem RpAll.ofInts {K : PySem.W.Frag} {Z : Hp} : ∀ ns : List Int, RpAll K Z (ns.map V.int) (ns.map PyData.int)
  | [] => .nil
  | n :: ns => .cons (.int n) (RpAll.ofInts ns)

mutual
theorem Rp.dp {K : PySem.W.Frag} {Z H : Hp} (e : Same Z H) : ∀ {d : PyData} {v : V}, Rp K Z v d → d.canLay0 = true → Dp K H v d
  | _, _, .non, _ => .non
  | _, _, .bl b, _ => .bl b
  | _, _, .int i, _ => .int i
  | _, _, .str x, _ => .str x
  | _, _, .lst h r, c => .lst (SqL.of (e _ _ h)) (RpAll.dp e r (by simpa [PyData.canLay0] using c))
  | _, _, .tup h r, c => .tup (sqtMono e h) (RpAll.dp e r (by simpa [PyData.canLay0] using c))
  | _, _, .dicK h r, c => by simp [PyData.canLay0] at c
  | _, _, .dicT h r, c => by simp [PyData.canLay0] at c
theorem RpAll.dp {K : PySem.W.Frag} {Z H : Hp} (e : Same Z H) : ∀ {ds : List PyData} {vs : List V}, RpAll K Z vs ds → PyData.canLayAll0 ds = true → DpAll K H vs ds
  | _, _, .nil, _ => .nil
  | _, _, .cons h t, c => by
    rw [PyData.canLayAll0, Bool.and_eq_true] at c
    exact .cons (Rp.dp e h c.1) (RpAll.dp e t c.2)
end

/-! ### values, cells, stores -/
/-- an error: its class's name, its fields -/
structure Exn where
  cls : Str
  fs : List (Str × PyData)
inductive W where
  | d (x : PyData)
  | c (n : Nat)
  | s (ns : List Int)
  | x (e : Exn)
inductive Cell where
  | lst (ws : List W)
  | dic (tk : Bool) (kvs : List (PyData × W))
  | frz (x : PyData)
abbrev Store := List Cell
abbrev Sl := List (Option W)

def RW (K : PySem.W.Frag) (Z : Hp) (al : List Addr) (v : V) : W → Prop
  | .d x => Rp K Z v x
  | .c n => ∃ a, al[n]? = some a ∧ v = .ref a
  | .s ns => ∃ a, v = .ref a ∧ SqL K Z a (ns.map V.int)
  | .x e => ∃ a d, v = .ref a ∧ Z a = some (exo a (He.ga K e.cls) d) ∧ ((d = none ∧ e.fs = []) ∨ ∃ dx ls, d = some dx ∧ Z dx = some (exd dx ls) ∧ ∀ f y, e.fs.lookup f = some y → ∃ u, ls.lookup f = some u ∧ Rp K Z u y)
abbrev RWs (K : PySem.W.Frag) (Z : Hp) (al : List Addr) : List V → List W → Prop := Paired (RW K Z al)

def CellOk (K : PySem.W.Frag) (Z : Hp) (al : List Addr) (H : Hp) (a : Addr) : Cell → Prop
  | .lst ws => Z a = none ∧ ∃ vs, H a = some (.lst vs) ∧ RWs K Z al vs ws
  | .dic false kvs => Z a = none ∧ ∃ ks : List (Key × V), H a = some (.dK ks) ∧ (ks.map fun p => keyD p.1) = kvs.map (·.1) ∧ RWs K Z al (ks.map (·.2)) (kvs.map (·.2))
  | .dic true kvs => Z a = none ∧ ∃ ks : List (List Key × V), H a = some (.dT ks) ∧ (ks.map fun p => PyData.tuple (p.1.map keyD)) = kvs.map (·.1) ∧ RWs K Z al (ks.map (·.2)) (kvs.map (·.2))
  | .frz x => (∃ o, H a = some o) ∧ Rp K Z (.ref a) x

structure Rel (K : PySem.W.Frag) (Z : Hp) (al : List Addr) (H : Hp) (st : Store) : Prop where
  sub : Same Z H
  len : al.length = st.length
  nd : al.Nodup
  cell : ∀ (n : Nat) (c : Cell) (a : Addr), st[n]? = some c → al[n]? = some a → CellOk K Z al H a c

/-- a later moment -/
structure Ext (Z : Hp) (al : List Addr) (H : Hp) (Z' : Hp) (al' : List Addr) (H' : Hp) : Prop where
  same : Same Z Z'
  pre : ∃ more, al' = al ++ more ∧ ∀ a ∈ more, H a = none
  fr : ∀ a o, H a = some o → a ∉ al → H' a = some o
  th : ∀ a o, H a = some o → ∃ o', H' a = some o'
  zfr : ∀ a o, H a = some o → a ∉ al → Z a = none → Z' a = none

section
variable {K : PySem.W.Frag} {Z Z1 Z2 : Hp} {al al1 al2 : List Addr} {H H1 H2 : Hp} {st st' : Store}
theorem sameRefl (H : Hp) : Same H H := fun _ _ h => h
theorem Ext.refl (Z : Hp) (al : List Addr) (H : Hp) : Ext Z al H Z al H :=
  ⟨sameRefl Z, ⟨[], by simp, by simp⟩, fun _ _ h _ => h, fun _ o h => ⟨o, h⟩, fun _ _ _ _ h => h⟩
theorem Ext.trans (e : Ext Z al H Z1 al1 H1) (g : Ext Z1 al1 H1 Z2 al2 H2) : Ext Z al H Z2 al2 H2 := by
  obtain ⟨m1, rfl, n1⟩ := e.pre
  obtain ⟨m2, rfl, n2⟩ := g.pre
  have out : ∀ a o, H a = some o → a ∉ al → a ∉ al ++ m1 := fun a o h ha hm => by
    rcases List.mem_append.mp hm with z | z
    · exact ha z
    · rw [n1 a z] at h; cases h
  refine ⟨e.same.trans g.same, ⟨m1 ++ m2, by simp, fun a ha => ?_⟩, fun a o h ha => g.fr a o (e.fr a o h ha) (out a o h ha), fun a o h => ?_, fun a o h ha hz => g.zfr a o (e.fr a o h ha) (out a o h ha) (e.zfr a o h ha hz)⟩
  · rcases List.mem_append.mp ha with z | z
    · exact n1 a z
    · cases q : H a with
      | none => rfl
      | some o =>
        obtain ⟨o', q'⟩ := e.th a o q
        rw [n2 a z] at q'; cases q'
  · obtain ⟨o', h'⟩ := e.th a o h
    exact g.th a o' h'
theorem Ext.al_get (e : Ext Z al H Z1 al1 H1) {n : Nat} {a : Addr} (h : al[n]? = some a) : al1[n]? = some a := by
  obtain ⟨m, rfl, _⟩ := e.pre
  rw [List.getElem?_append_left (List.getElem?_eq_some_iff.mp h).1]; exact h
theorem Ext.free (e : Ext Z al H Z1 al1 H1) {a : Addr} (h : H1 a = none) : H a = none := by
  cases q : H a with
  | none => rfl
  | some o =>
    obtain ⟨o', q'⟩ := e.th a o q
    rw [h] at q'; cases q'

theorem RW.mono2 {v : V} {w : W} (s : Same Z Z1) (p : ∀ (n : Nat) (a : Addr), al[n]? = some a → al1[n]? = some a) (h : RW K Z al v w) : RW K Z1 al1 v w := by
  cases w with
  | d x => exact Rp.mono s h
  | c n =>
    obtain ⟨a, h1, h2⟩ := h
    exact ⟨a, p n a h1, h2⟩
  | s ns =>
    obtain ⟨a, h1, h2⟩ := h
    exact ⟨a, h1, sqlMono s h2⟩
  | x e =>
    obtain ⟨a, d, h1, h2, h3⟩ := h
    refine ⟨a, d, h1, s _ _ h2, h3.imp id fun ⟨dx, ls, q1, q2, q3⟩ => ⟨dx, ls, q1, s _ _ q2, fun f y q => ?_⟩⟩
    obtain ⟨u, q4, q5⟩ := q3 f y q
    exact ⟨u, q4, Rp.mono s q5⟩
theorem RW.ext {v : V} {w : W} (e : Ext Z al H Z1 al1 H1) (h : RW K Z al v w) : RW K Z1 al1 v w := h.mono2 e.same fun _ _ => e.al_get
theorem RWs.mono2 {vs : List V} {ws : List W} (s : Same Z Z1) (p : ∀ (n : Nat) (a : Addr), al[n]? = some a → al1[n]? = some a) (h : RWs K Z al vs ws) : RWs K Z1 al1 vs ws :=
  Paired.mapP h fun _ _ r => r.mono2 s p
theorem RWs.ext {vs : List V} {ws : List W} (e : Ext Z al H Z1 al1 H1) (h : RWs K Z al vs ws) : RWs K Z1 al1 vs ws := h.mono2 e.same fun _ _ => e.al_get
theorem RWs.get {vs : List V} {ws : List W} : ∀ (i : Nat) {w : W}, RWs K Z al vs ws → ws[i]? = some w → ∃ v, vs[i]? = some v ∧ RW K Z al v w := by
  intro i w h
  induction h generalizing i with
  | nil => intro e; simp at e
  | cons r t ih =>
    intro e
    cases i with
    | zero => simp at e; subst e; exact ⟨_, rfl, r⟩
    | succ i => obtain ⟨v, h1, h2⟩ := ih i (by simpa using e); exact ⟨v, by simpa using h1, h2⟩
theorem RWs.length {vs : List V} {ws : List W} (h : RWs K Z al vs ws) : vs.length = ws.length := Paired.length h
theorem RWs.append {vs us : List V} {ws zs : List W} (h : RWs K Z al vs ws) (g : RWs K Z al us zs) : RWs K Z al (vs ++ us) (ws ++ zs) := by
  induction h with
  | nil => exact g
  | cons r t ih => exact .cons r ih
theorem RWs.set {vs : List V} {ws : List W} {v : V} {w : W} (r : RW K Z al v w) : ∀ (i : Nat), RWs K Z al vs ws → RWs K Z al (vs.set i v) (ws.set i w) := by
  intro i h
  induction h generalizing i with
  | nil => exact .nil
  | cons q t ih =>
    cases i with
    | zero => exact .cons r t
    | succ i => exact .cons q (ih i)
theorem RWs.take {vs : List V} {ws : List W} : ∀ (n : Nat), RWs K Z al vs ws → RWs K Z al (vs.take n) (ws.take n) := by
  intro n h
  induction h generalizing n with
  | nil => cases n <;> exact .nil
  | cons q t ih =>
    cases n with
    | zero => exact .nil
    | succ n => exact .cons q (ih n)
theorem RWs.drop {vs : List V} {ws : List W} : ∀ (n : Nat), RWs K Z al vs ws → RWs K Z al (vs.drop n) (ws.drop n) := by
  intro n h
  induction h generalizing n with
  | nil => cases n <;> exact .nil
  | cons q t ih =>
    cases n with
    | zero => exact .cons q t
    | succ n => exact ih n

/-- all of them data -/
def allD : List W → Option (List PyData)
  | [] => some []
  | .d x :: ws => (allD ws).map (x :: ·)
  | .c _ :: _ => none
  | .s _ :: _ => none
  | .x _ :: _ => none
theorem allD_rp {vs : List V} {ws : List W} {ds : List PyData} (h : RWs K Z al vs ws) : allD ws = some ds → RpAll K Z vs ds := by
  induction h generalizing ds with
  | nil => intro e; simp [allD] at e; subst e; exact .nil
  | @cons v w vs ws r t ih =>
    intro e
    cases w with
    | c n => simp [allD] at e
    | s n => simp [allD] at e
    | x n => simp [allD] at e
    | d x =>
      simp only [allD, Option.map_eq_some_iff] at e
      obtain ⟨ys, e1, rfl⟩ := e
      exact .cons r (ih e1)
theorem allD_of {vs : List V} {ds : List PyData} : RpAll K Z vs ds → RWs K Z al vs (ds.map W.d) := by
  intro h
  induction ds generalizing vs with
  | nil => cases h; exact .nil
  | cons d ds ih =>
    cases h with
    | cons h t => exact .cons h (ih t)
theorem allD_map : ∀ ds : List PyData, allD (ds.map W.d) = some ds
  | [] => rfl
  | d :: ds => by simp [allD, allD_map ds]
theorem allD_eq : ∀ {ws : List W} {ds : List PyData}, allD ws = some ds → ws = ds.map W.d
  | [], ds, e => by simp [allD] at e; subst e; rfl
  | .d x :: ws, ds, e => by
    simp only [allD, Option.map_eq_some_iff] at e
    obtain ⟨ys, e1, rfl⟩ := e
    rw [allD_eq e1]; rfl
  | .c n :: ws, ds, e => by simp [allD] at e
  | .s n :: ws, ds, e => by simp [allD] at e
  | .x n :: ws, ds, e => by simp [allD] at e

/-- a value as data, looked at where it stands -/
def toD (st : Store) : W → Option PyData
  | .d x => some x
  | .c n => match st[n]? with
    | some (.lst ws) => (allD ws).map .list
    | some (.frz x) => some x
    | _ => none
  | .s _ => none
  | .x _ => none
/-- the same, the script too -/
def toS (st : Store) : W → Option PyData
  | .s ns => some (.list (ns.map .int))
  | w => toD st w
theorem Rel.at_ (r : Rel K Z al H st) {n : Nat} {c : Cell} (h : st[n]? = some c) : ∃ a, al[n]? = some a ∧ CellOk K Z al H a c := by
  have hn : n < al.length := by rw [r.len]; exact (List.getElem?_eq_some_iff.mp h).1
  exact ⟨al[n], by simp [hn], r.cell n c _ h (by simp [hn])⟩
theorem toD_rp (r : Rel K Z al H st) {v : V} {w : W} {x : PyData} (h : RW K Z al v w) (e : toD st w = some x) : Rp K H v x := by
  cases w with
  | d y => simp [toD] at e; subst e; exact Rp.mono r.sub h
  | c n =>
    obtain ⟨a, h1, rfl⟩ := h
    simp only [toD] at e
    cases q : st[n]? with
    | none => rw [q] at e; cases e
    | some c =>
      have k := r.cell n c a q h1
      rw [q] at e
      cases c with
      | lst ws =>
        simp only [Option.map_eq_some_iff] at e
        obtain ⟨ds, e1, rfl⟩ := e
        obtain ⟨_, vs, hv, rv⟩ := k
        exact .lst hv (RpAll.mono r.sub (allD_rp rv e1))
      | dic tk kvs => cases e
      | frz y => simp at e; subst e; exact Rp.mono r.sub k.2
  | s ns => simp [toD] at e
  | x ns => simp [toD] at e
theorem toS_dp (r : Rel K Z al H st) {v : V} {w : W} {x : PyData} (h : RW K Z al v w) (e : toS st w = some x) (c : x.canLay0 = true) : Dp K H v x := by
  cases w with
  | s ns =>
    obtain ⟨a, rfl, hs⟩ := h
    simp only [toS, Option.some.injEq] at e
    subst e
    have all : ∀ l : List Int, DpAll K H (l.map V.int) (l.map PyData.int) := by
      intro l
      induction l with
      | nil => exact .nil
      | cons i l ih => exact .cons (.int i) ih
    exact .lst (sqlMono r.sub hs) (all ns)
  | d y => exact Rp.dp (sameRefl H) (toD_rp r h e) c
  | c n => exact Rp.dp (sameRefl H) (toD_rp r h e) c
  | x n => simp [toS, toD] at e
/-- a list: where it stands, and its items as data that lie still -/
theorem toD_list (r : Rel K Z al H st) {v : V} {w : W} {ds : List PyData} (h : RW K Z al v w) (e : toD st w = some (.list ds)) : ∃ a vs, v = .ref a ∧ H a = some (.lst vs) ∧ RpAll K Z vs ds := by
  cases w with
  | s ns => simp [toD] at e
  | x ns => simp [toD] at e
  | d y =>
    simp [toD] at e; subst e
    cases h with
    | lst hs ha => exact ⟨_, _, rfl, r.sub _ _ hs, ha⟩
  | c n =>
    obtain ⟨a, h1, rfl⟩ := h
    simp only [toD] at e
    cases q : st[n]? with
    | none => rw [q] at e; cases e
    | some c =>
      have k := r.cell n c a q h1
      rw [q] at e
      cases c with
      | lst ws =>
        simp only [Option.map_eq_some_iff, PyData.list.injEq] at e
        obtain ⟨ds', e1, rfl⟩ := e
        obtain ⟨_, vs, hv, rv⟩ := k
        exact ⟨a, vs, rfl, hv, allD_rp rv e1⟩
      | dic tk kvs => cases e
      | frz y =>
        simp at e; subst e
        cases k.2 with
        | lst hs ha => exact ⟨_, _, rfl, r.sub _ _ hs, ha⟩
theorem toS_list (r : Rel K Z al H st) {v : V} {w : W} {ds : List PyData} (h : RW K Z al v w) (e : toS st w = some (.list ds)) : ∃ a vs, v = .ref a ∧ SqL K H a vs ∧ RpAll K Z vs ds := by
  cases w with
  | s ns =>
    obtain ⟨a, rfl, hs⟩ := h
    simp only [toS, Option.some.injEq, PyData.list.injEq] at e
    subst e
    exact ⟨a, _, rfl, sqlMono r.sub hs, RpAll.ofInts ns⟩
  | d y =>
    obtain ⟨a, vs, h1, h2, h3⟩ := toD_list r h e
    exact ⟨a, vs, h1, SqL.of h2, h3⟩
  | c n =>
    obtain ⟨a, vs, h1, h2, h3⟩ := toD_list r h e
    exact ⟨a, vs, h1, SqL.of h2, h3⟩
  | x n => simp [toS, toD] at e
theorem toD_tup (r : Rel K Z al H st) {v : V} {w : W} {ds : List PyData} (h : RW K Z al v w) (e : toD st w = some (.tuple ds)) : ∃ a vs, v = .ref a ∧ SqT K H a vs ∧ RpAll K Z vs ds := by
  cases w with
  | s ns => simp [toD] at e
  | x ns => simp [toD] at e
  | d y =>
    simp [toD] at e; subst e
    cases h with
    | tup hs ha => exact ⟨_, _, rfl, sqtMono r.sub hs, ha⟩
  | c n =>
    obtain ⟨a, h1, rfl⟩ := h
    simp only [toD] at e
    cases q : st[n]? with
    | none => rw [q] at e; cases e
    | some c =>
      have k := r.cell n c a q h1
      rw [q] at e
      cases c with
      | lst ws => simp only [Option.map_eq_some_iff, reduceCtorEq, and_false, exists_false] at e
      | dic tk kvs => cases e
      | frz y =>
        simp at e; subst e
        cases k.2 with
        | tup hs ha => exact ⟨_, _, rfl, sqtMono r.sub hs, ha⟩
end

/-! ### moves -/
section
variable {K : PySem.W.Frag} {Z : Hp} {al : List Addr} {H : Hp} {st : Store}
theorem sameUpd {H : Hp} {p : Addr} {o : HO} (h : H p = none) : Same H (upd H p o) := fun b u e => by rw [upd_ne (ne_of_none e h)]; exact e
theorem sameUpd2 {Z H : Hp} (s : Same Z H) {p : Addr} {o : HO} (h : Z p = none) : Same Z (upd H p o) := fun b u e => by rw [upd_ne (ne_of_none e h)]; exact s b u e
theorem Rel.zfree (r : Rel K Z al H st) {p : Addr} (h : H p = none) : Z p = none := by
  cases q : Z p with
  | none => rfl
  | some o => rw [r.sub p o q] at h; cases h
theorem CellOk.imp {Z' H' : Hp} {al' : List Addr} {a : Addr} {c : Cell} (k : CellOk K Z al H a c) (s : Same Z Z') (p : ∀ (n : Nat) (a : Addr), al[n]? = some a → al'[n]? = some a) (hz : Z a = none → Z' a = none) (hh : H' a = H a) : CellOk K Z' al' H' a c := by
  cases c with
  | lst ws =>
    obtain ⟨z, vs, hv, rv⟩ := k
    exact ⟨hz z, vs, hh.trans hv, rv.mono2 s p⟩
  | dic tk kvs =>
    cases tk with
    | false =>
      obtain ⟨z, ks, hv, e, rv⟩ := k
      exact ⟨hz z, ks, hh.trans hv, e, rv.mono2 s p⟩
    | true =>
      obtain ⟨z, ks, hv, e, rv⟩ := k
      exact ⟨hz z, ks, hh.trans hv, e, rv.mono2 s p⟩
  | frz x =>
    obtain ⟨⟨o, ho⟩, hr⟩ := k
    exact ⟨⟨o, hh.trans ho⟩, Rp.mono s hr⟩
theorem CellOk.there {a : Addr} {c : Cell} (k : CellOk K Z al H a c) : ∃ o, H a = some o := by
  cases c with
  | lst ws => obtain ⟨_, vs, hv, _⟩ := k; exact ⟨_, hv⟩
  | dic tk kvs =>
    cases tk with
    | false => obtain ⟨_, vs, hv, _⟩ := k; exact ⟨_, hv⟩
    | true => obtain ⟨_, vs, hv, _⟩ := k; exact ⟨_, hv⟩
  | frz x => exact k.1
theorem Rel.mem_there (r : Rel K Z al H st) {a : Addr} (h : a ∈ al) : ∃ o, H a = some o := by
  obtain ⟨n, hn, rfl⟩ := List.mem_iff_getElem.mp h
  have hs : n < st.length := by rw [← r.len]; exact hn
  exact (r.cell n st[n] al[n] (by simp [hs]) (by simp [hn])).there
theorem Rel.notIn (r : Rel K Z al H st) {p : Addr} (h : H p = none) : p ∉ al := fun m => by
  obtain ⟨o, q⟩ := r.mem_there m
  rw [h] at q; cases q
/-- a new object that will lie still -/
theorem Rel.alloc (r : Rel K Z al H st) {p : Addr} (h : H p = none) (o : HO) : Rel K (upd Z p o) al (upd H p o) st := by
  refine ⟨fun b u e => ?_, r.len, r.nd, fun n c a hc ha => ?_⟩
  · by_cases hb : b = p
    · subst hb; rw [upd_same] at e ⊢; exact e
    · rw [upd_ne hb] at e ⊢; exact r.sub b u e
  · have k := r.cell n c a hc ha
    obtain ⟨o', ho⟩ := k.there
    have ne : a ≠ p := ne_of_none ho h
    exact k.imp (sameUpd (r.zfree h)) (fun _ _ x => x) (fun z => by rw [upd_ne ne]; exact z) (upd_ne ne)
theorem Ext.alloc (r : Rel K Z al H st) {p : Addr} (h : H p = none) (o : HO) : Ext Z al H (upd Z p o) al (upd H p o) := by
  have ne : ∀ {a : Addr} {u : HO}, H a = some u → a ≠ p := fun e => ne_of_none e h
  exact ⟨sameUpd (r.zfree h), ⟨[], by simp, by simp⟩, fun a u e _ => by rw [upd_ne (ne e)]; exact e, fun a u e => ⟨u, by rw [upd_ne (ne e)]; exact e⟩, fun a u e _ z => by rw [upd_ne (ne e)]; exact z⟩
/-- a new cell -/
theorem Rel.new (r : Rel K Z al H st) {p : Addr} (h : H p = none) {o : HO} {c : Cell} (k : CellOk K Z (al ++ [p]) (upd H p o) p c) : Rel K Z (al ++ [p]) (upd H p o) (st ++ [c]) := by
  have pre : ∀ (n : Nat) (a : Addr), al[n]? = some a → (al ++ [p])[n]? = some a := fun n a e => by
    rw [List.getElem?_append_left (List.getElem?_eq_some_iff.mp e).1]; exact e
  refine ⟨sameUpd2 r.sub (r.zfree h), by simp [r.len], ?_, fun n c' a hc ha => ?_⟩
  · rw [List.nodup_append]
    refine ⟨r.nd, by simp, fun a ha b hb => ?_⟩
    rw [List.mem_singleton] at hb
    subst hb
    rintro rfl
    exact r.notIn h ha
  · by_cases hn : n < st.length
    · rw [List.getElem?_append_left hn] at hc
      rw [List.getElem?_append_left (by rw [r.len]; exact hn)] at ha
      have k' := r.cell n c' a hc ha
      obtain ⟨o', ho⟩ := k'.there
      exact k'.imp (sameRefl Z) pre (fun z => z) (upd_ne (ne_of_none ho h))
    · rw [List.getElem?_append_right (by omega)] at hc
      rw [List.getElem?_append_right (by rw [r.len]; omega)] at ha
      have e0 : n - st.length = 0 := by
        have := (List.getElem?_eq_some_iff.mp hc).1
        simp at this; omega
      rw [e0] at hc; rw [r.len, e0] at ha
      simp at hc ha
      subst hc; subst ha
      exact k
theorem Ext.new (r : Rel K Z al H st) {p : Addr} (h : H p = none) (o : HO) : Ext Z al H Z (al ++ [p]) (upd H p o) := by
  have ne : ∀ {a : Addr} {u : HO}, H a = some u → a ≠ p := fun e => ne_of_none e h
  exact ⟨sameRefl Z, ⟨[p], rfl, by simpa using h⟩, fun a u e _ => by rw [upd_ne (ne e)]; exact e, fun a u e => ⟨u, by rw [upd_ne (ne e)]; exact e⟩, fun a u e _ z => z⟩
/-- a cell is written -/
theorem Rel.setc (r : Rel K Z al H st) {n : Nat} {a : Addr} {c c' : Cell} {o : HO} (hc : st[n]? = some c) (ha : al[n]? = some a) (hz : Z a = none) (k : CellOk K Z al (upd H a o) a c') : Rel K Z al (upd H a o) (st.set n c') := by
  refine ⟨sameUpd2 r.sub hz, by simp [r.len], r.nd, fun m d b hd hb => ?_⟩
  by_cases e : m = n
  · subst e
    have hm : m < st.length := (List.getElem?_eq_some_iff.mp hc).1
    rw [List.getElem?_set_self hm] at hd
    rw [ha] at hb
    cases hd; cases hb
    exact k
  · rw [List.getElem?_set_ne (Ne.symm e)] at hd
    have k' := r.cell m d b hd hb
    have ne : b ≠ a := fun z => by
      subst z
      obtain ⟨h1, e1⟩ := List.getElem?_eq_some_iff.mp ha
      obtain ⟨h2, e2⟩ := List.getElem?_eq_some_iff.mp hb
      exact e ((List.getElem_inj r.nd).mp (e2.trans e1.symm))
    exact k'.imp (sameRefl Z) (fun _ _ x => x) (fun z => z) (upd_ne ne)
theorem Ext.setc (r : Rel K Z al H st) {a : Addr} (ha : a ∈ al) (o : HO) : Ext Z al H Z al (upd H a o) := by
  refine ⟨sameRefl Z, ⟨[], by simp, by simp⟩, fun b u e hb => ?_, fun b u e => ?_, fun _ _ _ _ z => z⟩
  · rw [upd_ne (fun z : b = a => hb (by rw [z]; exact ha))]; exact e
  · by_cases hb : b = a
    · subst hb; exact ⟨_, upd_same⟩
    · exact ⟨u, by rw [upd_ne hb]; exact e⟩
/-- a cell's object will not be written any more -/
theorem Rel.frz (r : Rel K Z al H st) {n : Nat} {a : Addr} {c : Cell} {o : HO} {x : PyData} (hc : st[n]? = some c) (ha : al[n]? = some a) (ho : H a = some o) (hz : Z a = none) (hx : Rp K (upd Z a o) (.ref a) x) :
    Rel K (upd Z a o) al H (st.set n (.frz x)) := by
  refine ⟨fun b u e => ?_, by simp [r.len], r.nd, fun m d b hd hb => ?_⟩
  · by_cases hb : b = a
    · subst hb; rw [upd_same] at e; cases e; exact ho
    · rw [upd_ne hb] at e; exact r.sub b u e
  · by_cases e : m = n
    · subst e
      have hm : m < st.length := (List.getElem?_eq_some_iff.mp hc).1
      rw [List.getElem?_set_self hm] at hd
      rw [ha] at hb
      cases hd; cases hb
      exact ⟨⟨o, ho⟩, hx⟩
    · rw [List.getElem?_set_ne (Ne.symm e)] at hd
      have k' := r.cell m d b hd hb
      have ne : b ≠ a := fun z => by
        subst z
        obtain ⟨h1, e1⟩ := List.getElem?_eq_some_iff.mp ha
        obtain ⟨h2, e2⟩ := List.getElem?_eq_some_iff.mp hb
        exact e ((List.getElem_inj r.nd).mp (e2.trans e1.symm))
      exact k'.imp (sameUpd hz) (fun _ _ x => x) (fun z => by rw [upd_ne ne]; exact z) rfl
theorem Ext.frz (r : Rel K Z al H st) {a : Addr} {o : HO} (ha : a ∈ al) (hz : Z a = none) : Ext Z al H (upd Z a o) al H :=
  ⟨sameUpd hz, ⟨[], by simp, by simp⟩, fun _ _ e _ => e, fun _ u e => ⟨u, e⟩, fun b u e hb z => by rw [upd_ne (fun y : b = a => hb (by rw [y]; exact ha))]; exact z⟩
end
end DL

/-! DL1: what a piece of text does, as a plain function; the judgements. -/
namespace DL
open PySem PySem.Spec PyProof.Rows L2

inductive R (α : Type) where
  | ok (a : α) (st : Store)
  | ex (e : Exn) (st : Store)
  | bad
def R.bind {α β : Type} (r : R α) (k : α → Store → R β) : R β :=
  match r with
  | .ok a st => k a st
  | .ex e st => .ex e st
  | .bad => .bad
abbrev EV := Sl → Store → R W
abbrev AV := Sl → Store → R (List W)
abbrev TV := Sl → Store → R Bool
inductive RS where
  | nx (sl : Sl) (st : Store)
  | rt (w : W) (sl : Sl) (st : Store)
  | bk (sl : Sl) (st : Store)
  | ct (sl : Sl) (st : Store)
  | ex (e : Exn) (sl : Sl) (st : Store)
  | bad
abbrev SV := Sl → Store → RS
def ofO {α : Type} : Option (α × Store) → R α
  | some (a, st) => .ok a st
  | none => .bad

def ExAt (K : PySem.W.Frag) (mg : Str → Option Value) (Z H : Hp) (cls : Value) (d : Option Addr) (e : Exn) : Prop :=
  ∃ C, mg e.cls = some (.ref C) ∧ cls = .ref C ∧ ∀ f x, e.fs.lookup f = some x → ∃ dx fs v, d = some dx ∧ H dx = some (.xd fs) ∧ fs.lookup f = some v ∧ Rp K Z v x
def RSl (K : PySem.W.Frag) (Z : Hp) (al : List Addr) (σ : L2.St) (sl : Sl) : Prop :=
  sl.length = σ.length ∧ ∀ (i : Nat) (w : W), sl[i]? = some (some w) → ∃ v, σ[i]? = some (some v) ∧ RW K Z al v w

section
variable (X : Cx) (Wx : WX)
def Post {α β : Type} (Z : Hp) (al : List Addr) (H : Hp) (σ : L2.St) (RA : Hp → List Addr → β → α → Prop) (Q : β → Hp → Prop) : R α → Prop
  | .ok a st' => ∀ Z' al' H' b, Ext Z al H Z' al' H' → Rel X.K Z' al' H' st' → RA Z' al' b a → Q b H'
  | .ex e st' => ∀ Z' al' H' cls d, Ext Z al H Z' al' H' → Rel X.K Z' al' H' st' → ExAt X.K X.mg Z' H' cls d e → Wx cls d σ H'
  | .bad => False
def PostO {α β : Type} (Z : Hp) (al : List Addr) (H : Hp) (RA : Hp → List Addr → β → α → Prop) (Q : β → Hp → Prop) : Option (α × Store) → Prop
  | some (a, st') => ∀ Z' al' H' b, Ext Z al H Z' al' H' → Rel X.K Z' al' H' st' → RA Z' al' b a → Q b H'
  | none => False
abbrev RAw : Hp → List Addr → V → W → Prop := fun Z al v w => RW X.K Z al v w
abbrev RAs : Hp → List Addr → List V → List W → Prop := fun Z al v w => RWs X.K Z al v w
abbrev RAb : Hp → List Addr → Bool → Bool → Prop := fun _ _ b a => b = a
def PostS (Z : Hp) (al : List Addr) (H : Hp) (D : Ends) : RS → Prop
  | .nx sl' st' => ∀ Z' al' H' σ', Ext Z al H Z' al' H' → Rel X.K Z' al' H' st' → RSl X.K Z' al' σ' sl' → D.nx σ' H'
  | .bk sl' st' => ∀ Z' al' H' σ', Ext Z al H Z' al' H' → Rel X.K Z' al' H' st' → RSl X.K Z' al' σ' sl' → D.bk σ' H'
  | .ct sl' st' => ∀ Z' al' H' σ', Ext Z al H Z' al' H' → Rel X.K Z' al' H' st' → RSl X.K Z' al' σ' sl' → D.ct σ' H'
  | .rt w _ st' => ∀ Z' al' H' v, Ext Z al H Z' al' H' → Rel X.K Z' al' H' st' → RW X.K Z' al' v w → D.rt v H'
  | .ex e sl' st' => ∀ Z' al' H' σ' cls d, Ext Z al H Z' al' H' → Rel X.K Z' al' H' st' → RSl X.K Z' al' σ' sl' → ExAt X.K X.mg Z' H' cls d e → Wx cls d σ' H'
  | .bad => False
/-- the readings -/
def tE (f : EV) : TE := fun σ H Q => ∃ Z al sl st, RSl X.K Z al σ sl ∧ Rel X.K Z al H st ∧ Post X Wx Z al H σ (RAw X) Q (f sl st)
def tA (f : AV) : TA := fun σ H Q => ∃ Z al sl st, RSl X.K Z al σ sl ∧ Rel X.K Z al H st ∧ Post X Wx Z al H σ (RAs X) Q (f sl st)
def tT (f : TV) : TT := fun σ H Q => ∃ Z al sl st, RSl X.K Z al σ sl ∧ Rel X.K Z al H st ∧ Post X Wx Z al H σ RAb Q (f sl st)
def tS (f : SV) : TS := fun D σ H => ∃ Z al sl st, RSl X.K Z al σ sl ∧ Rel X.K Z al H st ∧ PostS X Wx Z al H D (f sl st)
structure Ev (e : Expr) (f : EV) : Prop where
  pe : PE X e (tE X Wx f)
structure Av (es : List Expr) (f : AV) : Prop where
  pa : PA X es (tA X Wx f)
structure Tv (e : Expr) (f : TV) : Prop where
  pt : PT X e (tT X Wx f)
structure Wv (e : Expr) (f : TV) : Prop where
  pw : PW X e (tT X Wx f)
structure Sv (s : Stmt) (f : SV) : Prop where
  ps : PS X s (tS X Wx f)
structure Bv (ss : List Stmt) (f : SV) : Prop where
  pss : PSs X ss (tS X Wx f)
end

section
variable {X : Cx} {Wx : WX} {Z Z1 : Hp} {al al1 : List Addr} {H H1 : Hp} {σ : L2.St} {sl : Sl} {st : Store}
theorem RSl.ext (e : Ext Z al H Z1 al1 H1) (h : RSl X.K Z al σ sl) : RSl X.K Z1 al1 σ sl :=
  ⟨h.1, fun i w q => let ⟨v, a, b⟩ := h.2 i w q; ⟨v, a, b.ext e⟩⟩
theorem Post.later {α β : Type} {RA : Hp → List Addr → β → α → Prop} {Q : β → Hp → Prop} {r : R α} (e : Ext Z al H Z1 al1 H1) (h : Post X Wx Z al H σ RA Q r) : Post X Wx Z1 al1 H1 σ RA Q r := by
  cases r with
  | ok a st' => exact fun Z' al' H' b e' => h Z' al' H' b (e.trans e')
  | ex x st' => exact fun Z' al' H' cls d e' => h Z' al' H' cls d (e.trans e')
  | bad => exact h
theorem PostS.later {D : Ends} {r : RS} (e : Ext Z al H Z1 al1 H1) (h : PostS X Wx Z al H D r) : PostS X Wx Z1 al1 H1 D r := by
  cases r with
  | nx sl st' => exact fun Z' al' H' b e' => h Z' al' H' b (e.trans e')
  | bk sl st' => exact fun Z' al' H' b e' => h Z' al' H' b (e.trans e')
  | ct sl st' => exact fun Z' al' H' b e' => h Z' al' H' b (e.trans e')
  | rt w sl st' => exact fun Z' al' H' b e' => h Z' al' H' b (e.trans e')
  | ex x sl st' => exact fun Z' al' H' σ' cls d e' => h Z' al' H' σ' cls d (e.trans e')
  | bad => exact h
theorem Post.ofO {α β : Type} {RA : Hp → List Addr → β → α → Prop} {Q : β → Hp → Prop} {o : Option (α × Store)} (h : Post X Wx Z al H σ RA Q (ofO o)) : PostO X Z al H RA Q o := by
  cases o with
  | none => exact h
  | some p => exact h
/-- one piece, then the rest -/
theorem Post.seq {α β γ δ : Type} {RA : Hp → List Addr → β → α → Prop} {RG : Hp → List Addr → δ → γ → Prop} {Q : δ → Hp → Prop} {Q1 : β → Hp → Prop} {r : R α} {k : α → Store → R γ}
    (h : Post X Wx Z al H σ RG Q (r.bind k)) (hk : ∀ Z1 al1 H1 st1 a b, Ext Z al H Z1 al1 H1 → Rel X.K Z1 al1 H1 st1 → RA Z1 al1 b a → Post X Wx Z1 al1 H1 σ RG Q (k a st1) → Q1 b H1) : Post X Wx Z al H σ RA Q1 r := by
  cases r with
  | ok a st' => exact fun Z' al' H' b e rl ra => hk Z' al' H' st' a b e rl ra (Post.later e h)
  | ex x st' => exact h
  | bad => exact h
/-- .. a statement's rest -/
def R.thn {α : Type} (r : R α) (sl : Sl) (k : α → Store → RS) : RS :=
  match r with
  | .ok a st => k a st
  | .ex e st => .ex e sl st
  | .bad => .bad
theorem Post.seqS {α β : Type} {RA : Hp → List Addr → β → α → Prop} {D : Ends} {Q1 : β → Hp → Prop} {r : R α} {k : α → Store → RS} (rs : RSl X.K Z al σ sl)
    (h : PostS X Wx Z al H D (r.thn sl k)) (hk : ∀ Z1 al1 H1 st1 a b, Ext Z al H Z1 al1 H1 → Rel X.K Z1 al1 H1 st1 → RA Z1 al1 b a → PostS X Wx Z1 al1 H1 D (k a st1) → Q1 b H1) : Post X Wx Z al H σ RA Q1 r := by
  cases r with
  | ok a st' => exact fun Z' al' H' b e rl ra => hk Z' al' H' st' a b e rl ra (PostS.later e h)
  | ex x st' => exact fun Z' al' H' cls d e rl q => h Z' al' H' σ cls d e rl (rs.ext e) q
  | bad => exact h

theorem Ev.of {e : Expr} {f : EV} {t : TE} (h : PE X e t) (i : ∀ σ H Q, tE X Wx f σ H Q → t σ H Q) : Ev X Wx e f := ⟨⟨fun pins s σ H Q I hw => h.run pins s σ H Q I (i σ H Q hw)⟩⟩
theorem Av.of {es : List Expr} {f : AV} {t : TA} (h : PA X es t) (i : ∀ σ H Q, tA X Wx f σ H Q → t σ H Q) : Av X Wx es f := ⟨⟨fun pos pins s σ H Q I hw => h.run pos pins s σ H Q I (i σ H Q hw)⟩⟩
theorem Tv.of {e : Expr} {f : TV} {t : TT} (h : PT X e t) (i : ∀ σ H Q, tT X Wx f σ H Q → t σ H Q) : Tv X Wx e f := ⟨⟨fun pins s σ H Q I hw => h.run pins s σ H Q I (i σ H Q hw)⟩⟩
theorem Wv.of {e : Expr} {f : TV} {t : TT} (h : PW X e t) (i : ∀ σ H Q, tT X Wx f σ H Q → t σ H Q) : Wv X Wx e f := ⟨⟨fun wh pins s σ H Q I hw => h.run wh pins s σ H Q I (i σ H Q hw)⟩⟩
theorem Sv.of {e : Stmt} {f : SV} {t : TS} (h : PS X e t) (i : ∀ D σ H, tS X Wx f D σ H → t D σ H) : Sv X Wx e f := ⟨⟨fun pins s σ H D I hw => h.run pins s σ H D I (i D σ H hw)⟩⟩
theorem Bv.of {e : List Stmt} {f : SV} {t : TS} (h : PSs X e t) (i : ∀ D σ H, tS X Wx f D σ H → t D σ H) : Bv X Wx e f := ⟨⟨fun pins s σ H D I hw => h.run pins s σ H D I (i D σ H hw)⟩⟩
/-- start a reading of ours -/
theorem tE.mk {f : EV} {Q : VK} (rs : RSl X.K Z al σ sl) (rl : Rel X.K Z al H st) (p : Post X Wx Z al H σ (RAw X) Q (f sl st)) : tE X Wx f σ H Q := ⟨Z, al, sl, st, rs, rl, p⟩
theorem tT.mk {f : TV} {Q : Bool → Hp → Prop} (rs : RSl X.K Z al σ sl) (rl : Rel X.K Z al H st) (p : Post X Wx Z al H σ RAb Q (f sl st)) : tT X Wx f σ H Q := ⟨Z, al, sl, st, rs, rl, p⟩
theorem tA.mk {f : AV} {Q : List V → Hp → Prop} (rs : RSl X.K Z al σ sl) (rl : Rel X.K Z al H st) (p : Post X Wx Z al H σ (RAs X) Q (f sl st)) : tA X Wx f σ H Q := ⟨Z, al, sl, st, rs, rl, p⟩
theorem tS.mk {f : SV} {D : Ends} (rs : RSl X.K Z al σ sl) (rl : Rel X.K Z al H st) (p : PostS X Wx Z al H D (f sl st)) : tS X Wx f D σ H := ⟨Z, al, sl, st, rs, rl, p⟩
end

/-! ### names, constants -/
def deref (st : Store) : W → W
  | .c n => match st[n]? with
    | some (.frz x) => .d x
    | _ => .c n
  | w => w
theorem deref_rw {K : PySem.W.Frag} {Z : Hp} {al : List Addr} {H : Hp} {st : Store} (r : Rel K Z al H st) {v : V} {w : W} (h : RW K Z al v w) : RW K Z al v (deref st w) := by
  cases w with
  | d x => exact h
  | s ns => exact h
  | x ns => exact h
  | c n =>
    simp only [deref]
    cases q : st[n]? with
    | none => exact h
    | some c =>
      cases c with
      | lst ws => exact h
      | dic t k => exact h
      | frz x =>
        obtain ⟨a, ha, rfl⟩ := h
        exact (r.cell n _ a q ha).2
def eV (i : Nat) : EV := fun sl st => match sl[i]? with
  | some (some w) => .ok (deref st w) st
  | _ => .bad
def eK (x : PyData) : EV := fun _ st => .ok (.d x) st
section
variable {X : Cx} {Wx : WX}
theorem ev_v (i : Nat) {x : Str} {pos : Pos} (hN : X.N[i]? = some x := by rfl) (hv : Vis X.env.scope x := by first | exact Or.inl rfl | exact Or.inr (Or.inl rfl) | exact Or.inr (Or.inr rfl)) (hd : (x == ("__debug__" : Str)) = false := by decide)
    (hcd : (x == ("__classdict__" : Str)) = false := by decide) : Ev X Wx (.Name x pos) (eV i) := by
  refine .of (pe_var hN hv hd hcd) fun σ H Q h => ?_
  obtain ⟨Z, al, sl, st, rs, rl, p⟩ := h
  simp only [eV] at p
  cases q : sl[i]? with
  | none => rw [q] at p; exact p.elim
  | some o =>
    cases o with
    | none => rw [q] at p; exact p.elim
    | some w =>
      rw [q] at p
      obtain ⟨v, e, rw_⟩ := rs.2 i w q
      exact ⟨v, e, p Z al H v (.refl ..) rl (deref_rw rl rw_)⟩
theorem ev_k {e : Expr} {v : V} {x : PyData} (h : PE X e (tC v)) (hr : ∀ Z, Rp X.K Z v x) : Ev X Wx e (eK x) := by
  refine .of h fun σ H Q h => ?_
  obtain ⟨Z, al, sl, st, rs, rl, p⟩ := h
  exact p Z al H v (.refl ..) rl (hr Z)
theorem ev_int {i : Int} {j pos} : Ev X Wx (.Constant (.int i) j pos) (eK (.int i)) := ev_k pe_int fun _ => .int i
theorem ev_bool {b : Bool} {j pos} : Ev X Wx (.Constant (.bool b) j pos) (eK (.bool b)) := ev_k pe_bl fun _ => .bl b
theorem ev_none {j pos} : Ev X Wx (.Constant .none j pos) (eK .none) := ev_k pe_non fun _ => .non
theorem ev_str {x : Str} {j pos} : Ev X Wx (.Constant (.str x) j pos) (eK (.str x)) := ev_k pe_str fun _ => .str x
/-- a written thing of the module -/
def WrD (K : PySem.W.Frag) (u : Value) (x : PyData) : Prop := ∃ v, RelV v u ∧ ∀ Z, Rp K Z v x
theorem ev_g {x : Str} {u : Value} {d : PyData} {pos : Pos} (hg : Gl X x) (hm : X.mg x = some u) (h : WrD X.K u d) (hd : (x == ("__debug__" : Str)) = false := by decide) : Ev X Wx (.Name x pos) (eK d) := by
  obtain ⟨v, r, h⟩ := h
  exact ev_k (pe_glob hg hm r hd) h
end

/-! ### operations on values -/
section
variable (X : Cx)
/-- what an operation of two values does -/
def Op2 (fn : Value → Value → Sem Value) (o : W → W → Store → Option (W × Store)) : Prop :=
  ∃ r : R2, OpR X fn r ∧ ∀ Z al H st w1 w2 x y Q, Rel X.K Z al H st → RW X.K Z al x w1 → RW X.K Z al y w2 → PostO X Z al H (RAw X) Q (o w1 w2 st) → r x y H Q
def Op1 (fn : List V → Hp → VK → Prop) (o : W → Store → Option (W × Store)) : Prop :=
  ∀ Z al H st w x Q, Rel X.K Z al H st → RW X.K Z al x w → PostO X Z al H (RAw X) Q (o w st) → fn [x] H Q
end
def eBin (o : W → W → Store → Option (W × Store)) (f g : EV) : EV := fun sl st => (f sl st).bind fun w1 st1 => (g sl st1).bind fun w2 st2 => ofO (o w1 w2 st2)
section
variable {X : Cx} {Wx : WX} {a b : Expr} {f g : EV} {o : W → W → Store → Option (W × Store)} {pos : Pos}
theorem tOp_of {r : R2} (hr : ∀ Z al H st w1 w2 x y Q, Rel X.K Z al H st → RW X.K Z al x w1 → RW X.K Z al y w2 → PostO X Z al H (RAw X) Q (o w1 w2 st) → r x y H Q) (σ : L2.St) (H : Hp) (Q : VK)
    (h : tE X Wx (eBin o f g) σ H Q) : tOp r (tE X Wx f) (tE X Wx g) σ H Q := by
  obtain ⟨Z, al, sl, st, rs, rl, p⟩ := h
  refine tE.mk rs rl (p.seq fun Z1 al1 H1 st1 w1 v1 e1 rl1 rw1 p1 => ?_)
  refine tE.mk (rs.ext e1) rl1 (p1.seq fun Z2 al2 H2 st2 w2 v2 e2 rl2 rw2 p2 => ?_)
  exact hr Z2 al2 H2 st2 w1 w2 v1 v2 Q rl2 (rw1.ext e2) rw2 p2.ofO
theorem ev_bin {op : Operator} (h : Op2 X (binaryOp op) o) (ha : Ev X Wx a f) (hb : Ev X Wx b g) : Ev X Wx (.BinOp a op b pos) (eBin o f g) := by
  obtain ⟨r, ho, hr⟩ := h
  exact .of (pe_op ho ha.pe hb.pe) (tOp_of hr)
theorem ev_cmp {op : CmpOp} (h : Op2 X (compareOp op) o) (ha : Ev X Wx a f) (hb : Ev X Wx b g) (hm : behindInMarks op b = false := by first | exact nomark _ | rfl) : Ev X Wx (.Compare a [op] [b] pos) (eBin o f g) := by
  obtain ⟨r, ho, hr⟩ := h
  exact .of (pe_cmpR ho ha.pe hb.pe hm) (tOp_of hr)
def asB : W → Store → R Bool
  | .d (.bool k), st => .ok k st
  | _, _ => .bad
def tVal (f : EV) : TV := fun sl st => (f sl st).bind asB
theorem asB_post {Z : Hp} {al : List Addr} {H : Hp} {σ : L2.St} {st : Store} {w : W} {v : V} {Q : Bool → Hp → Prop} (rl : Rel X.K Z al H st) (r : RW X.K Z al v w) (p : Post X Wx Z al H σ RAb Q (asB w st)) : ∃ k, v = .bl k ∧ Q k H := by
  cases w with
  | c n => exact p.elim
  | s n => exact p.elim
  | x n => exact p.elim
  | d x =>
    cases x with
    | bool k =>
      cases r
      exact ⟨k, rfl, p Z al H k (.refl ..) rl rfl⟩
    | _ => exact p.elim
theorem tB_of (σ : L2.St) (H : Hp) (Q : Bool → Hp → Prop) (h : tT X Wx (tVal f) σ H Q) : tE X Wx f σ H fun x H1 => ∃ c, x = .bl c ∧ Q c H1 := by
  obtain ⟨Z, al, sl, st, rs, rl, p⟩ := h
  exact tE.mk rs rl (p.seq fun Z1 al1 H1 st1 w1 v1 e1 rl1 rw1 p1 => asB_post rl1 rw1 p1)
/-- an expression that gives a bool, as a test -/
theorem tv_val (ha : Ev X Wx a f) (he : ∀ whole, isTrue a X.env whole = (do let v ← whole; standAt a.pos; holding [v] (truthy v)) := by intro _; rfl) : Tv X Wx a (tVal f) := .of (pt_val ha.pe he) tB_of
theorem tv_cmp {op : CmpOp} (h : Op2 X (compareOp op) o) (ha : Ev X Wx a f) (hb : Ev X Wx b g) (hm : behindInMarks op b = false := by first | exact nomark _ | rfl) : Tv X Wx (.Compare a [op] [b] pos) (tVal (eBin o f g)) := by
  obtain ⟨r, ho, hr⟩ := h
  refine .of (pt_cmpR ho ha.pe hb.pe hm) fun σ H Q h => ?_
  obtain ⟨Z, al, sl, st, rs, rl, p⟩ := h
  show tOp r (tE X Wx f) (tE X Wx g) σ H fun x H' => ∃ k, x = .bl k ∧ Q k H'
  refine tOp_of hr σ H _ (tE.mk rs rl (p.seq fun Z1 al1 H1 st1 w1 v1 e1 rl1 rw1 p1 => asB_post rl1 rw1 p1))
end

/-! ### and, or, not, if -/
def tAnd (f g : TV) : TV := fun sl st => (f sl st).bind fun c st1 => if c then g sl st1 else .ok false st1
def tOr (f g : TV) : TV := fun sl st => (f sl st).bind fun c st1 => if c then .ok true st1 else g sl st1
def tNot (f : TV) : TV := fun sl st => (f sl st).bind fun c st1 => .ok (!c) st1
def eIf (c : TV) (f g : EV) : EV := fun sl st => (c sl st).bind fun c st1 => if c then f sl st1 else g sl st1
def eBool (f : TV) : EV := fun sl st => (f sl st).bind fun c st1 => .ok (.d (.bool c)) st1
section
variable {X : Cx} {Wx : WX} {a b c : Expr} {f g : TV} {u v : EV} {pos : Pos} {rest : List Expr}
theorem wv_pt (h : Wv X Wx a f) : Tv X Wx a f := ⟨h.pw.pt⟩
theorem wv_and1 (h : Tv X Wx a f) : Wv X Wx (.BoolOp .And [a] pos) f := ⟨pw_and1 h.pt⟩
theorem wv_or1 (h : Tv X Wx a f) : Wv X Wx (.BoolOp .Or [a] pos) f := ⟨pw_or1 h.pt⟩
theorem wv_and (h : Tv X Wx a f) (k : Wv X Wx (.BoolOp .And (b :: rest) pos) g) : Wv X Wx (.BoolOp .And (a :: b :: rest) pos) (tAnd f g) := by
  refine .of (pw_and h.pt k.pw) fun σ H Q h => ?_
  obtain ⟨Z, al, sl, st, rs, rl, p⟩ := h
  refine tT.mk rs rl (p.seq fun Z1 al1 H1 st1 c c' e1 rl1 rc p1 => ?_)
  subst rc
  cases c' with
  | true => exact iteT (tT.mk (rs.ext e1) rl1 p1)
  | false => exact iteF (p1 Z1 al1 H1 false (.refl ..) rl1 rfl)
theorem wv_or (h : Tv X Wx a f) (k : Wv X Wx (.BoolOp .Or (b :: rest) pos) g) : Wv X Wx (.BoolOp .Or (a :: b :: rest) pos) (tOr f g) := by
  refine .of (pw_or h.pt k.pw) fun σ H Q h => ?_
  obtain ⟨Z, al, sl, st, rs, rl, p⟩ := h
  refine tT.mk rs rl (p.seq fun Z1 al1 H1 st1 c c' e1 rl1 rc p1 => ?_)
  subst rc
  cases c' with
  | true => exact iteT (p1 Z1 al1 H1 true (.refl ..) rl1 rfl)
  | false => exact iteF (tT.mk (rs.ext e1) rl1 p1)
theorem tv_not (h : Tv X Wx a f) : Tv X Wx (.UnaryOp .Not a pos) (tNot f) := by
  refine .of (pt_not h.pt) fun σ H Q h => ?_
  obtain ⟨Z, al, sl, st, rs, rl, p⟩ := h
  refine tT.mk rs rl (p.seq fun Z1 al1 H1 st1 c c' e1 rl1 rc p1 => ?_)
  subst rc
  exact p1 Z1 al1 H1 _ (.refl ..) rl1 rfl
theorem ev_if (hc : Tv X Wx c f) (ha : Ev X Wx a u) (hb : Ev X Wx b v) : Ev X Wx (.IfExp c a b pos) (eIf f u v) := by
  refine .of (pe_ifExp hc.pt ha.pe hb.pe) fun σ H Q h => ?_
  obtain ⟨Z, al, sl, st, rs, rl, p⟩ := h
  refine tT.mk rs rl (p.seq fun Z1 al1 H1 st1 c c' e1 rl1 rc p1 => ?_)
  subst rc
  cases c' with
  | true => exact iteT (tE.mk (rs.ext e1) rl1 p1)
  | false => exact iteF (tE.mk (rs.ext e1) rl1 p1)
/-- and, or, not as values: the parts but the last give bools -/
def eAnd (f g : EV) : EV := fun sl st => (f sl st).bind fun w st1 => (asB w st1).bind fun c st2 => if c then g sl st2 else .ok (.d (.bool false)) st2
def eOr (f g : EV) : EV := fun sl st => (f sl st).bind fun w st1 => (asB w st1).bind fun c st2 => if c then .ok (.d (.bool true)) st2 else g sl st2
def eNot (f : EV) : EV := fun sl st => (f sl st).bind fun w st1 => (asB w st1).bind fun c st2 => .ok (.d (.bool (!c))) st2
theorem ev_one {op} (h : Ev X Wx a u) : Ev X Wx (.BoolOp op [a] pos) u := ⟨pe_one h.pe⟩
theorem asB_elim {Z : Hp} {al : List Addr} {H : Hp} {σ : L2.St} {st : Store} {w : W} {x : V} {α β : Type} {RA : Hp → List Addr → β → α → Prop} {Q : β → Hp → Prop} {k : Bool → Store → R α} (r : RW X.K Z al x w) (p : Post X Wx Z al H σ RA Q ((asB w st).bind k)) : ∃ c, x = .bl c ∧ Post X Wx Z al H σ RA Q (k c st) := by
  cases w with
  | c n => exact p.elim
  | s n => exact p.elim
  | x n => exact p.elim
  | d y =>
    cases y with
    | bool c =>
      cases r
      exact ⟨c, rfl, p⟩
    | _ => exact p.elim
theorem ev_and (h : Ev X Wx a u) (k : Ev X Wx (.BoolOp .And (b :: rest) pos) v) : Ev X Wx (.BoolOp .And (a :: b :: rest) pos) (eAnd u v) := by
  refine .of (pe_and h.pe k.pe) fun σ H Q h => ?_
  obtain ⟨Z, al, sl, st, rs, rl, p⟩ := h
  refine tE.mk rs rl (p.seq fun Z1 al1 H1 st1 w x e1 rl1 rc p1 => ?_)
  obtain ⟨c, rfl, p2⟩ := asB_elim rc p1
  refine ⟨c, rfl, ?_⟩
  cases c with
  | true => exact iteT (tE.mk (rs.ext e1) rl1 p2)
  | false => exact iteF (p2 Z1 al1 H1 _ (.refl ..) rl1 (.bl false))
theorem ev_or (h : Ev X Wx a u) (k : Ev X Wx (.BoolOp .Or (b :: rest) pos) v) : Ev X Wx (.BoolOp .Or (a :: b :: rest) pos) (eOr u v) := by
  refine .of (pe_or h.pe k.pe) fun σ H Q h => ?_
  obtain ⟨Z, al, sl, st, rs, rl, p⟩ := h
  refine tE.mk rs rl (p.seq fun Z1 al1 H1 st1 w x e1 rl1 rc p1 => ?_)
  obtain ⟨c, rfl, p2⟩ := asB_elim rc p1
  refine ⟨c, rfl, ?_⟩
  cases c with
  | true => exact iteT (p2 Z1 al1 H1 _ (.refl ..) rl1 (.bl true))
  | false => exact iteF (tE.mk (rs.ext e1) rl1 p2)
theorem ev_not (h : Ev X Wx a u) : Ev X Wx (.UnaryOp .Not a pos) (eNot u) := by
  refine .of (pe_not h.pe) fun σ H Q h => ?_
  obtain ⟨Z, al, sl, st, rs, rl, p⟩ := h
  refine tE.mk rs rl (p.seq fun Z1 al1 H1 st1 w x e1 rl1 rc p1 => ?_)
  obtain ⟨c, rfl, p2⟩ := asB_elim rc p1
  exact ⟨c, rfl, p2 Z1 al1 H1 _ (.refl ..) rl1 (.bl _)⟩
end

/-! ### chains: a < b < c -/
def eChain (o o' : W → W → Store → Option (W × Store)) (f g h : EV) : EV := fun sl st => (f sl st).bind fun w1 st1 => (g sl st1).bind fun w2 st2 => (ofO (o w1 w2 st2)).bind fun z st3 => (asB z st3).bind fun k st4 =>
  if k then (h sl st4).bind fun w3 st5 => ofO (o' w2 w3 st5) else .ok (.d (.bool false)) st4
section
variable {X : Cx} {Wx : WX} {a b c : Expr} {f g h : EV} {o o' : W → W → Store → Option (W × Store)} {pos : Pos}
theorem chain_of {r r' : R2} (hr : ∀ Z al H st w1 w2 x y Q, Rel X.K Z al H st → RW X.K Z al x w1 → RW X.K Z al y w2 → PostO X Z al H (RAw X) Q (o w1 w2 st) → r x y H Q)
    (hr' : ∀ Z al H st w1 w2 x y Q, Rel X.K Z al H st → RW X.K Z al x w1 → RW X.K Z al y w2 → PostO X Z al H (RAw X) Q (o' w1 w2 st) → r' x y H Q) (σ : L2.St) (H : Hp) (Q : VK)
    (hh : tE X Wx (eChain o o' f g h) σ H Q) : tChain r r' (tE X Wx f) (tE X Wx g) (tE X Wx h) σ H Q := by
  obtain ⟨Z, al, sl, st, rs, rl, p⟩ := hh
  refine tE.mk rs rl (p.seq fun Z1 al1 H1 st1 w1 v1 e1 rl1 rw1 p1 => ?_)
  refine tE.mk (rs.ext e1) rl1 (p1.seq fun Z2 al2 H2 st2 w2 v2 e2 rl2 rw2 p2 => ?_)
  have rs2 := (rs.ext e1).ext e2
  refine hr Z2 al2 H2 st2 w1 w2 v1 v2 _ rl2 (rw1.ext e2) rw2 ?_
  have p2' : Post X Wx Z2 al2 H2 σ (RAw X) (fun z H3 => ∃ k, z = V.bl k ∧ if k = true then tE X Wx h σ H3 fun y3 H4 => r' v2 y3 H4 Q else Q (.bl false) H3) (ofO (o w1 w2 st2)) := by
    refine p2.seq fun Z3 al3 H3 st3 z zv e3 rl3 rw3 p3 => ?_
    obtain ⟨k, rfl, p4⟩ := asB_elim rw3 p3
    refine ⟨k, rfl, ?_⟩
    cases k with
    | true => exact iteT (tE.mk (rs2.ext e3) rl3 (p4.seq fun Z5 al5 H5 st5 w3 v3 e5 rl5 rw5 p5 => hr' Z5 al5 H5 st5 w2 w3 v2 v3 Q rl5 ((rw2.ext e3).ext e5) rw5 p5.ofO))
    | false => exact iteF (p4 Z3 al3 H3 _ (.refl ..) rl3 (.bl false))
  exact p2'.ofO
theorem ev_chain {op op' : CmpOp} (h1 : Op2 X (compareOp op) o) (h2 : Op2 X (compareOp op') o') (ha : Ev X Wx a f) (hb : Ev X Wx b g) (hc : Ev X Wx c h) (hm : lastMarks [op, op'] [b, c] = false := by with_unfolding_all rfl) :
    Ev X Wx (.Compare a [op, op'] [b, c] pos) (eChain o o' f g h) := by
  obtain ⟨r, ho, hr⟩ := h1
  obtain ⟨r', ho', hr'⟩ := h2
  exact .of (pe_chain ho ho' ha.pe hb.pe hc.pe hm) (chain_of hr hr')
theorem tv_chain {op op' : CmpOp} (h1 : Op2 X (compareOp op) o) (h2 : Op2 X (compareOp op') o') (ha : Ev X Wx a f) (hb : Ev X Wx b g) (hc : Ev X Wx c h) (hm : lastMarks [op, op'] [b, c] = false := by with_unfolding_all rfl) :
    Tv X Wx (.Compare a [op, op'] [b, c] pos) (tVal (eChain o o' f g h)) := by
  obtain ⟨r, ho, hr⟩ := h1
  obtain ⟨r', ho', hr'⟩ := h2
  refine .of (pt_chain ho ho' ha.pe hb.pe hc.pe hm) fun σ H Q q => ?_
  obtain ⟨Z, al, sl, st, rs, rl, p⟩ := q
  show tChain r r' (tE X Wx f) (tE X Wx g) (tE X Wx h) σ H fun x H' => ∃ k, x = .bl k ∧ Q k H'
  exact chain_of hr hr' σ H _ (tE.mk rs rl (p.seq fun Z1 al1 H1 st1 w1 v1 e1 rl1 rw1 p1 => asB_post rl1 rw1 p1))
end
end DL

/-! DL2: operations on data. -/
namespace DL
open PySem PySem.Spec PyProof.Rows L2

section
variable {K : PySem.W.Frag} {Z : Hp} {al : List Addr} {H : Hp} {st : Store}
theorem toS_toD {w : W} {x : PyData} (e : toS st w = some x) : (∃ ns : List Int, w = .s ns ∧ x = .list (ns.map .int)) ∨ toD st w = some x := by
  cases w with
  | s ns => simp only [toS, Option.some.injEq] at e; exact .inl ⟨ns, rfl, e.symm⟩
  | d y => exact .inr e
  | c n => exact .inr e
  | x n => exact .inr e
theorem toS_rp (r : Rel K Z al H st) {v : V} {w : W} {x : PyData} (h : RW K Z al v w) (e : toS st w = some x) (hx : ∀ ds, x ≠ .list ds) : Rp K H v x := by
  rcases toS_toD e with ⟨ns, _, rfl⟩ | e
  · exact absurd rfl (hx _)
  · exact toD_rp r h e
theorem toS_int (r : Rel K Z al H st) {v : V} {w : W} {i : Int} (h : RW K Z al v w) (e : toS st w = some (.int i)) : v = .int i := by
  cases toS_rp r h e (fun _ z => nomatch z); rfl
theorem toS_bool (r : Rel K Z al H st) {v : V} {w : W} {i : Bool} (h : RW K Z al v w) (e : toS st w = some (.bool i)) : v = .bl i := by
  cases toS_rp r h e (fun _ z => nomatch z); rfl
theorem toS_str (r : Rel K Z al H st) {v : V} {w : W} {i : Str} (h : RW K Z al v w) (e : toS st w = some (.str i)) : v = .str i := by
  cases toS_rp r h e (fun _ z => nomatch z); rfl
theorem toS_none (r : Rel K Z al H st) {v : V} {w : W} (h : RW K Z al v w) (e : toS st w = some .none) : v = .non := by
  cases toS_rp r h e (fun _ z => nomatch z); rfl
theorem toS_tup (r : Rel K Z al H st) {v : V} {w : W} {ds : List PyData} (h : RW K Z al v w) (e : toS st w = some (.tuple ds)) : ∃ a vs, v = .ref a ∧ SqT K H a vs ∧ RpAll K Z vs ds := by
  rcases toS_toD e with ⟨ns, _, z⟩ | e
  · cases z
  · exact toD_tup r h e
theorem rp_none_iff {v : V} {w : W} (h : RW K Z al v w) : (v = .non) ↔ w = .d .none := by
  constructor
  · rintro rfl
    cases w with
    | d x => cases h; rfl
    | c n => obtain ⟨a, _, z⟩ := h; cases z
    | s n => obtain ⟨a, z, _⟩ := h; cases z
    | x n => obtain ⟨a, d, z, _⟩ := h; cases z
  · rintro rfl
    cases h; rfl
end

/-! ### what is given back -/
section
variable {X : Cx} {Z : Hp} {al : List Addr} {H : Hp} {st : Store} {Q : VK}
theorem give {w : W} {v : V} (rl : Rel X.K Z al H st) (p : PostO X Z al H (RAw X) Q (some (w, st))) (h : RW X.K Z al v w) : Q v H := p Z al H v (.refl ..) rl h
/-- a new tuple of data -/
theorem giveTup {ds : List PyData} {vs : List V} (rl : Rel X.K Z al H st) (p : PostO X Z al H (RAw X) Q (some (.d (.tuple ds), st))) (h : RpAll X.K Z vs ds) : ∀ a, H a = none → Q (.ref a) (upd H a (.tup vs)) := fun a ha => by
  refine p (upd Z a (.tup vs)) al _ (.ref a) (Ext.alloc rl ha _) (rl.alloc ha _) ?_
  exact .tup (SqT.of upd_same) (RpAll.mono (sameUpd (rl.zfree ha)) h)
theorem giveLst {ds : List PyData} {vs : List V} (rl : Rel X.K Z al H st) (p : PostO X Z al H (RAw X) Q (some (.d (.list ds), st))) (h : RpAll X.K Z vs ds) : ∀ a, H a = none → Q (.ref a) (upd H a (.lst vs)) := fun a ha => by
  refine p (upd Z a (.lst vs)) al _ (.ref a) (Ext.alloc rl ha _) (rl.alloc ha _) ?_
  exact .lst upd_same (RpAll.mono (sameUpd (rl.zfree ha)) h)
end

/-- an operation on two data, the script being no operand -/
def dop (F : PyData → PyData → Option PyData) : W → W → Store → Option (W × Store) := fun w1 w2 st =>
  match toD st w1, toD st w2 with
  | some a, some b => (F a b).map fun c => (.d c, st)
  | _, _ => none
/-- .. the script may be one -/
def sop (F : PyData → PyData → Option PyData) : W → W → Store → Option (W × Store) := fun w1 w2 st =>
  match toS st w1, toS st w2 with
  | some a, some b => (F a b).map fun c => (.d c, st)
  | _, _ => none
theorem toD_toS {st : Store} {w : W} {x : PyData} (e : toD st w = some x) : toS st w = some x := by
  cases w with
  | s ns => simp [toD] at e
  | x ns => simp [toD] at e
  | d y => exact e
  | c n => exact e
section
variable {X : Cx} {fn : Value → Value → Sem Value} {F : PyData → PyData → Option PyData}
theorem op2_dop (r : R2) (ho : OpR X fn r)
    (h : ∀ Z al H st w1 w2 x y Q a b c, Rel X.K Z al H st → RW X.K Z al x w1 → RW X.K Z al y w2 → toD st w1 = some a → toD st w2 = some b → F a b = some c → PostO X Z al H (RAw X) Q (some (.d c, st)) → r x y H Q) : Op2 X fn (dop F) := by
  refine ⟨r, ho, fun Z al H st w1 w2 x y Q rl r1 r2 p => ?_⟩
  unfold dop at p
  cases e1 : toD st w1 with
  | none => rw [e1] at p; exact p.elim
  | some a =>
    cases e2 : toD st w2 with
    | none => rw [e1, e2] at p; exact p.elim
    | some b =>
      rw [e1, e2] at p
      cases e3 : F a b with
      | none => simp only [e3, Option.map_none] at p; exact p.elim
      | some c =>
        simp only [e3, Option.map_some] at p
        exact h Z al H st w1 w2 x y Q a b c rl r1 r2 e1 e2 e3 p
theorem op2_sop (r : R2) (ho : OpR X fn r)
    (h : ∀ Z al H st w1 w2 x y Q a b c, Rel X.K Z al H st → RW X.K Z al x w1 → RW X.K Z al y w2 → toS st w1 = some a → toS st w2 = some b → F a b = some c → PostO X Z al H (RAw X) Q (some (.d c, st)) → r x y H Q) : Op2 X fn (sop F) := by
  refine ⟨r, ho, fun Z al H st w1 w2 x y Q rl r1 r2 p => ?_⟩
  unfold sop at p
  cases e1 : toS st w1 with
  | none => rw [e1] at p; exact p.elim
  | some a =>
    cases e2 : toS st w2 with
    | none => rw [e1, e2] at p; exact p.elim
    | some b =>
      rw [e1, e2] at p
      cases e3 : F a b with
      | none => simp only [e3, Option.map_none] at p; exact p.elim
      | some c =>
        simp only [e3, Option.map_some] at p
        exact h Z al H st w1 w2 x y Q a b c rl r1 r2 e1 e2 e3 p
end

/-! ### arithmetic -/
def addD : PyData → PyData → Option PyData
  | .int i, .int j => some (.int (i + j))
  | .str a, .str b => if a.length + b.length ≤ sizeLine then some (.str (a ++ b)) else none
  | .list a, .list b => if a.length + b.length ≤ sizeLine then some (.list (a ++ b)) else none
  | .tuple a, .tuple b => if a.length + b.length ≤ sizeLine then some (.tuple (a ++ b)) else none
  | _, _ => none
def subD : PyData → PyData → Option PyData
  | .int i, .int j => some (.int (i - j))
  | _, _ => none
def mulD : PyData → PyData → Option PyData
  | .int i, .int j => if (-(2 ^ 64) < i ∧ i < 2 ^ 64) ∨ (-(2 ^ 64) < j ∧ j < 2 ^ 64) then some (.int (i * j)) else none
  | .list xs, .int k => if -(2 ^ 63) ≤ k ∧ k < 2 ^ 63 ∧ xs.length * k.toNat ≤ sizeLine then some (.list (List.replicate k.toNat xs).flatten) else none
  | .str x, .int k => if 0 ≤ k ∧ k ≤ 10000 ∧ x.length ≤ 1000 then some (.str (Txt.mul x k)) else none
  | _, _ => none
def fdivD : PyData → PyData → Option PyData
  | .int i, .int j => if 0 < j ∧ j < 2 ^ 200 then some (.int (i / j)) else none
  | _, _ => none
def modD : PyData → PyData → Option PyData
  | .int i, .int j => if 0 < j then some (.int (i % j)) else none
  | _, _ => none
def powD : PyData → PyData → Option PyData
  | .int i, .int j => if 0 ≤ j ∧ j ≤ 64 ∧ i.natAbs < 2 ^ 2000 then some (.int (i ^ j.toNat)) else none
  | _, _ => none
def eqD : PyData → PyData → Option PyData := fun a b => if SeqAt.shaped a = true ∧ SeqAt.shaped b = true then some (.bool (PyData.eqv a b)) else none
def neD : PyData → PyData → Option PyData := fun a b => if SeqAt.shaped a = true ∧ SeqAt.shaped b = true then some (.bool (!PyData.eqv a b)) else none
def ltD : PyData → PyData → Option PyData
  | .int i, .int j => some (.bool (decide (i < j)))
  | _, _ => none
def leD : PyData → PyData → Option PyData
  | .int i, .int j => some (.bool (decide (i ≤ j)))
  | _, _ => none
def gtD : PyData → PyData → Option PyData
  | .int i, .int j => some (.bool (decide (j < i)))
  | _, _ => none
def geD : PyData → PyData → Option PyData
  | .int i, .int j => some (.bool (decide (j ≤ i)))
  | _, _ => none
/-- x in y -/
def inB (x y : PyData) : Option Bool :=
  match x, y with
  | .str a, .str b => match a.cps.toList with
    | [c] => some (decide (c ∈ b.cps.toList))
    | _ => none
  | x, .list ds => if SeqAt.shaped x = true ∧ SeqAt.shaped (.list ds) = true then some (ds.any fun z => PyData.eqv z x) else none
  | x, .tuple ds => if SeqAt.shaped x = true ∧ SeqAt.shaped (.tuple ds) = true then some (ds.any fun z => PyData.eqv z x) else none
  | _, _ => none
def inD (x y : PyData) : Option PyData := (inB x y).map .bool
def notInD (x y : PyData) : Option PyData := (inB x y).map fun b => .bool (!b)

section
variable {X : Cx}
theorem op_powW : OpR X (binaryOp .Pow) (rI (fun i j => 0 ≤ j ∧ j ≤ 64 ∧ i.natAbs < 2 ^ 2000) fun i j => .int (i ^ j.toNat)) := opI fun i j _ _ _ _ _ hc q => by
  refine pow_int hc.1 ?_ q
  obtain ⟨h0, h1, h2⟩ := hc
  have hb : Builtin.Int.intBits i ≤ 2000 := by
    unfold Builtin.Int.intBits
    split
    · exact Nat.zero_le _
    · rename_i hne
      have : i.natAbs.log2 < 2000 := PySem.Flt.log2_lt_of (by decide) h2
      omega
  have h3 : ((Builtin.Int.intBits i : Nat) : Int) * j ≤ 2000 * 64 := by
    have a1 : ((Builtin.Int.intBits i : Nat) : Int) ≤ 2000 := by omega
    have a2 : (0 : Int) ≤ ((Builtin.Int.intBits i : Nat) : Int) := Int.natCast_nonneg _
    exact Int.mul_le_mul a1 h1 h0 (by decide)
  exact Int.le_trans h3 (by decide)
theorem o_add : Op2 X (binaryOp .Add) (dop addD) := by
  refine op2_dop _ (op_add.or (op_add_str.or (op_cat.or op_catA))) fun Z al H st w1 w2 x y Q a b c rl r1 r2 e1 e2 e3 p => ?_
  have d1 := toD_toS e1
  have d2 := toD_toS e2
  cases a <;> cases b <;> simp only [addD, reduceCtorEq, Option.some.injEq] at e3
  · subst e3
    obtain rfl := toS_int rl r1 d1
    obtain rfl := toS_int rl r2 d2
    exact .inl ⟨_, _, rfl, rfl, give rl p (.int _)⟩
  · split at e3 <;> cases e3
    rename_i hl
    obtain rfl := toS_str rl r1 d1
    obtain rfl := toS_str rl r2 d2
    exact .inr (.inl ⟨_, _, rfl, rfl, hl, give rl p (.str _)⟩)
  · split at e3 <;> cases e3
    rename_i hl
    obtain ⟨a1, vs, rfl, h1, q1⟩ := toD_list rl r1 e1
    obtain ⟨a2, us, rfl, h2, q2⟩ := toD_list rl r2 e2
    exact .inr (.inr (.inl ⟨_, _, vs, us, rfl, rfl, h1, h2, by rw [q1.length, q2.length]; exact hl, giveLst rl p (q1.append q2)⟩))
  · split at e3 <;> cases e3
    rename_i hl
    obtain ⟨a1, vs, rfl, h1, q1⟩ := toD_tup rl r1 e1
    obtain ⟨a2, us, rfl, h2, q2⟩ := toD_tup rl r2 e2
    refine .inr (.inr (.inr ⟨_, _, vs, us, rfl, rfl, h1, h2, by rw [q1.length, q2.length]; exact hl, fun z => ?_, fun _ z => ?_, fun _ _ => giveTup rl p (q1.append q2)⟩))
    · subst z
      cases q1
      exact give rl p (by
        have z := toD_rp rl r2 e2
        cases w2 with
        | d x => simp only [toD, Option.some.injEq] at e2; subst e2; exact r2
        | s n => simp [toD] at e2
        | x n => simp [toD] at e2
        | c n =>
          simp only [toD] at e2
          split at e2
          · simp only [Option.map_eq_some_iff, reduceCtorEq, and_false, exists_false] at e2
          · rename_i y hy
            simp only [Option.some.injEq] at e2
            subst e2
            obtain ⟨a, ha, hv⟩ := r2
            cases hv
            exact (rl.cell n _ _ hy ha).2
          · cases e2)
    · subst z
      cases q2
      rw [List.append_nil] at p
      exact give rl p (by
        cases w1 with
        | d x => simp only [toD, Option.some.injEq] at e1; subst e1; exact r1
        | s n => simp [toD] at e1
        | x n => simp [toD] at e1
        | c n =>
          simp only [toD] at e1
          split at e1
          · simp only [Option.map_eq_some_iff, reduceCtorEq, and_false, exists_false] at e1
          · rename_i y hy
            simp only [Option.some.injEq] at e1
            subst e1
            obtain ⟨a, ha, hv⟩ := r1
            cases hv
            exact (rl.cell n _ _ hy ha).2
          · cases e1)
theorem o_sub : Op2 X (binaryOp .Sub) (dop subD) := by
  refine op2_dop _ op_sub fun Z al H st w1 w2 x y Q a b c rl r1 r2 e1 e2 e3 p => ?_
  cases a <;> cases b <;> simp only [subD, reduceCtorEq, Option.some.injEq] at e3
  subst e3
  obtain rfl := toS_int rl r1 (toD_toS e1)
  obtain rfl := toS_int rl r2 (toD_toS e2)
  exact ⟨_, _, rfl, rfl, give rl p (.int _)⟩
theorem mulOk_of {a : Str} {k : Int} (h : 0 ≤ k ∧ k ≤ 10000 ∧ a.length ≤ 1000) : MulOk a k := by
  obtain ⟨h0, h1, h2⟩ := h
  refine ⟨?_, fun h3 _ z => ?_, fun _ _ => ?_⟩
  · rw [decide_eq_false (by omega), decide_eq_false (by omega)]; rfl
  · have e : (1000 : Int) ≤ (2 ^ 63 - 1) / k := by
      rw [Int.le_ediv_iff_mul_le (by omega)]
      omega
    omega
  · have e : a.length * k.toNat ≤ 1000 * 10000 := Nat.mul_le_mul h2 (by omega)
    unfold Builtin.Str.tooLong
    have := sizeLine_eq
    simp
    omega
theorem RpAll.flat {K : PySem.W.Frag} {Z : Hp} {vs : List V} {ds : List PyData} (h : RpAll K Z vs ds) : ∀ n, RpAll K Z (List.replicate n vs).flatten (List.replicate n ds).flatten
  | 0 => .nil
  | n + 1 => by rw [List.replicate_succ, List.replicate_succ, List.flatten_cons, List.flatten_cons]; exact h.append (RpAll.flat h n)
theorem o_mul : Op2 X (binaryOp .Mult) (dop mulD) := by
  have hs : OpR X (binaryOp .Mult) (fun x y H Q => ∃ (a : Str) (k : Int), x = .str a ∧ y = .int k ∧ (0 ≤ k ∧ k ≤ 10000 ∧ a.length ≤ 1000) ∧ Q (.str (Txt.mul a k)) H) := by
    intro pins s σ H x y v u Q I rx ry h
    obtain ⟨a, k, rfl, rfl, hc, q⟩ := h
    obtain ⟨t, rfl⟩ := rx
    obtain ⟨t', rfl⟩ := ry
    exact SB.mul (mulOk_of hc) fun t' k' => ⟨.str _, H, I.tok _, ⟨_, rfl⟩, q⟩
  refine op2_dop _ (op_mul.or (op_rep.or hs)) fun Z al H st w1 w2 x y Q a b c rl r1 r2 e1 e2 e3 p => ?_
  have d1 := toD_toS e1
  have d2 := toD_toS e2
  cases a <;> cases b <;> simp only [mulD, reduceCtorEq] at e3
  · split at e3 <;> cases e3
    rename_i hc
    obtain rfl := toS_int rl r1 d1
    obtain rfl := toS_int rl r2 d2
    exact .inl ⟨_, _, rfl, rfl, hc, give rl p (.int _)⟩
  · split at e3 <;> cases e3
    rename_i hc
    obtain rfl := toS_str rl r1 d1
    obtain rfl := toS_int rl r2 d2
    exact .inr (.inr ⟨_, _, rfl, rfl, hc, give rl p (.str _)⟩)
  · split at e3 <;> cases e3
    rename_i hc
    obtain ⟨a1, vs, rfl, h1, q1⟩ := toD_list rl r1 e1
    obtain rfl := toS_int rl r2 d2
    exact .inr (.inl ⟨_, _, vs, rfl, rfl, h1, hc.1, hc.2.1, by rw [q1.length]; exact hc.2.2, giveLst rl p (q1.flat _)⟩)
theorem o_fdiv : Op2 X (binaryOp .FloorDiv) (dop fdivD) := by
  refine op2_dop _ op_fdivW fun Z al H st w1 w2 x y Q a b c rl r1 r2 e1 e2 e3 p => ?_
  cases a <;> cases b <;> simp only [fdivD, reduceCtorEq] at e3
  split at e3 <;> cases e3
  rename_i hc
  obtain rfl := toS_int rl r1 (toD_toS e1)
  obtain rfl := toS_int rl r2 (toD_toS e2)
  exact ⟨_, _, rfl, rfl, wide_div (b := 200) hc.1 (by omega) (by decide) (by decide), give rl p (.int _)⟩
theorem o_mod : Op2 X (binaryOp .Mod) (dop modD) := by
  refine op2_dop _ op_mod fun Z al H st w1 w2 x y Q a b c rl r1 r2 e1 e2 e3 p => ?_
  cases a <;> cases b <;> simp only [modD, reduceCtorEq] at e3
  split at e3 <;> cases e3
  rename_i hc
  obtain rfl := toS_int rl r1 (toD_toS e1)
  obtain rfl := toS_int rl r2 (toD_toS e2)
  exact ⟨_, _, rfl, rfl, hc, give rl p (.int _)⟩
theorem o_pow : Op2 X (binaryOp .Pow) (dop powD) := by
  refine op2_dop _ op_powW fun Z al H st w1 w2 x y Q a b c rl r1 r2 e1 e2 e3 p => ?_
  cases a <;> cases b <;> simp only [powD, reduceCtorEq] at e3
  split at e3 <;> cases e3
  rename_i hc
  obtain rfl := toS_int rl r1 (toD_toS e1)
  obtain rfl := toS_int rl r2 (toD_toS e2)
  exact ⟨_, _, rfl, rfl, hc, give rl p (.int _)⟩
theorem o_eq (hu : X.A.units + 70 < cLine) : Op2 X (compareOp .Eq) (sop eqD) := by
  refine op2_sop _ (op_eqD (by omega)) fun Z al H st w1 w2 x y Q a b c rl r1 r2 e1 e2 e3 p => ?_
  unfold eqD at e3
  split at e3 <;> cases e3
  rename_i hc
  exact ⟨a, b, toS_dp rl r1 e1 (SeqAt.canLay_of_shaped hc.1), toS_dp rl r2 e2 (SeqAt.canLay_of_shaped hc.2), hc.1, hc.2, give rl p (.bl _)⟩
theorem o_ne (hu : X.A.units + 70 < cLine) : Op2 X (compareOp .NotEq) (sop neD) := by
  refine op2_sop _ (op_neD (by omega)) fun Z al H st w1 w2 x y Q a b c rl r1 r2 e1 e2 e3 p => ?_
  unfold neD at e3
  split at e3 <;> cases e3
  rename_i hc
  exact ⟨a, b, toS_dp rl r1 e1 (SeqAt.canLay_of_shaped hc.1), toS_dp rl r2 e2 (SeqAt.canLay_of_shaped hc.2), hc.1, hc.2, give rl p (.bl _)⟩
theorem o_lt : Op2 X (compareOp .Lt) (sop ltD) := by
  refine op2_sop _ op_lt fun Z al H st w1 w2 x y Q a b c rl r1 r2 e1 e2 e3 p => ?_
  cases a <;> cases b <;> simp only [ltD, reduceCtorEq, Option.some.injEq] at e3
  subst e3
  obtain rfl := toS_int rl r1 e1
  obtain rfl := toS_int rl r2 e2
  exact ⟨_, _, rfl, rfl, give rl p (.bl _)⟩
theorem o_le : Op2 X (compareOp .LtE) (sop leD) := by
  refine op2_sop _ op_le fun Z al H st w1 w2 x y Q a b c rl r1 r2 e1 e2 e3 p => ?_
  cases a <;> cases b <;> simp only [leD, reduceCtorEq, Option.some.injEq] at e3
  subst e3
  obtain rfl := toS_int rl r1 e1
  obtain rfl := toS_int rl r2 e2
  exact ⟨_, _, rfl, rfl, give rl p (.bl _)⟩
theorem o_gt : Op2 X (compareOp .Gt) (sop gtD) := by
  refine op2_sop _ op_gt fun Z al H st w1 w2 x y Q a b c rl r1 r2 e1 e2 e3 p => ?_
  cases a <;> cases b <;> simp only [gtD, reduceCtorEq, Option.some.injEq] at e3
  subst e3
  obtain rfl := toS_int rl r1 e1
  obtain rfl := toS_int rl r2 e2
  exact ⟨_, _, rfl, rfl, give rl p (.bl _)⟩
theorem o_ge : Op2 X (compareOp .GtE) (sop geD) := by
  refine op2_sop _ op_ge fun Z al H st w1 w2 x y Q a b c rl r1 r2 e1 e2 e3 p => ?_
  cases a <;> cases b <;> simp only [geD, reduceCtorEq, Option.some.injEq] at e3
  subst e3
  obtain rfl := toS_int rl r1 e1
  obtain rfl := toS_int rl r2 e2
  exact ⟨_, _, rfl, rfl, give rl p (.bl _)⟩
/-! is None -/
def noneW : W → Bool
  | .d .none => true
  | _ => false
def isNo : W → W → Store → Option (W × Store) := fun w1 w2 st => match w2 with
  | .d .none => some (.d (.bool (noneW w1)), st)
  | _ => none
def notNo : W → W → Store → Option (W × Store) := fun w1 w2 st => match w2 with
  | .d .none => some (.d (.bool (!noneW w1)), st)
  | _ => none
theorem isNone_dec {K : PySem.W.Frag} {Z : Hp} {al : List Addr} {v : V} {w : W} (h : RW K Z al v w) : decide (v = .non) = noneW w := by
  have k := rp_none_iff h
  cases w with
  | c n => exact decide_eq_false fun z => nomatch k.mp z
  | s n => exact decide_eq_false fun z => nomatch k.mp z
  | x n => exact decide_eq_false fun z => nomatch k.mp z
  | d x =>
    cases x with
    | none => exact decide_eq_true (k.mpr rfl)
    | _ => exact decide_eq_false fun z => nomatch k.mp z
theorem o_is : Op2 X (compareOp .Is) isNo := by
  refine ⟨_, op_isN, fun Z al H st w1 w2 x y Q rl r1 r2 p => ?_⟩
  cases w2 with
  | c n => exact p.elim
  | s n => exact p.elim
  | x n => exact p.elim
  | d z =>
    cases z with
    | none =>
      cases r2
      refine ⟨rfl, ?_⟩
      rw [isNone_dec r1]
      exact give rl p (.bl _)
    | _ => exact p.elim
theorem o_isnot : Op2 X (compareOp .IsNot) notNo := by
  refine ⟨_, op_notN, fun Z al H st w1 w2 x y Q rl r1 r2 p => ?_⟩
  cases w2 with
  | c n => exact p.elim
  | s n => exact p.elim
  | x n => exact p.elim
  | d z =>
    cases z with
    | none =>
      cases r2
      refine ⟨rfl, ?_⟩
      rw [isNone_dec r1]
      exact give rl p (.bl _)
    | _ => exact p.elim
/-! in -/
def rInTD (K : PySem.W.Frag) (neg : Bool) : R2 := fun x y H Q => ∃ d ds, Dp K H x d ∧ Dp K H y (.tuple ds) ∧ SeqAt.shaped d = true ∧ SeqAt.shaped (.tuple ds) = true ∧ Q (.bl (if neg then !(ds.any fun z => PyData.eqv z d) else ds.any fun z => PyData.eqv z d)) H
theorem op_inTD (hu : X.A.units + 70 < cLine) : OpR X (compareOp .In) (rInTD X.K false) := by
  intro pins s σ H x y v u Q I rx ry h
  obtain ⟨d, ds, hd, he, sd, se, q⟩ := h
  obtain ⟨as, r1⟩ := Dp.reads I d x v hd rx
  obtain ⟨bs, r2⟩ := Dp.reads I (.tuple ds) y u he ry
  have hdd := SeqAt.depth_of_shaped sd
  exact SeqAt.in_tuple_reads r2 r1 (by have := SeqAt.canLay_of_shaped se; simpa [PyData.canLay0] using this) (SeqAt.canLay_of_shaped sd) (by omega) ⟨.bl _, H, I, rfl, q⟩
theorem op_notInTD (hu : X.A.units + 70 < cLine) : OpR X (compareOp .NotIn) (rInTD X.K true) := by
  intro pins s σ H x y v u Q I rx ry h
  obtain ⟨d, ds, hd, he, sd, se, q⟩ := h
  obtain ⟨as, r1⟩ := Dp.reads I d x v hd rx
  obtain ⟨bs, r2⟩ := Dp.reads I (.tuple ds) y u he ry
  have hdd := SeqAt.depth_of_shaped sd
  exact SeqAt.notIn_tuple_reads r2 r1 (by have := SeqAt.canLay_of_shaped se; simpa [PyData.canLay0] using this) (SeqAt.canLay_of_shaped sd) (by omega) ⟨.bl _, H, I, rfl, q⟩
theorem str_of_tl {a : Str} {l : List Nat} (h : a.cps.toList = l) : a = ⟨l.toArray⟩ := by
  subst h
  cases a
  rfl
theorem o_in (hu : X.A.units + 70 < cLine) : Op2 X (compareOp .In) (sop inD) := by
  refine op2_sop _ (op_in_sign.or ((op_inD (by omega)).or (op_inTD hu))) fun Z al H st w1 w2 x y Q a b c rl r1 r2 e1 e2 e3 p => ?_
  have lst : ∀ ds, b = .list ds → SeqAt.shaped a = true ∧ SeqAt.shaped (.list ds) = true → c = .bool (ds.any fun z => PyData.eqv z a) → rInD X.K x y H Q := by
    rintro ds rfl ⟨h1, h2⟩ rfl
    exact ⟨a, ds, toS_dp rl r1 e1 (SeqAt.canLay_of_shaped h1), toS_dp rl r2 e2 (SeqAt.canLay_of_shaped h2), h1, h2, give rl p (.bl _)⟩
  have tup : ∀ ds, b = .tuple ds → SeqAt.shaped a = true ∧ SeqAt.shaped (.tuple ds) = true → c = .bool (ds.any fun z => PyData.eqv z a) → rInTD X.K false x y H Q := by
    rintro ds rfl ⟨h1, h2⟩ rfl
    exact ⟨a, ds, toS_dp rl r1 e1 (SeqAt.canLay_of_shaped h1), toS_dp rl r2 e2 (SeqAt.canLay_of_shaped h2), h1, h2, give rl p (.bl _)⟩
  unfold inD at e3
  cases e4 : inB a b with
  | none => rw [e4] at e3; cases e3
  | some k =>
    rw [e4] at e3
    simp only [Option.map_some, Option.some.injEq] at e3
    subst e3
    unfold inB at e4
    split at e4
    · split at e4
      · rename_i cc hc
        cases e4
        obtain rfl := toS_str rl r1 e1
        obtain rfl := toS_str rl r2 e2
        exact .inl ⟨cc, _, by rw [str_of_tl hc], rfl, give rl p (.bl _)⟩
      · cases e4
    · split at e4 <;> cases e4
      rename_i hc
      exact .inr (.inl (lst _ rfl hc rfl))
    · split at e4 <;> cases e4
      rename_i hc
      exact .inr (.inr (tup _ rfl hc rfl))
    · cases e4
theorem o_notin (hu : X.A.units + 70 < cLine) : Op2 X (compareOp .NotIn) (sop notInD) := by
  refine op2_sop _ (op_notIn_sign.or ((op_notInD (by omega)).or (op_notInTD hu))) fun Z al H st w1 w2 x y Q a b c rl r1 r2 e1 e2 e3 p => ?_
  have lst : ∀ ds, b = .list ds → SeqAt.shaped a = true ∧ SeqAt.shaped (.list ds) = true → c = .bool (!ds.any fun z => PyData.eqv z a) → rNotInD X.K x y H Q := by
    rintro ds rfl ⟨h1, h2⟩ rfl
    exact ⟨a, ds, toS_dp rl r1 e1 (SeqAt.canLay_of_shaped h1), toS_dp rl r2 e2 (SeqAt.canLay_of_shaped h2), h1, h2, give rl p (.bl _)⟩
  have tup : ∀ ds, b = .tuple ds → SeqAt.shaped a = true ∧ SeqAt.shaped (.tuple ds) = true → c = .bool (!ds.any fun z => PyData.eqv z a) → rInTD X.K true x y H Q := by
    rintro ds rfl ⟨h1, h2⟩ rfl
    exact ⟨a, ds, toS_dp rl r1 e1 (SeqAt.canLay_of_shaped h1), toS_dp rl r2 e2 (SeqAt.canLay_of_shaped h2), h1, h2, give rl p (.bl _)⟩
  unfold notInD at e3
  cases e4 : inB a b with
  | none => rw [e4] at e3; cases e3
  | some k =>
    rw [e4] at e3
    simp only [Option.map_some, Option.some.injEq] at e3
    subst e3
    unfold inB at e4
    split at e4
    · split at e4
      · rename_i cc hc
        cases e4
        obtain rfl := toS_str rl r1 e1
        obtain rfl := toS_str rl r2 e2
        exact .inl ⟨cc, _, by rw [str_of_tl hc], rfl, give rl p (.bl _)⟩
      · cases e4
    · split at e4 <;> cases e4
      rename_i hc
      exact .inr (.inl (lst _ rfl hc rfl))
    · split at e4 <;> cases e4
      rename_i hc
      exact .inr (.inr (tup _ rfl hc rfl))
    · cases e4
end
end DL

/-! DL3: argument lists, what is made to lie still, displays, subscripts, slices, built-in calls, methods. -/
namespace DL
open PySem PySem.Spec PyProof.Rows L2

/-! ### argument lists -/
def aNil : AV := fun _ st => .ok [] st
def aCons (f : EV) (g : AV) : AV := fun sl st => (f sl st).bind fun w st1 => (g sl st1).bind fun ws st2 => .ok (w :: ws) st2
section
variable {X : Cx} {Wx : WX} {e : Expr} {es : List Expr} {f : EV} {g : AV} {p : Pos}
theorem av_nil : Av X Wx [] aNil := by
  refine .of pa_nil fun σ H Q h => ?_
  obtain ⟨Z, al, sl, st, rs, rl, p⟩ := h
  exact p Z al H [] (.refl ..) rl .nil
theorem av_cons (h : Ev X Wx e f) (k : Av X Wx es g) (hs : starEach (e :: es) X.env = (false, eval e X.env) :: starEach es X.env := by rfl) : Av X Wx (e :: es) (aCons f g) := by
  refine .of (pa_cons h.pe k.pa hs) fun σ H Q h => ?_
  obtain ⟨Z, al, sl, st, rs, rl, p⟩ := h
  refine tE.mk rs rl (p.seq fun Z1 al1 H1 st1 w v e1 rl1 rw1 p1 => ?_)
  refine tA.mk (rs.ext e1) rl1 (p1.seq fun Z2 al2 H2 st2 ws vs e2 rl2 rw2 p2 => ?_)
  exact p2 Z2 al2 H2 (v :: vs) (.refl ..) rl2 (.cons (rw1.ext e2) rw2)
/-- *e: the items of a list or a tuple, as data -/
def itemsOf (st : Store) (w : W) : Option (List W) := match toS st w with
  | some (.list ds) => some (ds.map .d)
  | some (.tuple ds) => some (ds.map .d)
  | _ => none
def aStar (f : EV) (g : AV) : AV := fun sl st => (f sl st).bind fun w st1 => match itemsOf st1 w with
  | some us => (g sl st1).bind fun ws st2 => .ok (us ++ ws) st2
  | none => .bad
theorem itemsOf_rw {K : PySem.W.Frag} {Z : Hp} {al : List Addr} {H : Hp} {st : Store} (rl : Rel K Z al H st) {v : V} {w : W} {us : List W} (h : RW K Z al v w) (e : itemsOf st w = some us) : ∃ a vs, v = .ref a ∧ (SqT K H a vs ∨ SqL K H a vs) ∧ RWs K Z al vs us := by
  unfold itemsOf at e
  split at e
  · rename_i ds q
    cases e
    obtain ⟨a, vs, rfl, h1, h2⟩ := toS_list rl h q
    exact ⟨a, vs, rfl, .inr h1, allD_of h2⟩
  · rename_i ds q
    cases e
    obtain ⟨a, vs, rfl, h1, h2⟩ := toS_tup rl h q
    exact ⟨a, vs, rfl, .inl h1, allD_of h2⟩
  · cases e
theorem av_star (h : Ev X Wx e f) (k : Av X Wx es g) (hs : starEach (.Starred e p :: es) X.env = (true, eval e X.env) :: starEach es X.env := by rfl) : Av X Wx (.Starred e p :: es) (aStar f g) := by
  refine .of (StX.pa_star h.pe k.pa hs) fun σ H Q h => ?_
  obtain ⟨Z, al, sl, st, rs, rl, p⟩ := h
  refine tE.mk rs rl (p.seq fun Z1 al1 H1 st1 w v e1 rl1 rw1 p1 => ?_)
  cases q : itemsOf st1 w with
  | none => simp only [q] at p1; exact p1.elim
  | some us =>
    simp only [q] at p1
    obtain ⟨a, vs, rfl, hv, rv⟩ := itemsOf_rw rl1 rw1 q
    refine ⟨a, vs, rfl, hv, tA.mk (rs.ext e1) rl1 (p1.seq fun Z2 al2 H2 st2 ws vs2 e2 rl2 rw2 p2 => ?_)⟩
    exact p2 Z2 al2 H2 (vs ++ vs2) (.refl ..) rl2 ((rv.ext e2).append rw2)
end

/-! ### what is made to lie still -/
def frzs (f : W → Store → Option (PyData × Store)) : List W → Store → Option (List PyData × Store)
  | [], st => some ([], st)
  | w :: ws, st => match f w st with
    | none => none
    | some (x, st1) => match frzs f ws st1 with
      | none => none
      | some (xs, st2) => some (x :: xs, st2)
def frz : Nat → W → Store → Option (PyData × Store)
  | _, .d x, st => some (x, st)
  | _, .s _, _ => none
  | _, .x _, _ => none
  | 0, .c _, _ => none
  | k + 1, .c n, st => match st[n]? with
    | some (.frz x) => some (x, st)
    | some (.lst ws) => match frzs (frz k) ws st with
      | none => none
      | some (xs, st1) => match st1[n]? with
        | some (.lst _) => some (.list xs, st1.set n (.frz (.list xs)))
        | _ => none
    | _ => none
section
variable {K : PySem.W.Frag} {H : Hp} {al : List Addr}
theorem frzs_ok {f : W → Store → Option (PyData × Store)} (hf : ∀ {Z st v w x st'}, Rel K Z al H st → RW K Z al v w → f w st = some (x, st') → ∃ Z', Ext Z al H Z' al H ∧ Rel K Z' al H st' ∧ Rp K Z' v x) :
    ∀ {ws : List W} {vs : List V} {Z st xs st'}, Rel K Z al H st → RWs K Z al vs ws → frzs f ws st = some (xs, st') → ∃ Z', Ext Z al H Z' al H ∧ Rel K Z' al H st' ∧ RpAll K Z' vs xs := by
  intro ws
  induction ws with
  | nil =>
    intro vs Z st xs st' rl r e
    simp only [frzs, Option.some.injEq, Prod.mk.injEq] at e
    obtain ⟨rfl, rfl⟩ := e
    cases r
    exact ⟨Z, .refl .., rl, .nil⟩
  | cons w ws ih =>
    intro vs Z st xs st' rl r e
    cases r with
    | @cons v _ vs _ r1 r2 =>
      simp only [frzs] at e
      cases q : f w st with
      | none => rw [q] at e; cases e
      | some p =>
        obtain ⟨x, st1⟩ := p
        rw [q] at e
        simp only at e
        cases q2 : frzs f ws st1 with
        | none => rw [q2] at e; cases e
        | some p2 =>
          obtain ⟨ys, st2⟩ := p2
          rw [q2] at e
          simp only [Option.some.injEq, Prod.mk.injEq] at e
          obtain ⟨rfl, rfl⟩ := e
          obtain ⟨Z1, e1, rl1, h1⟩ := hf rl r1 q
          obtain ⟨Z2, e2, rl2, h2⟩ := ih rl1 (RWs.ext e1 r2) q2
          exact ⟨Z2, e1.trans e2, rl2, .cons (Rp.mono e2.same h1) h2⟩
theorem frz_ok : ∀ (k : Nat) {Z st v w x st'}, Rel K Z al H st → RW K Z al v w → frz k w st = some (x, st') → ∃ Z', Ext Z al H Z' al H ∧ Rel K Z' al H st' ∧ Rp K Z' v x := by
  intro k
  induction k with
  | zero =>
    intro Z st v w x st' rl r e
    cases w with
    | d y =>
      simp only [frz, Option.some.injEq, Prod.mk.injEq] at e
      obtain ⟨rfl, rfl⟩ := e
      exact ⟨Z, .refl .., rl, r⟩
    | c n => simp [frz] at e
    | s n => simp [frz] at e
    | x n => simp [frz] at e
  | succ k ih =>
    intro Z st v w x st' rl r e
    cases w with
    | d y =>
      simp only [frz, Option.some.injEq, Prod.mk.injEq] at e
      obtain ⟨rfl, rfl⟩ := e
      exact ⟨Z, .refl .., rl, r⟩
    | s n => simp [frz] at e
    | x n => simp [frz] at e
    | c n =>
      simp only [frz] at e
      obtain ⟨a, ha, rfl⟩ := r
      cases q : st[n]? with
      | none => rw [q] at e; cases e
      | some c =>
        have ck := rl.cell n c a q ha
        rw [q] at e
        cases c with
        | frz y =>
          simp only [Option.some.injEq, Prod.mk.injEq] at e
          obtain ⟨rfl, rfl⟩ := e
          exact ⟨Z, .refl .., rl, ck.2⟩
        | dic t kvs => cases e
        | lst ws =>
          simp only at e
          obtain ⟨hz, vs, hv, rv⟩ := ck
          cases q1 : frzs (frz k) ws st with
          | none => rw [q1] at e; cases e
          | some p =>
            obtain ⟨xs, st1⟩ := p
            rw [q1] at e
            simp only at e
            obtain ⟨Z1, e1, rl1, h1⟩ := frzs_ok (fun rl r e => ih rl r e) rl rv q1
            cases q2 : st1[n]? with
            | none => rw [q2] at e; cases e
            | some c1 =>
              rw [q2] at e
              cases c1 with
              | lst ws1 =>
                simp only [Option.some.injEq, Prod.mk.injEq] at e
                obtain ⟨rfl, rfl⟩ := e
                obtain ⟨hz1, vs1, hv1, rv1⟩ := rl1.cell n _ a q2 ha
                have hx : Rp K (upd Z1 a (.lst vs)) (.ref a) (.list xs) := .lst upd_same (RpAll.mono (sameUpd hz1) h1)
                exact ⟨_, e1.trans (Ext.frz rl1 (List.mem_of_getElem? ha) hz1), rl1.frz q2 ha hv hz1 hx, hx⟩
              | dic t kvs => cases e
              | frz y => cases e
end

/-! ### displays -/
def toList' (fs : List EV) : AV := fs.foldr aCons aNil
/-- (a, b): its parts lie still -/
def eTup (g : AV) : EV := fun sl st => (g sl st).bind fun ws st1 => match frzs (frz 4) ws st1 with
  | some (xs, st2) => if xs.length ≤ sizeLine then .ok (.d (.tuple xs)) st2 else .bad
  | none => .bad
def eLst (g : AV) : EV := fun sl st => (g sl st).bind fun ws st1 => match frzs (frz 4) ws st1 with
  | some (xs, st2) => if xs.length ≤ sizeLine then .ok (.d (.list xs)) st2 else .bad
  | none => .bad
/-- [a, b], a list that will be changed -/
def eNew (g : AV) : EV := fun sl st => (g sl st).bind fun ws st1 => if ws.length ≤ sizeLine then .ok (.c st1.length) (st1 ++ [.lst ws]) else .bad
section
variable {X : Cx} {Wx : WX} {es : List Expr} {g : AV} {pos : Pos} {x1 : Nat}
theorem ev_tup {x1} (h : Av X Wx es g) : Ev X Wx (.Tuple es x1 pos) (eTup g) := by
  refine .of (pe_tup h.pa) fun σ H Q h => ?_
  obtain ⟨Z, al, sl, st, rs, rl, p⟩ := h
  refine tA.mk rs rl (p.seq fun Z1 al1 H1 st1 ws vs e1 rl1 rw1 p1 => ?_)
  cases q : frzs (frz 4) ws st1 with
  | none => simp only [q] at p1; exact p1.elim
  | some y =>
    obtain ⟨xs, st2⟩ := y
    simp only [q] at p1
    obtain ⟨Z2, e2, rl2, h2⟩ := frzs_ok (fun rl r e => frz_ok 4 rl r e) rl1 rw1 q
    split at p1
    · rename_i hl
      refine ⟨by rw [h2.length]; exact hl, fun a ha => ?_⟩
      refine p1 _ al1 _ (.ref a) (e2.trans (Ext.alloc rl2 ha (.tup vs))) (rl2.alloc ha _) (.tup (SqT.of upd_same) (RpAll.mono (sameUpd (rl2.zfree ha)) h2))
    · exact p1.elim
theorem ev_lst (h : Av X Wx es g) : Ev X Wx (.List es pos) (eLst g) := by
  refine .of (pe_lst h.pa) fun σ H Q h => ?_
  obtain ⟨Z, al, sl, st, rs, rl, p⟩ := h
  refine tA.mk rs rl (p.seq fun Z1 al1 H1 st1 ws vs e1 rl1 rw1 p1 => ?_)
  cases q : frzs (frz 4) ws st1 with
  | none => simp only [q] at p1; exact p1.elim
  | some y =>
    obtain ⟨xs, st2⟩ := y
    simp only [q] at p1
    obtain ⟨Z2, e2, rl2, h2⟩ := frzs_ok (fun rl r e => frz_ok 4 rl r e) rl1 rw1 q
    split at p1
    · rename_i hl
      refine ⟨by rw [h2.length]; exact hl, fun a ha => ?_⟩
      refine p1 _ al1 _ (.ref a) (e2.trans (Ext.alloc rl2 ha (.lst vs))) (rl2.alloc ha _) (.lst upd_same (RpAll.mono (sameUpd (rl2.zfree ha)) h2))
    · exact p1.elim
theorem newCell {K : PySem.W.Frag} {Z : Hp} {al : List Addr} {H : Hp} {st : Store} {vs : List V} {ws : List W} (rl : Rel K Z al H st) (r : RWs K Z al vs ws) {a : Addr} (ha : H a = none) :
    Rel K Z (al ++ [a]) (upd H a (.lst vs)) (st ++ [.lst ws]) ∧ RW K Z (al ++ [a]) (.ref a) (.c st.length) := by
  refine ⟨rl.new ha ⟨rl.zfree ha, vs, upd_same, r.mono2 (sameRefl Z) fun n b e => ?_⟩, a, ?_, rfl⟩
  · rw [List.getElem?_append_left (List.getElem?_eq_some_iff.mp e).1]; exact e
  · rw [← rl.len]; simp
theorem ev_new (h : Av X Wx es g) : Ev X Wx (.List es pos) (eNew g) := by
  refine .of (pe_lst h.pa) fun σ H Q h => ?_
  obtain ⟨Z, al, sl, st, rs, rl, p⟩ := h
  refine tA.mk rs rl (p.seq fun Z1 al1 H1 st1 ws vs e1 rl1 rw1 p1 => ?_)
  split at p1
  · rename_i hl
    refine ⟨by rw [rw1.length]; exact hl, fun a ha => ?_⟩
    obtain ⟨h1, h2⟩ := newCell rl1 rw1 ha
    exact p1 Z1 _ _ (.ref a) (Ext.new rl1 ha _) h1 h2
  · exact p1.elim
end

/-! ### subscripts -/
def ixP : PyData → Int → Option PyData
  | .list ds, i => atI ds i
  | .tuple ds, i => atI ds i
  | .str z, i => if z.length ≤ sizeLine then (atI z.cps.toList i).map fun c => .str ⟨#[c]⟩ else none
  | _, _ => none
def ixO : W → W → Store → Option (W × Store) := fun w1 w2 st => match w2 with
  | .d (.int i) => match w1 with
    | .c n => match st[n]? with
      | some (.lst ws) => (atI ws i).map fun w => (deref st w, st)
      | some (.frz x) => (ixP x i).map fun y => (.d y, st)
      | _ => none
    | .s ns => (atI ns i).map fun k => (.d (.int k), st)
    | .d x => (ixP x i).map fun y => (.d y, st)
    | .x _ => none
  | _ => none
section
variable {X : Cx} {Wx : WX} {a b : Expr} {f g : EV} {pos : Pos}
theorem atI_idx {α : Type} {xs : List α} {i : Int} {v : α} (h : atI xs i = some v) : ∃ j, ixN xs.length i = some j ∧ xs[j]? = some v := by
  unfold atI at h
  cases e : ixN xs.length i with
  | none => rw [e] at h; cases h
  | some j => rw [e] at h; exact ⟨j, rfl, h⟩
theorem atI_mk {α : Type} {xs : List α} {i : Int} {v : α} {j : Nat} (h : ixN xs.length i = some j) (e : xs[j]? = some v) : atI xs i = some v := by
  unfold atI
  rw [h]; exact e
theorem rpAll_atI {K : PySem.W.Frag} {Z : Hp} {vs : List V} {ds : List PyData} {i : Int} {d : PyData} (h : RpAll K Z vs ds) (e : atI ds i = some d) : ∃ v, atI vs i = some v ∧ Rp K Z v d := by
  obtain ⟨j, h1, h2⟩ := atI_idx e
  obtain ⟨v, h3, h4⟩ := h.get j h2
  exact ⟨v, atI_mk (by rw [h.length]; exact h1) h3, h4⟩
theorem rws_atI {K : PySem.W.Frag} {Z : Hp} {al : List Addr} {vs : List V} {ws : List W} {i : Int} {w : W} (h : RWs K Z al vs ws) (e : atI ws i = some w) : ∃ v, atI vs i = some v ∧ RW K Z al v w := by
  obtain ⟨j, h1, h2⟩ := atI_idx e
  obtain ⟨v, h3, h4⟩ := h.get j h2
  exact ⟨v, atI_mk (by rw [h.length]; exact h1) h3, h4⟩
theorem ix_data {Z : Hp} {al : List Addr} {H : Hp} {st : Store} {Q : VK} {v : V} {x y : PyData} {i : Int} (rl : Rel X.K Z al H st) (hx : Rp X.K Z v x) (e : ixP x i = some y) (q : ∀ u, Rp X.K Z u y → Q u H) : rIx X.K v (.int i) H Q := by
  cases x with
  | list ds =>
    cases hx with
    | lst h1 h2 =>
      obtain ⟨u, h3, h4⟩ := rpAll_atI h2 (show atI ds i = some y from e)
      exact .inl ⟨_, _, i, u, rfl, rfl, SqL.of (rl.sub _ _ h1), h3, q u h4⟩
  | tuple ds =>
    cases hx with
    | tup h1 h2 =>
      obtain ⟨u, h3, h4⟩ := rpAll_atI h2 (show atI ds i = some y from e)
      exact .inr (.inl ⟨_, _, i, u, rfl, rfl, sqtMono rl.sub h1, h3, q u h4⟩)
  | str z =>
    cases hx
    simp only [ixP] at e
    split at e
    · rename_i hl
      simp only [Option.map_eq_some_iff] at e
      obtain ⟨c, h1, rfl⟩ := e
      exact .inr (.inr ⟨z, i, c, rfl, rfl, hl, h1, q _ (.str _)⟩)
    · cases e
  | _ => cases e
theorem ix_of : ∀ Z al H st w1 w2 x y Q, Rel X.K Z al H st → RW X.K Z al x w1 → RW X.K Z al y w2 → PostO X Z al H (RAw X) Q (ixO w1 w2 st) → rIx X.K x y H Q := by
  intro Z al H st w1 w2 x y Q rl r1 r2 p
  cases w2 with
  | c n => exact p.elim
  | s n => exact p.elim
  | x n => exact p.elim
  | d z =>
    cases z with
    | int i =>
      cases r2
      simp only [ixO] at p
      cases w1 with
      | x n => exact p.elim
      | s ns =>
        simp only at p
        obtain ⟨a, rfl, hs⟩ := r1
        cases q : atI ns i with
        | none => rw [q] at p; exact p.elim
        | some k =>
          rw [q] at p
          obtain ⟨j, h1, h2⟩ := atI_idx q
          exact .inl ⟨a, _, i, .int k, rfl, rfl, sqlMono rl.sub hs, atI_mk (by rw [List.length_map]; exact h1) (by rw [List.getElem?_map, h2]; rfl), give rl p (.int k)⟩
      | d z =>
        simp only at p
        cases q : ixP z i with
        | none => rw [q] at p; exact p.elim
        | some u => rw [q] at p; exact ix_data rl r1 q fun v hv => give rl p hv
      | c n =>
        simp only at p
        obtain ⟨a, ha, rfl⟩ := r1
        cases q : st[n]? with
        | none => rw [q] at p; exact p.elim
        | some c =>
          have ck := rl.cell n c a q ha
          rw [q] at p
          cases c with
          | lst ws =>
            simp only at p
            obtain ⟨hz, vs, hv, rv⟩ := ck
            cases q2 : atI ws i with
            | none => rw [q2] at p; exact p.elim
            | some u =>
              rw [q2] at p
              obtain ⟨v, h1, h2⟩ := rws_atI rv q2
              exact .inl ⟨a, vs, i, v, rfl, rfl, SqL.of hv, h1, give rl p (deref_rw rl h2)⟩
          | dic t k => exact p.elim
          | frz z =>
            simp only at p
            cases q2 : ixP z i with
            | none => rw [q2] at p; exact p.elim
            | some u => rw [q2] at p; exact ix_data rl ck.2 q2 fun v hv => give rl p hv
    | _ => exact p.elim
theorem ev_ix (ha : Ev X Wx a f) (hb : Ev X Wx b g) (hs : PlainIx b := by exact fun _ _ => rfl) : Ev X Wx (.Subscript a b pos) (eBin ixO f g) := .of (pe_ix ix_seq ha.pe hb.pe hs) (tOp_of ix_of)
end

/-! ### slices -/
def cutD (xs : List PyData) (lo hi : Option Int) : List PyData := (xs.drop (HT.sIx xs.length 0 lo)).take (HT.sIx xs.length xs.length hi - HT.sIx xs.length 0 lo)
def slP (x : PyData) (lo hi : Option Int) : Option PyData := match x with
  | .list ds => some (.list (cutD ds lo hi))
  | .tuple ds => some (.tuple (cutD ds lo hi))
  | .str z => if z.length ≤ sizeLine then some (.str (cutS z lo hi)) else none
  | _ => none
def pNone : Sl → Store → R (Option Int) := fun _ st => .ok none st
def pSome (f : EV) : Sl → Store → R (Option Int) := fun sl st => (f sl st).bind fun w st1 => match w with
  | .d (.int i) => .ok (some i) st1
  | _ => .bad
def eSl (f : EV) (l h : Sl → Store → R (Option Int)) : EV := fun sl st => (f sl st).bind fun w st1 => (l sl st1).bind fun lo st2 => (h sl st2).bind fun hi st3 => match toS st3 w with
  | some x => match slP x lo hi with
    | some y => .ok (.d y) st3
    | none => .bad
  | none => .bad
section
variable {X : Cx} {Wx : WX} {e : Expr} {f : EV} {lo hi : Option Expr} {l h : Sl → Store → R (Option Int)} {pos p2 : Pos}
def tPt (X : Cx) (Wx : WX) (f : Sl → Store → R (Option Int)) : TO := fun σ H Q => ∃ Z al sl st, RSl X.K Z al σ sl ∧ Rel X.K Z al H st ∧ Post X Wx Z al H σ (fun _ _ (b a : Option Int) => b = a) Q (f sl st)
structure Pv (X : Cx) (Wx : WX) (e : Option Expr) (f : Sl → Store → R (Option Int)) : Prop where
  po : PO X e (tPt X Wx f)
theorem pv_none : Pv X Wx none pNone := by
  refine ⟨⟨fun pins s σ H Q I hw => (po_none (X := X)).run pins s σ H Q I ?_⟩⟩
  obtain ⟨Z, al, sl, st, rs, rl, p⟩ := hw
  exact p Z al H none (.refl ..) rl rfl
theorem pv_some (ha : Ev X Wx e f) : Pv X Wx (some e) (pSome f) := by
  refine ⟨⟨fun pins s σ H Q I hw => (po_some ha.pe).run pins s σ H Q I ?_⟩⟩
  obtain ⟨Z, al, sl, st, rs, rl, p⟩ := hw
  refine tE.mk rs rl (p.seq fun Z1 al1 H1 st1 w v e1 rl1 rw1 p1 => ?_)
  cases w with
  | c n => exact p1.elim
  | s n => exact p1.elim
  | x n => exact p1.elim
  | d x =>
    cases x with
    | int i =>
      cases rw1
      exact ⟨i, rfl, p1 Z1 al1 H1 _ (.refl ..) rl1 rfl⟩
    | _ => exact p1.elim
theorem toS_tupZ {K : PySem.W.Frag} {Z : Hp} {al : List Addr} {H : Hp} {st : Store} (r : Rel K Z al H st) {v : V} {w : W} {ds : List PyData} (h : RW K Z al v w) (e : toS st w = some (.tuple ds)) : Rp K Z v (.tuple ds) := by
  cases w with
  | d x => simp only [toS, toD, Option.some.injEq] at e; subst e; exact h
  | s n => simp [toS] at e
  | x n => simp [toS, toD] at e
  | c n =>
    simp only [toS, toD] at e
    split at e
    · simp only [Option.map_eq_some_iff, reduceCtorEq, and_false, exists_false] at e
    · rename_i y hy
      simp only [Option.some.injEq] at e
      subst e
      obtain ⟨a, ha, hv⟩ := h
      cases hv
      exact (r.cell n _ _ hy ha).2
    · cases e
theorem rpAll_cut {K : PySem.W.Frag} {Z : Hp} {vs : List V} {ds : List PyData} (h : RpAll K Z vs ds) (lo hi : Option Int) : RpAll K Z (cutV vs lo hi) (cutD ds lo hi) := by
  unfold cutV cutD
  rw [h.length]
  exact (h.drop _).take _
theorem ev_sl (ha : Ev X Wx e f) (hl : Pv X Wx lo l) (hh : Pv X Wx hi h) : Ev X Wx (.Subscript e (.Slice lo hi none p2) pos) (eSl f l h) := by
  refine .of (pe_slice (sl_list.or (sl_tupA.or sl_str)) ha.pe hl.po hh.po) fun σ H Q hw => ?_
  obtain ⟨Z, al, sl, st, rs, rl, p⟩ := hw
  refine tE.mk rs rl (p.seq fun Z1 al1 H1 st1 w v e1 rl1 rw1 p1 => ?_)
  refine ⟨Z1, al1, sl, st1, rs.ext e1, rl1, p1.seq fun Z2 al2 H2 st2 a' a e2 rl2 ea p2 => ?_⟩
  subst ea
  refine ⟨Z2, al2, sl, st2, (rs.ext e1).ext e2, rl2, p2.seq fun Z3 al3 H3 st3 b' b e3 rl3 eb p3 => ?_⟩
  subst eb
  have rw3 := (rw1.ext e2).ext e3
  cases q : toS st3 w with
  | none => simp only [q] at p3; exact p3.elim
  | some x =>
    simp only [q] at p3
    cases x with
    | list ds =>
      simp only [slP] at p3
      obtain ⟨c, vs, rfl, h1, h2⟩ := toS_list rl3 rw3 q
      exact .inl ⟨c, vs, rfl, h1, giveLst rl3 p3 (rpAll_cut h2 _ _)⟩
    | tuple ds =>
      simp only [slP] at p3
      obtain ⟨c, vs, rfl, h1, h2⟩ := toS_tup rl3 rw3 q
      refine .inr (.inl ⟨c, vs, rfl, h1, fun hw => ?_, fun _ => giveTup rl3 p3 (rpAll_cut h2 _ _)⟩)
      have e4 : cutD ds a b = ds := by
        unfold cutD
        rw [h2.length] at hw
        rw [hw.1, hw.2]
        simp
      rw [e4] at p3
      exact give rl3 p3 (toS_tupZ rl3 rw3 q)
    | str z =>
      simp only [slP] at p3
      obtain rfl := toS_str rl3 rw3 q
      split at p3
      · rename_i hq
        split at hq
        · cases hq
          rename_i hl
          exact .inr (.inr ⟨z, rfl, hl, give rl3 p3 (.str _)⟩)
        · cases hq
      · exact p3.elim
    | _ => exact p3.elim
end
end DL

/-! DL4: built-in calls, methods of built-in types. -/
namespace DL
open PySem PySem.Spec PyProof.Rows L2

section
variable (X : Cx)
/-- what a call of a built-in does with its arguments' values -/
def CallN (f : Value) (o : List W → Store → Option (W × Store)) : Prop :=
  ∃ r : List V → Hp → VK → Prop, CallR X f r ∧ ∀ Z al H st ws vs Q, Rel X.K Z al H st → RWs X.K Z al vs ws → PostO X Z al H (RAw X) Q (o ws st) → r vs H Q
/-- a method of a built-in type -/
def MethN (id : String) (o : W → List W → Store → Option (W × Store)) : Prop :=
  ∃ r : V → List V → Hp → VK → Prop, MtR X id r ∧ ∀ Z al H st w ws v vs Q, Rel X.K Z al H st → RW X.K Z al v w → RWs X.K Z al vs ws → PostO X Z al H (RAw X) Q (o w ws st) → r v vs H Q
end
def eCall (o : List W → Store → Option (W × Store)) (g : AV) : EV := fun sl st => (g sl st).bind fun ws st1 => ofO (o ws st1)
/-- what kind of a thing it is -/
def isTy (T : String) (st : Store) : W → Bool
  | .s _ => T == "list"
  | .c n => match st[n]? with
    | some (.lst _) => T == "list"
    | some (.frz (.list _)) => T == "list"
    | _ => false
  | .d (.list _) => T == "list"
  | .d (.str _) => T == "str"
  | _ => false
def eMeth (T : String) (o : W → List W → Store → Option (W × Store)) (f : EV) (g : AV) : EV := fun sl st => (f sl st).bind fun w st1 => if isTy T st1 w then (g sl st1).bind fun ws st2 => ofO (o w ws st2) else .bad
def eMeth0 (T : String) (o : W → List W → Store → Option (W × Store)) (f : EV) : EV := fun sl st => (f sl st).bind fun w st1 => if isTy T st1 w then ofO (o w [] st1) else .bad
section
variable {X : Cx} {Wx : WX} {x : Str} {p pos cpos apos : Pos} {e oe : Expr} {es : List Expr} {g : AV} {f : EV} {id T : String} {name : Str}
theorem ev_callB {o : List W → Store → Option (W × Store)} (h : CallN X (.builtin id) o) (hg : Gl X x) (hm : X.mg x = none) (hv : bootBuiltins x = some (.builtin id)) (ha : Av X Wx (e :: es) g) (hn : x ≠ "__name__" := by decide) (hdb : (x == ("__debug__" : Str)) = false := by decide)
    (he : starEach (e :: es) X.env = (false, eval e X.env) :: starEach es X.env := by rfl) (hpl : (backTo pos (starEach es X.env)).any (·.1) = false := by rfl) : Ev X Wx (.Call (.Name x p) (e :: es) [] pos) (eCall o g) := by
  obtain ⟨r, hc, hr⟩ := h
  refine .of (pe_callB hc hg hm hv ha.pa hn hdb he hpl) fun σ H Q hw => ?_
  obtain ⟨Z, al, sl, st, rs, rl, p⟩ := hw
  exact tA.mk rs rl (p.seq fun Z1 al1 H1 st1 ws vs e1 rl1 rw1 p1 => hr Z1 al1 H1 st1 ws vs Q rl1 rw1 p1.ofO)
theorem ev_callT {o : List W → Store → Option (W × Store)} (h : CallN X (.type T) o) (hg : Gl X x) (hm : X.mg x = none) (hv : bootBuiltins x = some (.type T)) (ha : Av X Wx (e :: es) g) (hn : x ≠ "__name__" := by decide) (hdb : (x == ("__debug__" : Str)) = false := by decide)
    (he : starEach (e :: es) X.env = (false, eval e X.env) :: starEach es X.env := by rfl) (hpl : (backTo pos (starEach es X.env)).any (·.1) = false := by rfl) : Ev X Wx (.Call (.Name x p) (e :: es) [] pos) (eCall o g) := by
  obtain ⟨r, hc, hr⟩ := h
  refine .of (pe_callTy hc hg hm hv ha.pa hn hdb he hpl) fun σ H Q hw => ?_
  obtain ⟨Z, al, sl, st, rs, rl, p⟩ := hw
  exact tA.mk rs rl (p.seq fun Z1 al1 H1 st1 ws vs e1 rl1 rw1 p1 => hr Z1 al1 H1 st1 ws vs Q rl1 rw1 p1.ofO)
theorem isTy_ok {K : PySem.W.Frag} {Z : Hp} {al : List Addr} {H : Hp} {st : Store} {w : W} {v : V} (rl : Rel K Z al H st) (r : RW K Z al v w) (h : isTy T st w = true) : tyV K T v H := by
  cases w with
  | x n => simp [isTy] at h
  | s ns =>
    obtain ⟨a, rfl, hs⟩ := r
    exact .inl ⟨eq_of_beq h, _, sqlMono rl.sub hs⟩
  | c n =>
    obtain ⟨a, ha, rfl⟩ := r
    simp only [isTy] at h
    cases q : st[n]? with
    | none => rw [q] at h; cases h
    | some c =>
      have ck := rl.cell n c a q ha
      rw [q] at h
      cases c with
      | lst ws =>
        obtain ⟨_, vs, hv, _⟩ := ck
        exact .inl ⟨eq_of_beq h, _, SqL.of hv⟩
      | dic t k => cases h
      | frz y =>
        cases y with
        | list ds =>
          cases ck.2 with
          | lst h1 h2 => exact .inl ⟨eq_of_beq h, _, SqL.of (rl.sub _ _ h1)⟩
        | _ => cases h
  | d x =>
    cases x with
    | list ds =>
      cases r with
      | lst h1 h2 => exact .inl ⟨eq_of_beq h, _, SqL.of (rl.sub _ _ h1)⟩
    | str z =>
      cases r
      exact eq_of_beq h
    | _ => cases h
theorem ev_meth {o : W → List W → Store → Option (W × Store)} (h : MethN X id o) (pa : PlainAttrs T) (slot : Slot T name id) (hty : typeOf (.builtin id) = pure (.type "method_descriptor")) (ho : Ev X Wx oe f) (ha : Av X Wx (e :: es) g)
    (hbase : attributeBase oe name X.env (eval oe X.env) = eval oe X.env := by rfl)
    (hfew : ((backTo cpos (starEach (e :: es) X.env)).all (fun x => !x.1) && (backToKw cpos (keywordEach [] X.env)).all (fun x => x.1.isSome)
      && decide ((e :: es).length + ([] : List Keyword).length + (if ([] : List Keyword).isEmpty then 0 else 1) < 30)) = true := by rfl)
    (hline : (apos.endLine == cpos.line) = true := by rfl) (hs : starEach (e :: es) X.env = (false, eval e X.env) :: starEach es X.env := by rfl) (hplain : (backTo cpos (starEach es X.env)).any (·.1) = false := by rfl) :
    Ev X Wx (.Call (.Attribute oe name apos) (e :: es) [] cpos) (eMeth T o f g) := by
  obtain ⟨r, hc, hr⟩ := h
  refine .of (pe_bm pa slot hty hc ho.pe ha.pa hbase hfew hline hs hplain) fun σ H Q hw => ?_
  obtain ⟨Z, al, sl, st, rs, rl, p⟩ := hw
  refine tE.mk rs rl (p.seq fun Z1 al1 H1 st1 w v e1 rl1 rw1 p1 => ?_)
  split at p1
  · rename_i ht
    refine ⟨isTy_ok rl1 rw1 ht, tA.mk (rs.ext e1) rl1 (p1.seq fun Z2 al2 H2 st2 ws vs e2 rl2 rw2 p2 => ?_)⟩
    exact hr Z2 al2 H2 st2 w ws v vs Q rl2 (rw1.ext e2) rw2 p2.ofO
  · exact p1.elim
theorem ev_meth0 {o : W → List W → Store → Option (W × Store)} (h : MethN X id o) (pa : PlainAttrs T) (slot : Slot T name id) (hty : typeOf (.builtin id) = pure (.type "method_descriptor")) (ho : Ev X Wx oe f)
    (hbase : attributeBase oe name X.env (eval oe X.env) = eval oe X.env := by rfl) (hline : (apos.endLine == cpos.line) = true := by rfl) : Ev X Wx (.Call (.Attribute oe name apos) [] [] cpos) (eMeth0 T o f) := by
  obtain ⟨r, hc, hr⟩ := h
  refine .of (pe_bm0 pa slot hty hc ho.pe hbase hline) fun σ H Q hw => ?_
  obtain ⟨Z, al, sl, st, rs, rl, p⟩ := hw
  refine tE.mk rs rl (p.seq fun Z1 al1 H1 st1 w v e1 rl1 rw1 p1 => ?_)
  split at p1
  · rename_i ht
    exact ⟨isTy_ok rl1 rw1 ht, hr Z1 al1 H1 st1 w [] v [] Q rl1 rw1 .nil p1.ofO⟩
  · exact p1.elim
end

/-! ### built-in functions -/
/-- by the one argument's data -/
def call1 (F : PyData → Option PyData) : List W → Store → Option (W × Store) := fun ws st => match ws with
  | [w] => match toS st w with
    | some a => (F a).map fun c => (.d c, st)
    | none => none
  | _ => none
section
variable {X : Cx}
theorem call1_ok {fv : Value} {F : PyData → Option PyData} (r : List V → Hp → VK → Prop) (hc : CallR X fv r)
    (h : ∀ Z al H st w v Q a c, Rel X.K Z al H st → RW X.K Z al v w → toS st w = some a → F a = some c → PostO X Z al H (RAw X) Q (some (.d c, st)) → r [v] H Q) : CallN X fv (call1 F) := by
  refine ⟨r, hc, fun Z al H st ws vs Q rl rv p => ?_⟩
  cases rv with
  | nil => exact p.elim
  | @cons v w vs ws r1 r2 =>
    cases r2 with
    | cons _ _ => exact p.elim
    | nil =>
      simp only [call1] at p
      cases q : toS st w with
      | none => rw [q] at p; exact p.elim
      | some a =>
        rw [q] at p
        simp only at p
        cases q2 : F a with
        | none => rw [q2] at p; exact p.elim
        | some c => rw [q2] at p; exact h Z al H st w v Q a c rl r1 q q2 p
/-! len -/
def lenD : PyData → Option PyData
  | .list ds => some (.int ds.length)
  | .tuple ds => some (.int ds.length)
  | .str z => if z.length ≤ sizeLine then some (.int z.length) else none
  | _ => none
def lenO : List W → Store → Option (W × Store) := fun ws st => match ws with
  | [.c n] => match st[n]? with
    | some (.lst us) => some (.d (.int us.length), st)
    | _ => call1 lenD [.c n] st
  | ws => call1 lenD ws st
theorem c_len : CallN X (.builtin "len") lenO := by
  obtain ⟨r, hc, hr⟩ : CallN X (.builtin "len") (call1 lenD) := by
    refine call1_ok _ call_len fun Z al H st w v Q a c rl r e1 e2 p => ?_
    cases a <;> simp only [lenD, reduceCtorEq, Option.some.injEq] at e2
    · split at e2 <;> cases e2
      rename_i hl
      obtain rfl := toS_str rl r e1
      exact ⟨_, _, rfl, ⟨hl, rfl⟩, give rl p (.int _)⟩
    · subst e2
      obtain ⟨b, vs, rfl, h1, h2⟩ := toS_list rl r e1
      exact ⟨_, vs.length, rfl, .inl ⟨vs, h1, rfl⟩, by rw [h2.length]; exact give rl p (.int _)⟩
    · subst e2
      obtain ⟨b, vs, rfl, h1, h2⟩ := toS_tup rl r e1
      exact ⟨_, vs.length, rfl, .inr ⟨vs, h1, rfl⟩, by rw [h2.length]; exact give rl p (.int _)⟩
  refine ⟨fun xs H Q => r xs H Q ∨ ∃ x n, xs = [x] ∧ LenV X.K x H n ∧ Q (.int n) H, fun pins s σ H xs us Q I rv h => h.elim (hc pins s σ H xs us Q I rv) (call_len pins s σ H xs us Q I rv), fun Z al H st ws vs Q rl rv p => ?_⟩
  have go : PostO X Z al H (RAw X) Q (call1 lenD ws st) → r vs H Q := hr Z al H st ws vs Q rl rv
  cases rv with
  | nil => exact .inl (go p)
  | @cons v w vs ws r1 r2 =>
    cases r2 with
    | cons _ _ => cases w <;> exact .inl (go p)
    | nil =>
      cases w with
      | d x => exact .inl (go p)
      | s x => exact .inl (go p)
      | x n => exact .inl (go p)
      | c n =>
        simp only [lenO] at p
        cases q : st[n]? with
        | none => rw [q] at p; exact .inl (go p)
        | some c =>
          rw [q] at p
          cases c with
          | lst us =>
            obtain ⟨a, ha, rfl⟩ := r1
            obtain ⟨_, vs, hv, rv⟩ := rl.cell n _ a q ha
            exact .inr ⟨_, vs.length, rfl, .inl ⟨vs, SqL.of hv, rfl⟩, by rw [RWs.length rv]; exact give rl p (.int _)⟩
          | dic t k => exact .inl (go p)
          | frz y => exact .inl (go p)
/-! int, str, bool -/
def intD : PyData → Option PyData
  | .int i => some (.int i)
  | .bool b => some (.int (if b then 1 else 0))
  | .str a => if a.length ≤ 640 then (PySem.intText? a).map .int else none
  | _ => none
theorem c_int : CallN X (.type "int") (call1 intD) := by
  refine call1_ok (fun xs H Q => ((∃ i, xs = [.int i] ∧ Q (.int i) H) ∨ ∃ k, xs = [.bl k] ∧ Q (.int (if k then 1 else 0)) H) ∨ ∃ a n, xs = [.str a] ∧ PySem.intText? a = some n ∧ a.length ≤ 640 ∧ Q (.int n) H)
    (fun pins s σ H xs us Q I rv h => h.elim (call_int1 pins s σ H xs us Q I rv) (call_int_str pins s σ H xs us Q I rv)) fun Z al H st w v Q a c rl r e1 e2 p => ?_
  cases a <;> simp only [intD, reduceCtorEq, Option.some.injEq] at e2
  · subst e2
    obtain rfl := toS_bool rl r e1
    exact .inl (.inr ⟨_, rfl, give rl p (.int _)⟩)
  · subst e2
    obtain rfl := toS_int rl r e1
    exact .inl (.inl ⟨_, rfl, give rl p (.int _)⟩)
  · split at e2
    · rename_i hl
      simp only [Option.map_eq_some_iff] at e2
      obtain ⟨n, h1, rfl⟩ := e2
      obtain rfl := toS_str rl r e1
      exact .inr ⟨_, n, rfl, h1, hl, give rl p (.int _)⟩
    · cases e2
theorem call_str_none : CallR X (.type "str") (fun xs H Q => xs = [.non] ∧ Q (.str "None") H) := by
  intro pins s σ H xs us Q I r h
  obtain ⟨rfl, q⟩ := h
  obtain ⟨u, rfl, ru⟩ := vals1 r
  cases ru
  exact P.str_of_none ⟨.str _, H, I.tok _, ⟨_, rfl⟩, q⟩
def strD : PyData → Option PyData
  | .int i => if i.natAbs.log2 < 1920 then some (.str (toString i)) else none
  | .none => some (.str "None")
  | .str a => some (.str a)
  | _ => none
theorem c_str : CallN X (.type "str") (call1 strD) := by
  refine call1_ok (fun xs H Q => (∃ i, xs = [.int i] ∧ i.natAbs.log2 < 1920 ∧ Q (.str (toString i)) H) ∨ (xs = [.non] ∧ Q (.str "None") H) ∨ ∃ a, xs = [.str a] ∧ Q (.str a) H)
    (fun pins s σ H xs us Q I rv h => h.elim (call_str_int pins s σ H xs us Q I rv) fun h => h.elim (call_str_none pins s σ H xs us Q I rv) (SkE.call_str_str pins s σ H xs us Q I rv)) fun Z al H st w v Q a c rl r e1 e2 p => ?_
  cases a <;> simp only [strD, reduceCtorEq, Option.some.injEq] at e2
  · subst e2
    obtain rfl := toS_none rl r e1
    exact .inr (.inl ⟨rfl, give rl p (.str _)⟩)
  · split at e2 <;> cases e2
    rename_i hl
    obtain rfl := toS_int rl r e1
    exact .inl ⟨_, rfl, hl, give rl p (.str _)⟩
  · subst e2
    obtain rfl := toS_str rl r e1
    exact .inr (.inr ⟨_, rfl, give rl p (.str _)⟩)
/-! all, any, sum -/
def bools : List PyData → Option (List Bool)
  | [] => some []
  | .bool b :: ds => (bools ds).map (b :: ·)
  | _ => none
def intsOf : List PyData → Option (List Int)
  | [] => some []
  | .int b :: ds => (intsOf ds).map (b :: ·)
  | _ => none
theorem bools_rp {K : PySem.W.Frag} {Z : Hp} : ∀ {ds : List PyData} {bs : List Bool} {vs : List V}, bools ds = some bs → RpAll K Z vs ds → vs = bs.map V.bl
  | [], bs, vs, e, r => by
    simp [bools] at e; subst e
    cases r; rfl
  | .bool b :: ds, bs, vs, e, r => by
    simp only [bools, Option.map_eq_some_iff] at e
    obtain ⟨cs, h1, rfl⟩ := e
    cases r with
    | cons r1 r2 =>
      cases r1
      rw [bools_rp h1 r2]; rfl
  | .none :: _, _, _, e, _ => by simp [bools] at e
  | .int _ :: _, _, _, e, _ => by simp [bools] at e
  | .str _ :: _, _, _, e, _ => by simp [bools] at e
  | .list _ :: _, _, _, e, _ => by simp [bools] at e
  | .tuple _ :: _, _, _, e, _ => by simp [bools] at e
  | .dict _ :: _, _, _, e, _ => by simp [bools] at e
theorem intsOf_rp {K : PySem.W.Frag} {Z : Hp} : ∀ {ds : List PyData} {bs : List Int} {vs : List V}, intsOf ds = some bs → RpAll K Z vs ds → vs = bs.map V.int
  | [], bs, vs, e, r => by
    simp [intsOf] at e; subst e
    cases r; rfl
  | .int b :: ds, bs, vs, e, r => by
    simp only [intsOf, Option.map_eq_some_iff] at e
    obtain ⟨cs, h1, rfl⟩ := e
    cases r with
    | cons r1 r2 =>
      cases r1
      rw [intsOf_rp h1 r2]; rfl
  | .none :: _, _, _, e, _ => by simp [intsOf] at e
  | .bool _ :: _, _, _, e, _ => by simp [intsOf] at e
  | .str _ :: _, _, _, e, _ => by simp [intsOf] at e
  | .list _ :: _, _, _, e, _ => by simp [intsOf] at e
  | .tuple _ :: _, _, _, e, _ => by simp [intsOf] at e
  | .dict _ :: _, _, _, e, _ => by simp [intsOf] at e
def allBD : PyData → Option PyData
  | .list ds => (bools ds).map fun bs => .bool (bs.all id)
  | _ => none
def anyBD : PyData → Option PyData
  | .list ds => (bools ds).map fun bs => .bool (bs.any id)
  | _ => none
def sumD : PyData → Option PyData
  | .list ds => (intsOf ds).map fun ns => .int ns.sum
  | _ => none
theorem c_all (hc : X.calm = true) : CallN X (.builtin "all") (call1 allBD) := by
  refine call1_ok _ (cr_all hc) fun Z al H st w v Q a c rl r e1 e2 p => ?_
  cases a <;> simp only [allBD, reduceCtorEq, Option.map_eq_some_iff] at e2
  obtain ⟨bs, h1, rfl⟩ := e2
  obtain ⟨b, vs, rfl, h2, h3⟩ := toS_list rl r e1
  exact ⟨b, bs, rfl, by rw [← bools_rp h1 h3]; exact h2, give rl p (.bl _)⟩
theorem c_any (hc : X.calm = true) : CallN X (.builtin "any") (call1 anyBD) := by
  refine call1_ok _ (cr_any hc) fun Z al H st w v Q a c rl r e1 e2 p => ?_
  cases a <;> simp only [anyBD, reduceCtorEq, Option.map_eq_some_iff] at e2
  obtain ⟨bs, h1, rfl⟩ := e2
  obtain ⟨b, vs, rfl, h2, h3⟩ := toS_list rl r e1
  exact ⟨b, bs, rfl, by rw [← bools_rp h1 h3]; exact h2, give rl p (.bl _)⟩
theorem c_sum (hc : X.calm = true) : CallN X (.builtin "sum") (call1 sumD) := by
  refine call1_ok _ (cr_sum hc) fun Z al H st w v Q a c rl r e1 e2 p => ?_
  cases a <;> simp only [sumD, reduceCtorEq, Option.map_eq_some_iff] at e2
  obtain ⟨bs, h1, rfl⟩ := e2
  obtain ⟨b, vs, rfl, h2, h3⟩ := toS_list rl r e1
  exact ⟨b, bs, rfl, by rw [← intsOf_rp h1 h3]; exact h2, give rl p (.int _)⟩
/-! max, min of two intsOf -/
def call2i (F : Int → Int → Int) : List W → Store → Option (W × Store) := fun ws st => match ws with
  | [.d (.int i), .d (.int j)] => some (.d (.int (F i j)), st)
  | _ => none
theorem call2i_ok {fv : Value} {F : Int → Int → Int} (hc : CallR X fv (fun xs H Q => ∃ i j, xs = [.int i, .int j] ∧ Q (.int (F i j)) H)) : CallN X fv (call2i F) := by
  refine ⟨_, hc, fun Z al H st ws vs Q rl rv p => ?_⟩
  unfold call2i at p
  split at p
  · rename_i i j
    cases rv with
    | cons r1 r2 =>
      cases r2 with
      | cons r2 r3 =>
        cases r3
        cases r1
        cases r2
        exact ⟨i, j, rfl, give rl p (.int _)⟩
  · exact p.elim
theorem c_max2 (hc : X.calm = true) : CallN X (.builtin "max") (call2i fun i j => if j > i then j else i) := call2i_ok (call_max2 hc)
theorem c_min2 (hc : X.calm = true) : CallN X (.builtin "min") (call2i fun i j => if j < i then j else i) := call2i_ok (call_min2 hc)
/-! list, tuple -/
def listD : PyData → Option PyData
  | .list ds => some (.list ds)
  | .tuple ds => some (.list ds)
  | _ => none
theorem c_list : CallN X (.type "list") (call1 listD) := by
  refine call1_ok _ call_list_of fun Z al H st w v Q a c rl r e1 e2 p => ?_
  cases a <;> simp only [listD, reduceCtorEq, Option.some.injEq] at e2
  · subst e2
    obtain ⟨b, vs, rfl, h1, h2⟩ := toS_list rl r e1
    exact ⟨b, vs, rfl, .inl h1, giveLst rl p h2⟩
  · subst e2
    obtain ⟨b, vs, rfl, h1, h2⟩ := toS_tup rl r e1
    exact ⟨b, vs, rfl, .inr h1, giveLst rl p h2⟩
/-- .. a list that will be changed -/
def listC : List W → Store → Option (W × Store) := fun ws st => match ws with
  | [w] => match itemsOf st w with
    | some us => some (.c st.length, st ++ [.lst us])
    | none => none
  | _ => none
theorem c_listC : CallN X (.type "list") listC := by
  refine ⟨_, call_list_of, fun Z al H st ws vs Q rl rv p => ?_⟩
  unfold listC at p
  cases rv with
  | nil => exact p.elim
  | @cons v w vs ws r1 r2 =>
    cases r2 with
    | cons _ _ => exact p.elim
    | nil =>
      simp only at p
      cases q : itemsOf st w with
      | none => rw [q] at p; exact p.elim
      | some us =>
        rw [q] at p
        obtain ⟨a, vs, rfl, hv, rv⟩ := itemsOf_rw rl r1 q
        refine ⟨a, vs, rfl, hv.symm, fun l hl => ?_⟩
        obtain ⟨h1, h2⟩ := newCell rl rv hl
        exact p Z _ _ (.ref l) (Ext.new rl hl _) h1 h2
def tupD : PyData → Option PyData
  | .list ds => some (.tuple ds)
  | .tuple ds => some (.tuple ds)
  | _ => none
theorem c_tuple : CallN X (.type "tuple") (call1 tupD) := by
  refine call1_ok _ call_tuple_of fun Z al H st w v Q a c rl r e1 e2 p => ?_
  cases a <;> simp only [tupD, reduceCtorEq, Option.some.injEq] at e2
  · subst e2
    obtain ⟨b, vs, rfl, h1, h2⟩ := toS_list rl r e1
    exact ⟨b, vs, rfl, .inl ⟨h1, giveTup rl p h2⟩⟩
  · subst e2
    obtain ⟨b, vs, rfl, h1, h2⟩ := toS_tup rl r e1
    exact ⟨b, vs, rfl, .inr ⟨h1, give rl p (toS_tupZ rl r e1)⟩⟩
/-! repr -/
def reprD (x : PyData) : Option PyData := if x.canLay0 = true ∧ x.depth ≤ 64 ∧ x.showable = true ∧ x.shown.length ≤ sizeLine then some (.str x.shown) else none
theorem call_repr (hg : X.A.guards = some []) (hu : X.A.units + 70 < cLine) : CallR X (.builtin "repr") (fun xs H Q => ∃ v x, xs = [v] ∧ Dp X.K H v x ∧ (x.canLay0 = true ∧ x.depth ≤ 64 ∧ x.showable = true ∧ x.shown.length ≤ sizeLine) ∧ Q (.str x.shown) H) := by
  intro pins s σ H xs us Q I r h
  obtain ⟨v, x, rfl, hd, ⟨h1, h2, h3, h4⟩, q⟩ := h
  obtain ⟨u, rfl, ru⟩ := vals1 r
  obtain ⟨as, rd⟩ := Dp.reads I x v u hd ru
  have nd : x.hasDict = true → sysModules ∉ as := PyData.noDict_hsm (PyData.hasDict_of_canLay x h1)
  have fin : ∀ (h' : Heap) (tk tk' : Tok), (∀ b o, s.heap.get? b = some o → h'.get? b = some o) → EP X pins σ Q (.str x.shown tk) { s with heap := h', toks := tk' } := fun h' tk tk' k => ⟨.str _, H, I.kept (t' := tk') k, ⟨_, rfl⟩, q⟩
  cases rd with
  | list g1 g2 g3 g4 => exact repr_of_reads' (.list g1 g2 g3 g4) h3 nd hg (by omega) (fun _ _ e => e) (fun h' u tk k => fin h' u tk k) h4
  | tuple g1 g2 g3 g4 => exact repr_of_reads' (.tuple g1 g2 g3 g4) h3 nd hg (by omega) (fun _ _ e => e) (fun h' u tk k => fin h' u tk k) h4
  | dict g1 g2 g3 g4 g5 => simp [PyData.canLay0] at h1
  | none =>
    have e : PyData.shown .none = ("None" : Str) := by simp only [PyData.shown]
    rw [e] at q
    exact P.repr_of_none ⟨.str _, H, I.tok _, ⟨_, rfl⟩, q⟩
  | bool b =>
    have e : PyData.shown (.bool b) = ((if b then "True" else "False" : Str)) := by simp only [PyData.shown]
    rw [e] at q
    exact P.repr_of_bool ⟨.str _, H, I.tok _, ⟨_, rfl⟩, q⟩
  | int i t =>
    have e : PyData.shown (.int i) = (toString i : Str) := by simp only [PyData.shown]
    rw [e] at q
    exact P.repr_of_int (by simpa [PyData.showable] using h3) ⟨.str _, H, I.tok _, ⟨_, rfl⟩, q⟩
  | str y t =>
    have e : PyData.shown (.str y) = reprText y := by simp only [PyData.shown]
    rw [e] at q h4
    exact P.repr_of_str (hsz := h4) ⟨.str _, H, I.tok _, ⟨_, rfl⟩, q⟩
theorem c_repr (hg : X.A.guards = some []) (hu : X.A.units + 70 < cLine) : CallN X (.builtin "repr") (call1 reprD) := by
  refine call1_ok _ (call_repr hg hu) fun Z al H st w v Q a c rl r e1 e2 p => ?_
  unfold reprD at e2
  split at e2 <;> cases e2
  rename_i hc
  exact ⟨v, a, rfl, toS_dp rl r e1 hc.1, hc, give rl p (.str _)⟩
end
end DL

/-! DL5: isinstance, methods of texts and lists. -/
namespace DL
open PySem PySem.Spec PyProof.Rows L2

/-! ### isinstance(e, T), T a built-in class -/
def isiD (T : String) : PyData → Option Bool
  | .none => kitB "NoneType" T
  | .bool _ => kitB "bool" T
  | .int _ => kitB "int" T
  | .str _ => kitB "str" T
  | .list _ => kitB "list" T
  | .tuple _ => kitB "tuple" T
  | .dict _ => kitB "dict" T
def isiO (T : String) (w : W) (st : Store) : R W := match toS st w with
  | some x => match isiD T x with
    | some b => .ok (.d (.bool b)) st
    | none => .bad
  | none => .bad
def eIsi (T : String) (f : EV) : EV := fun sl st => (f sl st).bind (isiO T)
section
variable {X : Cx} {Wx : WX} {e : Expr} {f : EV} {T : String} {x : Str} {p p2 pos : Pos}
theorem tyx_of {K : PySem.W.Frag} {Z : Hp} {al : List Addr} {H : Hp} {st : Store} {w : W} {v : V} {x : PyData} {b : Bool} (rl : Rel K Z al H st) (r : RW K Z al v w) (e : toS st w = some x) (h : isiD T x = some b) :
    ∃ t, TyX K H v t ∧ PySem.W.kitOne K t (.type T) = some b := by
  cases x with
  | none => obtain rfl := toS_none rl r e; exact ⟨_, .base .non, kit_ty h⟩
  | bool c => obtain rfl := toS_bool rl r e; exact ⟨_, .base (.bl _), kit_ty h⟩
  | int c => obtain rfl := toS_int rl r e; exact ⟨_, .base (.int _), kit_ty h⟩
  | str c => obtain rfl := toS_str rl r e; exact ⟨_, .base (.str _), kit_ty h⟩
  | list ds =>
    obtain ⟨a, vs, rfl, h1, h2⟩ := toS_list rl r e
    rcases h1 with (h1 | ⟨o, h1⟩) | ⟨o, its, n, h1, h3, _⟩
    · exact ⟨_, .base (.lst h1), kit_ty h⟩
    · exact ⟨_, .base (.frz h1), kit_ty h⟩
    · exact ⟨_, .kList h1 h3, kit_ty h⟩
  | tuple ds =>
    obtain ⟨a, vs, rfl, h1, h2⟩ := toS_tup rl r e
    rcases h1 with (h1 | ⟨o, h1⟩) | ⟨o, its, n, h1, h3, _⟩
    · exact ⟨_, .base (.tup h1), kit_ty h⟩
    · exact ⟨_, .fTuple h1, kit_ty h⟩
    · exact ⟨_, .kTuple h1 h3, kit_ty h⟩
  | dict kvs =>
    have z := toS_rp rl r e (fun _ z => nomatch z)
    generalize hd : PyData.dict kvs = d at z
    cases z with
    | dicK h1 h2 => exact ⟨_, .base (.dK h1), kit_ty h⟩
    | dicT h1 h2 => exact ⟨_, .base (.dT h1), kit_ty h⟩
    | _ => cases hd
theorem ev_isi (ha : Ev X Wx e f) (hg : Gl X "isinstance") (hm : X.mg "isinstance" = none) (hgT : Gl X x) (hmT : X.mg x = none) (hvT : bootBuiltins x = some (.type T)) (hnT : x ≠ "__name__" := by decide) (hdT : (x == ("__debug__" : Str)) = false := by decide)
    (hv : bootBuiltins "isinstance" = some (.builtin "isinstance") := by decide +kernel)
    (he : starEach [e, .Name x p2] X.env = (false, eval e X.env) :: starEach [.Name x p2] X.env := by rfl) (hpl : (backTo pos (starEach [.Name x p2] X.env)).any (·.1) = false := by rfl) :
    Ev X Wx (.Call (.Name "isinstance" p) [e, .Name x p2] [] pos) (eIsi T f) := by
  refine .of (pe_callB call_isi hg hm hv (pa_cons ha.pe (pa_cons (pe_bltn (v := .ty T) hgT hmT hvT rfl hnT hdT) pa_nil) he) (by decide) (by decide) he hpl) fun σ H Q hw => ?_
  obtain ⟨Z, al, sl, st, rs, rl, p⟩ := hw
  refine tE.mk rs rl (p.seq fun Z1 al1 H1 st1 w v e1 rl1 rw1 p1 => ?_)
  unfold isiO at p1
  cases q : toS st1 w with
  | none => simp only [q] at p1; exact p1.elim
  | some y =>
    simp only [q] at p1
    cases q2 : isiD T y with
    | none => simp only [q2] at p1; exact p1.elim
    | some b =>
      simp only [q2] at p1
      obtain ⟨t, h1, h2⟩ := tyx_of rl1 rw1 q q2
      exact ⟨v, .ty T, t, _, b, rfl, .ty T, h1, h2, p1 Z1 al1 H1 _ (.refl ..) rl1 (.bl b)⟩
end

/-! ### methods of texts -/
def strM1 (F : Str → PyData → Option PyData) : W → List W → Store → Option (W × Store) := fun w ws st => match w, ws with
  | .d (.str a), [u] => match toS st u with
    | some b => (F a b).map fun c => (.d c, st)
    | none => none
  | _, _ => none
section
variable {X : Cx}
theorem strM1_ok {id : String} {F : Str → PyData → Option PyData} (r : V → List V → Hp → VK → Prop) (hc : MtR X id r)
    (h : ∀ Z al H st u v Q a b c, Rel X.K Z al H st → RW X.K Z al v u → toS st u = some b → F a b = some c → PostO X Z al H (RAw X) Q (some (.d c, st)) → r (.str a) [v] H Q) : MethN X id (strM1 F) := by
  refine ⟨r, hc, fun Z al H st w ws v vs Q rl r1 rv p => ?_⟩
  unfold strM1 at p
  split at p
  · rename_i a u
    cases rv with
    | cons r2 r3 =>
      cases r3
      cases r1
      cases q : toS st u with
      | none => rw [q] at p; exact p.elim
      | some b =>
        rw [q] at p
        simp only at p
        cases q2 : F a b with
        | none => rw [q2] at p; exact p.elim
        | some c => rw [q2] at p; exact h Z al H st u _ Q a b c rl r2 q q2 p
  · exact p.elim
theorem RpAll.strs {K : PySem.W.Frag} {Z : Hp} : ∀ l : List Str, RpAll K Z (l.map V.str) (l.map PyData.str)
  | [] => .nil
  | x :: l => .cons (.str x) (RpAll.strs l)
def splitD (a : Str) : PyData → Option PyData
  | .str b => if (b.length == 0) = false ∧ a.length + 2 ≤ sizeLine then some (.list ((Txt.split a b).map .str)) else none
  | _ => none
theorem m_split : MethN X "str.split" (strM1 splitD) := by
  refine strM1_ok _ mt_split fun Z al H st u v Q a b c rl r e1 e2 p => ?_
  cases b <;> simp only [splitD, reduceCtorEq] at e2
  split at e2 <;> cases e2
  rename_i hc
  obtain rfl := toS_str rl r e1
  exact ⟨a, _, rfl, rfl, hc.1, hc.2, giveLst rl p (RpAll.strs _)⟩
def stripD (a : Str) : PyData → Option PyData
  | .str b => if a.length ≤ sizeLine then some (.str (Txt.stripChars a b)) else none
  | _ => none
theorem m_strip : MethN X "str.strip" (strM1 stripD) := by
  refine strM1_ok _ mt_stripChars fun Z al H st u v Q a b c rl r e1 e2 p => ?_
  cases b <;> simp only [stripD, reduceCtorEq] at e2
  split at e2 <;> cases e2
  rename_i hc
  obtain rfl := toS_str rl r e1
  exact ⟨a, _, rfl, rfl, hc, give rl p (.str _)⟩
def strsOf : List PyData → Option (List Str)
  | [] => some []
  | .str b :: ds => (strsOf ds).map (b :: ·)
  | _ => none
theorem strsOf_rp {K : PySem.W.Frag} {Z : Hp} : ∀ {ds : List PyData} {bs : List Str} {vs : List V}, strsOf ds = some bs → RpAll K Z vs ds → vs = bs.map V.str
  | [], bs, vs, e, r => by
    simp [strsOf] at e; subst e
    cases r; rfl
  | .str b :: ds, bs, vs, e, r => by
    simp only [strsOf, Option.map_eq_some_iff] at e
    obtain ⟨cs, h1, rfl⟩ := e
    cases r with
    | cons r1 r2 =>
      cases r1
      rw [strsOf_rp h1 r2]; rfl
  | .none :: _, _, _, e, _ => by simp [strsOf] at e
  | .bool _ :: _, _, _, e, _ => by simp [strsOf] at e
  | .int _ :: _, _, _, e, _ => by simp [strsOf] at e
  | .list _ :: _, _, _, e, _ => by simp [strsOf] at e
  | .tuple _ :: _, _, _, e, _ => by simp [strsOf] at e
  | .dict _ :: _, _, _, e, _ => by simp [strsOf] at e
def joinL (a : Str) (ds : List PyData) : Option PyData := match strsOf ds with
  | some ys => if (ys.map (·.length)).sum + ys.length * a.length ≤ 16777216 then some (.str (Txt.join a ys)) else none
  | none => none
def joinD (a : Str) : PyData → Option PyData
  | .list ds => joinL a ds
  | .tuple ds => joinL a ds
  | _ => none
theorem m_join : MethN X "str.join" (strM1 joinD) := by
  refine strM1_ok _ mt_join fun Z al H st u v Q a b c rl r e1 e2 p => ?_
  have go : ∀ {ds : List PyData} {vs : List V} {q : Addr}, RpAll X.K Z vs ds → joinL a ds = some c → (SqL X.K H q vs ∨ SqT X.K H q vs) → ∃ (a' : Str) (p' : Addr) (ys : List Str), V.str a = .str a' ∧ [V.ref q] = [.ref p'] ∧ (SqL X.K H p' (ys.map V.str) ∨ SqT X.K H p' (ys.map V.str)) ∧ (ys.map (·.length)).sum + ys.length * a'.length ≤ 16777216 ∧ Q (.str (Txt.join a' ys)) H := by
    intro ds vs q hr hj hs
    unfold joinL at hj
    split at hj
    · rename_i ys hy
      split at hj <;> cases hj
      rename_i hl
      have e := strsOf_rp hy hr
      subst e
      exact ⟨a, q, ys, rfl, rfl, hs, hl, give rl p (.str _)⟩
    · cases hj
  cases b <;> simp only [joinD, reduceCtorEq] at e2
  · obtain ⟨q, vs, rfl, h1, h2⟩ := toS_list rl r e1
    exact go h2 e2 (.inl h1)
  · obtain ⟨q, vs, rfl, h1, h2⟩ := toS_tup rl r e1
    exact go h2 e2 (.inr h1)

/-! ### methods of lists -/
def apO : W → List W → Store → Option (W × Store) := fun w ws st => match w, ws with
  | .c n, [u] => match st[n]? with
    | some (.lst us) => if us.length < sizeLine then some (.d .none, st.set n (.lst (us ++ [u]))) else none
    | _ => none
  | _, _ => none
theorem m_append : MethN X "list.append" apO := by
  refine ⟨_, mt_append, fun Z al H st w ws v vs Q rl r1 rv p => ?_⟩
  unfold apO at p
  split at p
  · rename_i n u
    cases rv with
    | @cons vu _ _ _ r2 r3 =>
      cases r3
      obtain ⟨a, ha, rfl⟩ := r1
      split at p
      · rename_i us q
        obtain ⟨hz, vs, hv, ru⟩ := rl.cell n _ a q ha
        split at p
        · rename_i hl
          refine ⟨a, vs, vu, rfl, rfl, hv, by rw [RWs.length ru]; exact hl, ?_⟩
          exact p Z al _ .non (Ext.setc rl (List.mem_of_getElem? ha) _) (rl.setc q ha hz ⟨hz, _, upd_same, ru.append (.cons r2 .nil)⟩) .non
        · exact p.elim
      · exact p.elim
  · exact p.elim
/-- the items of a list that stands by itself -/
def itemsL (st : Store) : W → Option (List W)
  | .c n => match st[n]? with
    | some (.lst us) => some us
    | some (.frz (.list ds)) => some (ds.map .d)
    | _ => none
  | .d (.list ds) => some (ds.map .d)
  | _ => none
theorem itemsL_ok {K : PySem.W.Frag} {Z : Hp} {al : List Addr} {H : Hp} {st : Store} {w : W} {v : V} {us : List W} (rl : Rel K Z al H st) (r : RW K Z al v w) (e : itemsL st w = some us) : ∃ a vs, v = .ref a ∧ H a = some (.lst vs) ∧ RWs K Z al vs us := by
  cases w with
  | x n => cases e
  | s ns => cases e
  | c n =>
    obtain ⟨a, ha, rfl⟩ := r
    simp only [itemsL] at e
    split at e
    · rename_i ws q
      cases e
      obtain ⟨hz, vs, hv, ru⟩ := rl.cell n _ a q ha
      exact ⟨a, vs, rfl, hv, ru⟩
    · rename_i ds q
      cases e
      have k := (rl.cell n _ a q ha).2
      cases k with
      | lst h1 h2 => exact ⟨a, _, rfl, rl.sub _ _ h1, allD_of h2⟩
    · cases e
  | d x =>
    cases x with
    | list ds =>
      simp only [itemsL, Option.some.injEq] at e
      subst e
      cases r with
      | lst h1 h2 => exact ⟨_, _, rfl, rl.sub _ _ h1, allD_of h2⟩
    | _ => cases e
def extO : W → List W → Store → Option (W × Store) := fun w ws st => match w, ws with
  | .c n, [u] => match st[n]?, itemsL st u with
    | some (.lst us), some zs => if us.length + zs.length ≤ sizeLine then some (.d .none, st.set n (.lst (us ++ zs))) else none
    | _, _ => none
  | _, _ => none
theorem m_extend : MethN X "list.extend" extO := by
  refine ⟨_, mt_extend, fun Z al H st w ws v vs Q rl r1 rv p => ?_⟩
  unfold extO at p
  split at p
  · rename_i n u
    cases rv with
    | @cons vu _ _ _ r2 r3 =>
      cases r3
      obtain ⟨a, ha, rfl⟩ := r1
      split at p
      · rename_i us zs q q2
        obtain ⟨hz, vs, hv, ru⟩ := rl.cell n _ a q ha
        obtain ⟨b, us2, rfl, hb, rz⟩ := itemsL_ok rl r2 q2
        split at p
        · rename_i hl
          refine ⟨a, b, vs, us2, rfl, rfl, hv, hb, by rw [RWs.length ru, RWs.length rz]; exact hl, ?_⟩
          exact p Z al _ .non (Ext.setc rl (List.mem_of_getElem? ha) _) (rl.setc q ha hz ⟨hz, _, upd_same, ru.append rz⟩) .non
        · exact p.elim
      · exact p.elim
  · exact p.elim
theorem RWs.dropLast {K : PySem.W.Frag} {Z : Hp} {al : List Addr} {vs : List V} {ws : List W} (h : RWs K Z al vs ws) : RWs K Z al vs.dropLast ws.dropLast := by
  rw [List.dropLast_eq_take, List.dropLast_eq_take, h.length]
  exact h.take _
def popO : W → List W → Store → Option (W × Store) := fun w ws st => match w, ws with
  | .c n, [] => match st[n]? with
    | some (.lst us) => match us[us.length - 1]? with
      | some u => some (deref st u, st.set n (.lst us.dropLast))
      | none => none
    | _ => none
  | _, _ => none
theorem m_pop : MethN X "list.pop" popO := by
  refine ⟨_, mt_pop, fun Z al H st w ws v vs Q rl r1 rv p => ?_⟩
  unfold popO at p
  split at p
  · rename_i n
    cases rv
    obtain ⟨a, ha, rfl⟩ := r1
    split at p
    · rename_i us q
      obtain ⟨hz, vs, hv, ru⟩ := rl.cell n _ a q ha
      split at p
      · rename_i u hu
        obtain ⟨y, hy, ry⟩ := ru.get _ hu
        refine ⟨a, vs, y, rfl, rfl, hv, by rw [RWs.length ru]; exact hy, ?_⟩
        have e2 := Ext.setc rl (List.mem_of_getElem? ha) (.lst vs.dropLast)
        have rl2 := rl.setc (o := .lst vs.dropLast) q ha hz (c' := .lst us.dropLast) ⟨hz, _, upd_same, ru.dropLast⟩
        exact p Z al _ y e2 rl2 (deref_rw rl ry)
      · exact p.elim
    · exact p.elim
  · exact p.elim
def popAtO : W → List W → Store → Option (W × Store) := fun w ws st => match w, ws with
  | .c n, [.d (.int i)] => match st[n]? with
    | some (.lst us) => if 0 ≤ i ∧ i < 2 ^ 62 then match us[i.toNat]? with
      | some u => some (deref st u, st.set n (.lst (us.eraseIdx i.toNat)))
      | none => none
      else none
    | _ => none
  | _, _ => none
theorem RWs.eraseIdx {K : PySem.W.Frag} {Z : Hp} {al : List Addr} {vs : List V} {ws : List W} (i : Nat) (h : RWs K Z al vs ws) : RWs K Z al (vs.eraseIdx i) (ws.eraseIdx i) := by
  induction h generalizing i with
  | nil => exact .nil
  | cons r t ih =>
    cases i with
    | zero => exact t
    | succ i => exact .cons r (ih i)
theorem m_popAt : MethN X "list.pop" popAtO := by
  refine ⟨_, mt_popAt, fun Z al H st w ws v vs Q rl r1 rv p => ?_⟩
  unfold popAtO at p
  split at p
  · rename_i n i
    cases rv with
    | cons r2 r3 =>
      cases r3
      cases r2
      obtain ⟨a, ha, rfl⟩ := r1
      split at p
      · rename_i us q
        obtain ⟨hz, vs, hv, ru⟩ := rl.cell n _ a q ha
        split at p
        · rename_i hi
          split at p
          · rename_i u hu
            obtain ⟨y, hy, ry⟩ := ru.get _ hu
            have hlt := (List.getElem?_eq_some_iff.mp hy).1
            refine ⟨a, vs, i, i.toNat, y, rfl, rfl, hv, by omega, by omega, seqIndex_of hi.1 (by omega), hy, ?_⟩
            have e2 := Ext.setc rl (List.mem_of_getElem? ha) (.lst (vs.eraseIdx i.toNat))
            have rl2 := rl.setc (o := .lst (vs.eraseIdx i.toNat)) q ha hz (c' := .lst (us.eraseIdx i.toNat)) ⟨hz, _, upd_same, ru.eraseIdx _⟩
            exact p Z al _ y e2 rl2 (deref_rw rl ry)
          · exact p.elim
        · exact p.elim
      · exact p.elim
  · exact p.elim
def clearO : W → List W → Store → Option (W × Store) := fun w ws st => match w, ws with
  | .c n, [] => match st[n]? with
    | some (.lst us) => some (.d .none, st.set n (.lst []))
    | _ => none
  | _, _ => none
theorem m_clear : MethN X "list.clear" clearO := by
  refine ⟨_, mt_clear, fun Z al H st w ws v vs Q rl r1 rv p => ?_⟩
  unfold clearO at p
  split at p
  · rename_i n
    cases rv
    obtain ⟨a, ha, rfl⟩ := r1
    split at p
    · rename_i us q
      obtain ⟨hz, vs, hv, ru⟩ := rl.cell n _ a q ha
      refine ⟨a, vs, rfl, rfl, hv, ?_⟩
      exact p Z al _ .non (Ext.setc rl (List.mem_of_getElem? ha) _) (rl.setc q ha hz ⟨hz, _, upd_same, .nil⟩) .non
    · exact p.elim
  · exact p.elim
end
end DL

/-! DL6: statements, targets, loops. -/
namespace DL
open PySem PySem.Spec PyProof.Rows L2

/-! ### blocks -/
def sNil : SV := fun sl st => .nx sl st
def RS.next (r : RS) (k : SV) : RS := match r with
  | .nx sl st => k sl st
  | r => r
def sSeq (f g : SV) : SV := fun sl st => (f sl st).next g
def sBrk : SV := fun sl st => .bk sl st
def sCont : SV := fun sl st => .ct sl st
def sEx (f : EV) : SV := fun sl st => (f sl st).thn sl fun _ st1 => .nx sl st1
def sRet (f : EV) : SV := fun sl st => (f sl st).thn sl fun w st1 => .rt w sl st1
/-- return e, what is handed back lies still -/
def sRetF (f : EV) : SV := fun sl st => (f sl st).thn sl fun w st1 => match frz 4 w st1 with
  | some (x, st2) => .rt (.d x) sl st2
  | none => .bad
def sRetN : SV := fun sl st => .rt (.d .none) sl st
def sIf (c : TV) (f g : SV) : SV := fun sl st => (c sl st).thn sl fun b st1 => if b then f sl st1 else g sl st1
section
variable {X : Cx} {Wx : WX} {s : Stmt} {ss as bs : List Stmt} {f g : SV} {e c : Expr} {ef : EV} {tf : TV} {pos : Pos}
variable {Z : Hp} {al : List Addr} {H : Hp} {σ : L2.St} {sl : Sl} {st : Store}
theorem PostS.seq {D : Ends} {N : L2.St → Hp → Prop} {r : RS} {k : SV} (h : PostS X Wx Z al H D (r.next k))
    (hk : ∀ Z1 al1 H1 σ1 sl1 st1, Ext Z al H Z1 al1 H1 → Rel X.K Z1 al1 H1 st1 → RSl X.K Z1 al1 σ1 sl1 → PostS X Wx Z1 al1 H1 D (k sl1 st1) → N σ1 H1) : PostS X Wx Z al H { D with nx := N } r := by
  cases r with
  | nx sl1 st1 => exact fun Z' al' H' σ' e rl rs => hk Z' al' H' σ' sl1 st1 e rl rs (PostS.later e h)
  | bk _ _ => exact h
  | ct _ _ => exact h
  | rt _ _ _ => exact h
  | ex _ _ _ => exact h
  | bad => exact h
theorem PostS.seqS {α β : Type} {RA : Hp → List Addr → β → α → Prop} {D : Ends} {Q1 : β → Hp → Prop} {r : R α} {k : α → Store → RS} (h : PostS X Wx Z al H D (r.thn sl k)) (rs : RSl X.K Z al σ sl)
    (hk : ∀ Z1 al1 H1 st1 a b, Ext Z al H Z1 al1 H1 → Rel X.K Z1 al1 H1 st1 → RA Z1 al1 b a → PostS X Wx Z1 al1 H1 D (k a st1) → Q1 b H1) : Post X Wx Z al H σ RA Q1 r := Post.seqS rs h hk
theorem bv_nil : Bv X Wx [] sNil := by
  refine .of pss_nil fun D σ H h => ?_
  obtain ⟨Z, al, sl, st, rs, rl, p⟩ := h
  exact p Z al H σ (.refl ..) rl rs
theorem bv_cons (h : Sv X Wx s f) (k : Bv X Wx ss g) : Bv X Wx (s :: ss) (sSeq f g) := by
  refine .of (pss_cons h.ps k.pss) fun D σ H h => ?_
  obtain ⟨Z, al, sl, st, rs, rl, p⟩ := h
  refine ⟨Z, al, sl, st, rs, rl, PostS.seq p fun Z1 al1 H1 σ1 sl1 st1 e1 rl1 rs1 p1 => ?_⟩
  exact ⟨Z1, al1, sl1, st1, rs1, rl1, p1⟩
theorem bv_one (h : Sv X Wx s f) : Bv X Wx [s] f := ⟨pss_one h.ps⟩
theorem sv_pass : Sv X Wx (.Pass pos) sNil := by
  refine .of ps_pass fun D σ H h => ?_
  obtain ⟨Z, al, sl, st, rs, rl, p⟩ := h
  exact p Z al H σ (.refl ..) rl rs
theorem sv_brk : Sv X Wx (.Break pos) sBrk := by
  refine .of ps_break fun D σ H h => ?_
  obtain ⟨Z, al, sl, st, rs, rl, p⟩ := h
  exact p Z al H σ (.refl ..) rl rs
theorem sv_cont : Sv X Wx (.Continue pos) sCont := by
  refine .of ps_continue fun D σ H h => ?_
  obtain ⟨Z, al, sl, st, rs, rl, p⟩ := h
  exact p Z al H σ (.refl ..) rl rs
theorem sv_ex (h : Ev X Wx e ef) (hs : swapsWith e none pos.line X.env = pure false := by rfl) : Sv X Wx (.Expr e pos) (sEx ef) := by
  refine .of (ps_expr h.pe hs) fun D σ H h => ?_
  obtain ⟨Z, al, sl, st, rs, rl, p⟩ := h
  exact tE.mk rs rl (p.seqS rs fun Z1 al1 H1 st1 w v e1 rl1 rw1 p1 => p1 Z1 al1 H1 σ (.refl ..) rl1 (rs.ext e1))
theorem sv_ret (h : Ev X Wx e ef) : Sv X Wx (.Return (some e) pos) (sRet ef) := by
  refine .of (ps_ret h.pe) fun D σ H h => ?_
  obtain ⟨Z, al, sl, st, rs, rl, p⟩ := h
  exact tE.mk rs rl (p.seqS rs fun Z1 al1 H1 st1 w v e1 rl1 rw1 p1 => p1 Z1 al1 H1 v (.refl ..) rl1 rw1)
theorem sv_retF (h : Ev X Wx e ef) : Sv X Wx (.Return (some e) pos) (sRetF ef) := by
  refine .of (ps_ret h.pe) fun D σ H h => ?_
  obtain ⟨Z, al, sl, st, rs, rl, p⟩ := h
  refine tE.mk rs rl (p.seqS rs fun Z1 al1 H1 st1 w v e1 rl1 rw1 p1 => ?_)
  cases q : frz 4 w st1 with
  | none => simp only [q] at p1; exact p1.elim
  | some y =>
    obtain ⟨x, st2⟩ := y
    simp only [q] at p1
    obtain ⟨Z2, e2, rl2, h2⟩ := frz_ok 4 rl1 rw1 q
    exact p1 Z2 al1 H1 v e2 rl2 h2
theorem sv_retN : Sv X Wx (.Return none pos) sRetN := by
  refine .of ps_retN fun D σ H h => ?_
  obtain ⟨Z, al, sl, st, rs, rl, p⟩ := h
  exact p Z al H _ (.refl ..) rl .non
theorem sv_if (hc : Tv X Wx c tf) (ha : Bv X Wx as f) (hb : Bv X Wx bs g) : Sv X Wx (.If c as bs pos) (sIf tf f g) := by
  refine .of (ps_if hc.pt ha.pss hb.pss) fun D σ H h => ?_
  obtain ⟨Z, al, sl, st, rs, rl, p⟩ := h
  refine tT.mk rs rl (p.seqS rs fun Z1 al1 H1 st1 b b' e1 rl1 eb p1 => ?_)
  subst eb
  cases b' with
  | true => exact iteT ⟨Z1, al1, sl, st1, rs.ext e1, rl1, p1⟩
  | false => exact iteF ⟨Z1, al1, sl, st1, rs.ext e1, rl1, p1⟩
end

/-! ### targets -/
inductive Pat where
  | n (i : Nat)
  | t (ps : List Pat)
mutual
def bindP : Pat → W → Sl → Option Sl
  | .n i, w, sl => some (sl.set i (some w))
  | .t ps, .d (.tuple ds), sl => bindPs ps (ds.map .d) sl
  | .t _, _, _ => none
def bindPs : List Pat → List W → Sl → Option Sl
  | [], [], sl => some sl
  | p :: ps, w :: ws, sl => (bindP p w sl).bind fun sl1 => bindPs ps ws sl1
  | _, _, _ => none
end
mutual
def slP' : Pat → List Nat
  | .n i => [i]
  | .t ps => slPs ps
def slPs : List Pat → List Nat
  | [] => []
  | p :: ps => slP' p ++ slPs ps
end
/-- the same but at these slots -/
def Agree (is : List Nat) (σ σ' : L2.St) : Prop := σ'.length = σ.length ∧ ∀ j, j ∉ is → σ'[j]? = σ[j]?
theorem Agree.refl (is : List Nat) (σ : L2.St) : Agree is σ σ := ⟨rfl, fun _ _ => rfl⟩
theorem Agree.trans {is js : List Nat} {σ σ1 σ2 : L2.St} (a : Agree is σ σ1) (b : Agree js σ1 σ2) : Agree (is ++ js) σ σ2 :=
  ⟨b.1.trans a.1, fun j hj => (b.2 j fun z => hj (List.mem_append_right _ z)).trans (a.2 j fun z => hj (List.mem_append_left _ z))⟩
def tPat (X : Cx) (p : Pat) : TG := fun v σ H Q => ∃ Z al sl st w sl', RSl X.K Z al σ sl ∧ Rel X.K Z al H st ∧ RW X.K Z al v w ∧ bindP p w sl = some sl' ∧ ∀ σ', RSl X.K Z al σ' sl' → Agree (slP' p) σ σ' → Q σ' H
def tPats (X : Cx) (ps : List Pat) : TGs := fun vs σ H Q => ∃ Z al sl st ws sl', RSl X.K Z al σ sl ∧ Rel X.K Z al H st ∧ RWs X.K Z al vs ws ∧ bindPs ps ws sl = some sl' ∧ ∀ σ', RSl X.K Z al σ' sl' → Agree (slPs ps) σ σ' → Q σ' H
structure Gv (X : Cx) (t : Expr) (p : Pat) : Prop where
  pg : PG X t (tPat X p)
structure Gvs (X : Cx) (t : List Expr) (p : List Pat) : Prop where
  pg : PGs X t (tPats X p)
section
variable {X : Cx} {x : Str} {i : Nat} {pos : Pos} {e : Expr} {es : List Expr} {p : Pat} {ps : List Pat} {Z : Hp} {al : List Addr} {σ : L2.St} {sl : Sl}
theorem RSl.set {v : V} {w : W} (h : RSl X.K Z al σ sl) (r : RW X.K Z al v w) (i : Nat) : RSl X.K Z al (σ.set i (some v)) (sl.set i (some w)) := by
  refine ⟨by simp [h.1], fun j u q => ?_⟩
  by_cases e : j = i
  · subst e
    by_cases hj : j < sl.length
    · rw [List.getElem?_set_self hj] at q
      cases q
      exact ⟨v, by rw [List.getElem?_set_self (by rw [← h.1]; exact hj)], r⟩
    · rw [List.getElem?_eq_none (by simpa using hj)] at q; cases q
  · rw [List.getElem?_set_ne (Ne.symm e)] at q
    obtain ⟨v', h1, h2⟩ := h.2 j u q
    exact ⟨v', by rw [List.getElem?_set_ne (Ne.symm e)]; exact h1, h2⟩
theorem gv_n (i : Nat) {x : Str} (hN : X.N.Nodup) (hi : X.N[i]? = some x := by rfl) (hx : Loc X.env.scope x := by first | exact Or.inl rfl | exact Or.inr rfl) (hf : X.fn x = true ∨ X.env.scope.names.lookup x = some .local := by first | exact .inl rfl | exact .inr rfl | assumption) : Gv X (.Name x pos) (.n i) := by
  refine ⟨⟨fun pins s σ H v u Q I r h => (pg_name hN hi hx hf).run pins s σ H v u Q I r ?_⟩⟩
  obtain ⟨Z, al, sl, st, w, sl', rs, rl, rw1, hb, q⟩ := h
  simp only [bindP, Option.some.injEq] at hb
  subst hb
  refine q _ (rs.set rw1 i) ⟨by simp, fun j hj => ?_⟩
  have : i ≠ j := fun e => hj (by simp [slP', e])
  rw [List.getElem?_set_ne this]
theorem gvs_nil : Gvs X [] [] := by
  refine ⟨⟨fun pins s σ H v u Q I r h => pgs_nil.run pins s σ H v u Q I r ?_⟩⟩
  obtain ⟨Z, al, sl, st, ws, sl', rs, rl, rw1, hb, q⟩ := h
  cases rw1 with
  | nil => simp only [bindPs, Option.some.injEq] at hb; subst hb; exact ⟨rfl, q σ rs (.refl ..)⟩
  | cons _ _ => simp [bindPs] at hb
theorem gvs_cons (h : Gv X e p) (k : Gvs X es ps) (hs : (assignEach (e :: es) X.env).map (·.2) = assign e X.env :: (assignEach es X.env).map (·.2) := by rfl) : Gvs X (e :: es) (p :: ps) := by
  refine ⟨⟨fun pins s σ H v u Q I r h' => (pgs_cons h.pg k.pg hs).run pins s σ H v u Q I r ?_⟩⟩
  obtain ⟨Z, al, sl, st, ws, sl', rs, rl, rw1, hb, q⟩ := h'
  cases rw1 with
  | nil => simp [bindPs] at hb
  | cons r1 r2 =>
    simp only [bindPs, Option.bind_eq_some_iff] at hb
    obtain ⟨sl1, h1, h2⟩ := hb
    exact ⟨_, _, rfl, Z, al, sl, st, _, sl1, rs, rl, r1, h1, fun σ1 rs1 g1 => ⟨Z, al, sl1, st, _, sl', rs1, rl, r2, h2, fun σ2 rs2 g2 => q σ2 rs2 (g1.trans g2)⟩⟩
theorem gv_t {k n : Nat} (hc : X.calm = true) (h : Gvs X es ps) (hn : (assignEach es X.env).length = n := by rfl) (hst : (assignEach es X.env).findIdx? (·.1) = none := by rfl) (hl : ps.length = n := by rfl) : Gv X (.Tuple es k pos) (.t ps) := by
  refine ⟨⟨fun pins s σ H v u Q I r h' => (pg_tup hc h.pg hn hst).run pins s σ H v u Q I r ?_⟩⟩
  obtain ⟨Z, al, sl, st, w, sl', rs, rl, rw1, hb, q⟩ := h'
  have len : ∀ {ps : List Pat} {ws : List W} {sl sl' : Sl}, bindPs ps ws sl = some sl' → ws.length = ps.length := by
    intro ps
    induction ps with
    | nil => intro ws sl sl' e; cases ws with | nil => rfl | cons _ _ => simp [bindPs] at e
    | cons p ps ih =>
      intro ws sl sl' e
      cases ws with
      | nil => simp [bindPs] at e
      | cons w ws =>
        simp only [bindPs, Option.bind_eq_some_iff] at e
        obtain ⟨_, _, h2⟩ := e
        simp [ih h2]
  cases w with
  | c n => simp [bindP] at hb
  | s n => simp [bindP] at hb
  | x n => simp [bindP] at hb
  | d x =>
    cases x with
    | tuple ds =>
      simp only [bindP] at hb
      cases rw1 with
      | tup h1 h2 =>
        refine ⟨_, _, rfl, sqtMono rl.sub h1, ?_, Z, al, sl, st, _, sl', rs, rl, allD_of h2, hb, q⟩
        have := len hb
        rw [h2.length]
        simpa [hl] using this
    | _ => simp [bindP] at hb
end

/-! ### assignments -/
def sSet (p : Pat) (f : EV) : SV := fun sl st => (f sl st).thn sl fun w st1 => match bindP p w sl with
  | some sl1 => .nx sl1 st1
  | none => .bad
/-- a, b = e1, e2: names, what is written behind them -/
def setAll : List Nat → List W → Sl → Option Sl
  | [], [], sl => some sl
  | i :: is, w :: ws, sl => setAll is ws (sl.set i (some w))
  | _, _, _ => none
def sPar (is : List Nat) (g : AV) : SV := fun sl st => (g sl st).thn sl fun ws st1 => match setAll is ws sl with
  | some sl1 => .nx sl1 st1
  | none => .bad
section
variable {X : Cx} {Wx : WX} {e tg : Expr} {f g : EV} {p : Pat} {pos pos' : Pos} {x y : Str} {i j : Nat}
theorem sv_set {i : Nat} {x : Str} (hN : X.N.Nodup) (he : Ev X Wx e f) (hi : X.N[i]? = some x := by rfl) (hx : Loc X.env.scope x := by first | exact Or.inl rfl | exact Or.inr rfl) (hs : swapsWith e (some (.Name x pos')) pos.line X.env = pure false := by rfl)
    (hf : X.fn x = true ∨ X.env.scope.names.lookup x = some .local := by first | exact .inl rfl | exact .inr rfl | assumption) : Sv X Wx (.Assign [.Name x pos'] e pos) (sSet (.n i) f) := by
  refine .of (ps_set hN hi hx he.pe hs hf) fun D σ H h => ?_
  obtain ⟨Z, al, sl, st, rs, rl, p⟩ := h
  exact tE.mk rs rl (p.seqS rs fun Z1 al1 H1 st1 w v e1 rl1 rw1 p1 => p1 Z1 al1 H1 _ (.refl ..) rl1 ((rs.ext e1).set rw1 i))
theorem sv_asg (he : Ev X Wx e f) (hg : Gv X tg p) (hs : swapsWithSole [tg] e pos.line X.env = pure false := by rfl) (hw : swappedStores [tg] e X.env = pure none := by rfl) (h1 : (assignEach [tg] X.env).map (·.2) = [assign tg X.env] := by rfl) : Sv X Wx (.Assign [tg] e pos) (sSet p f) := by
  refine .of (ps_asg he.pe hg.pg hs hw h1) fun D σ H h => ?_
  obtain ⟨Z, al, sl, st, rs, rl, q⟩ := h
  refine tE.mk rs rl (q.seqS rs fun Z1 al1 H1 st1 w v e1 rl1 rw1 p1 => ?_)
  cases hb : bindP p w sl with
  | none => simp only [hb] at p1; exact p1.elim
  | some sl1 =>
    simp only [hb] at p1
    exact ⟨Z1, al1, sl, st1, w, sl1, rs.ext e1, rl1, rw1, hb, fun σ' rs' _ => p1 Z1 al1 H1 σ' (.refl ..) rl1 rs'⟩
theorem sv_par2 {a b : Expr} {ga : AV} {px py pt : Pos} {kt k2 pt2} (hc : X.calm = true) (hN : X.N.Nodup) (ha : Av X Wx [a, b] ga) (hi : X.N[i]? = some x := by rfl) (hj : X.N[j]? = some y := by rfl) (hij : i ≠ j := by decide)
    (hx : X.env.scope.names.lookup x = some .local := by rfl) (hy : X.env.scope.names.lookup y = some .local := by rfl)
    (hw : swappedStores [.Tuple [.Name x px, .Name y py] kt pt] (.Tuple [a, b] k2 pt2) X.env = pure (some [x, y]) := by rfl)
    (hs : swapsWithSole [.Tuple [.Name x px, .Name y py] kt pt] (.Tuple [a, b] k2 pt2) pos.line X.env = pure false := by rfl) :
    Sv X Wx (.Assign [.Tuple [.Name x px, .Name y py] kt pt] (.Tuple [a, b] k2 pt2) pos) (sPar [i, j] ga) := by
  refine .of (ps_par hc hN hi hj hij hx hy ha.pa hw hs) fun D σ H h => ?_
  obtain ⟨Z, al, sl, st, rs, rl, q⟩ := h
  refine tA.mk rs rl (q.seqS rs fun Z1 al1 H1 st1 ws vs e1 rl1 rw1 p1 => ?_)
  have rs1 := rs.ext e1
  cases rw1 with
  | nil => exact p1.elim
  | cons r1 r2 =>
    cases r2 with
    | nil => exact p1.elim
    | cons r2 r3 =>
      cases r3 with
      | cons _ _ => exact p1.elim
      | nil => exact ⟨_, _, rfl, p1 Z1 al1 H1 _ (.refl ..) rl1 ((rs1.set r1 i).set r2 j)⟩
theorem sv_par3 {l : Nat} {z : Str} {a b c : Expr} {ga : AV} {px py pz pt : Pos} {kt k2 pt2} (hc : X.calm = true) (hN : X.N.Nodup) (ha : Av X Wx [a, b, c] ga) (hi : X.N[i]? = some x := by rfl) (hj : X.N[j]? = some y := by rfl) (hl : X.N[l]? = some z := by rfl)
    (hij : i ≠ j := by decide) (hil : i ≠ l := by decide) (hjl : j ≠ l := by decide)
    (hx : X.env.scope.names.lookup x = some .local := by rfl) (hy : X.env.scope.names.lookup y = some .local := by rfl) (hz : X.env.scope.names.lookup z = some .local := by rfl)
    (hw : swappedStores [.Tuple [.Name x px, .Name y py, .Name z pz] kt pt] (.Tuple [a, b, c] k2 pt2) X.env = pure (some [x, y, z]) := by rfl)
    (hs : swapsWithSole [.Tuple [.Name x px, .Name y py, .Name z pz] kt pt] (.Tuple [a, b, c] k2 pt2) pos.line X.env = pure false := by rfl) :
    Sv X Wx (.Assign [.Tuple [.Name x px, .Name y py, .Name z pz] kt pt] (.Tuple [a, b, c] k2 pt2) pos) (sPar [i, j, l] ga) := by
  refine .of (ps_par3 hc hN hi hj hl hij hil hjl hx hy hz ha.pa hw hs) fun D σ H h => ?_
  obtain ⟨Z, al, sl, st, rs, rl, q⟩ := h
  refine tA.mk rs rl (q.seqS rs fun Z1 al1 H1 st1 ws vs e1 rl1 rw1 p1 => ?_)
  have rs1 := rs.ext e1
  cases rw1 with
  | nil => exact p1.elim
  | cons r1 r2 =>
    cases r2 with
    | nil => exact p1.elim
    | cons r2 r3 =>
      cases r3 with
      | nil => exact p1.elim
      | cons r3 r4 =>
        cases r4 with
        | cons _ _ => exact p1.elim
        | nil => exact ⟨_, _, _, rfl, p1 Z1 al1 H1 _ (.refl ..) rl1 (((rs1.set r1 i).set r2 j).set r3 l)⟩
/-- .. by a tuple that is made and taken apart -/
theorem Rel.beside {K : PySem.W.Frag} {Z : Hp} {al : List Addr} {H : Hp} {st : Store} (r : Rel K Z al H st) {a : Addr} (ha : H a = none) (o : HO) : Rel K Z al (upd H a o) st ∧ Ext Z al H Z al (upd H a o) := by
  have ne : ∀ {b : Addr} {u : HO}, H b = some u → b ≠ a := fun e => ne_of_none e ha
  refine ⟨⟨sameUpd2 r.sub (r.zfree ha), r.len, r.nd, fun n c b hc hb => ?_⟩, sameRefl Z, ⟨[], by simp, by simp⟩, fun b u e _ => by rw [upd_ne (ne e)]; exact e, fun b u e => ⟨u, by rw [upd_ne (ne e)]; exact e⟩, fun _ _ _ _ z => z⟩
  have k := r.cell n c b hc hb
  obtain ⟨o', ho⟩ := k.there
  exact k.imp (sameRefl Z) (fun _ _ x => x) (fun z => z) (upd_ne (ne ho))
theorem bindPs_n : ∀ {is : List Nat} {ws : List W} {sl sl' : Sl}, setAll is ws sl = some sl' → bindPs (is.map Pat.n) ws sl = some sl'
  | [], [], _, _, e => e
  | i :: is, w :: ws, sl, sl', e => by
    simp only [List.map_cons, bindPs, bindP, Option.bind_some]
    exact bindPs_n (is := is) e
  | [], _ :: _, _, _, e => by simp [setAll] at e
  | _ :: _, [], _, _, e => by simp [setAll] at e
theorem setAll_len : ∀ {is : List Nat} {ws : List W} {sl sl' : Sl}, setAll is ws sl = some sl' → ws.length = is.length
  | [], [], _, _, _ => rfl
  | i :: is, w :: ws, sl, sl', e => by simp [setAll_len (is := is) (by simpa [setAll] using e)]
  | [], _ :: _, _, _, e => by simp [setAll] at e
  | _ :: _, [], _, _, e => by simp [setAll] at e
theorem sv_parT {ts es : List Expr} {is : List Nat} {ga : AV} {kt n : Nat} {k2 pt pt2} (hc : X.calm = true) (ha : Av X Wx es ga) (hg : Gvs X ts (is.map Pat.n)) (hn : (assignEach ts X.env).length = n := by rfl) (hst : (assignEach ts X.env).findIdx? (·.1) = none := by rfl) (hl : is.length = n := by rfl) (hlm : is.length ≤ 100 := by decide)
    (hs : swapsWithSole [.Tuple ts kt pt] (.Tuple es k2 pt2) pos.line X.env = pure false := by rfl) (hw : swappedStores [.Tuple ts kt pt] (.Tuple es k2 pt2) X.env = pure none := by rfl)
    (h1 : (assignEach [.Tuple ts kt pt] X.env).map (·.2) = [assign (.Tuple ts kt pt) X.env] := by rfl) :
    Sv X Wx (.Assign [.Tuple ts kt pt] (.Tuple es k2 pt2) pos) (sPar is ga) := by
  refine .of (ps_asg (pe_tup ha.pa) (pg_tup hc hg.pg hn hst) hs hw h1) fun D σ H h => ?_
  obtain ⟨Z, al, sl, st, rs, rl, q⟩ := h
  refine tA.mk rs rl (q.seqS rs fun Z1 al1 H1 st1 ws vs e1 rl1 rw1 p1 => ?_)
  have rs1 := rs.ext e1
  cases hb : setAll is ws sl with
  | none => simp only [hb] at p1; exact p1.elim
  | some sl1 =>
    simp only [hb] at p1
    have len := setAll_len hb
    refine ⟨Nat.le_trans (by rw [rw1.length, len]; exact hlm) (by rw [sizeLine_eq]; decide), fun a hna => ?_⟩
    obtain ⟨rl2, e2⟩ := rl1.beside hna (.tup vs)
    exact ⟨a, vs, rfl, SqT.of upd_same, by rw [rw1.length, len]; exact hl, Z1, al1, sl, st1, ws, sl1, rs1, rl2, rw1, bindPs_n hb, fun σ' rs' _ => p1 Z1 al1 _ σ' e2 rl2 rs'⟩
end

/-! ### op= -/
def iop (o : W → W → Store → Option (W × Store)) (i : Nat) (f : EV) : SV := fun sl st => match sl[i]? with
  | some (some w) => (f sl st).thn sl fun u st1 => match o w u st1 with
    | some (z, st2) => .nx (sl.set i (some z)) st2
    | none => .bad
  | _ => .bad
def IpOk (X : Cx) (op : Operator) (o : W → W → Store → Option (W × Store)) : Prop :=
  ∃ t : TIp, PIp X op t ∧ ∀ Z al H st w1 w2 x y Q, Rel X.K Z al H st → RW X.K Z al x w1 → RW X.K Z al y w2 → PostO X Z al H (RAw X) Q (o w1 w2 st) → t x y H Q
def addI : PyData → PyData → Option PyData
  | .int i, .int j => some (.int (i + j))
  | _, _ => none
section
variable {X : Cx} {Wx : WX} {e : Expr} {f : EV} {pos pos' : Pos} {o : W → W → Store → Option (W × Store)} {op : Operator}
theorem ip_of {F : PyData → PyData → Option PyData} {g : Int → Int → Int} (hp : PIp X op (ipI g)) (hF : ∀ a b c, F a b = some c → ∃ i j, a = .int i ∧ b = .int j ∧ c = .int (g i j)) : IpOk X op (dop F) := by
  refine ⟨_, hp, fun Z al H st w1 w2 x y Q rl r1 r2 p => ?_⟩
  unfold dop at p
  cases e1 : toD st w1 with
  | none => rw [e1] at p; exact p.elim
  | some a =>
    cases e2 : toD st w2 with
    | none => rw [e1, e2] at p; exact p.elim
    | some b =>
      rw [e1, e2] at p
      cases e3 : F a b with
      | none => simp only [e3, Option.map_none] at p; exact p.elim
      | some c =>
        simp only [e3, Option.map_some] at p
        obtain ⟨i, j, rfl, rfl, rfl⟩ := hF a b c e3
        obtain rfl := toS_int rl r1 (toD_toS e1)
        obtain rfl := toS_int rl r2 (toD_toS e2)
        exact ⟨i, j, rfl, rfl, give rl p (.int _)⟩
theorem i_add : IpOk X .Add (dop addI) := ip_of ip_add fun a b c e => by
  cases a <;> cases b <;> simp only [addI, reduceCtorEq, Option.some.injEq] at e
  exact ⟨_, _, rfl, rfl, e.symm⟩
theorem i_sub : IpOk X .Sub (dop subD) := ip_of ip_sub fun a b c e => by
  cases a <;> cases b <;> simp only [subD, reduceCtorEq, Option.some.injEq] at e
  exact ⟨_, _, rfl, rfl, e.symm⟩
theorem sv_aug {i : Nat} {x : Str} (hN : X.N.Nodup) (ho : IpOk X op o) (he : Ev X Wx e f) (hi : X.N[i]? = some x := by rfl) (hx : Loc X.env.scope x := by first | exact Or.inl rfl | exact Or.inr rfl)
    (hf : X.fn x = true ∨ X.env.scope.names.lookup x = some .local := by first | exact .inl rfl | exact .inr rfl | assumption) : Sv X Wx (.AugAssign (.Name x pos') op e pos) (iop o i f) := by
  obtain ⟨t, hp, ht⟩ := ho
  refine .of (ps_aug hN hi hx he.pe hp hf) fun D σ H h => ?_
  obtain ⟨Z, al, sl, st, rs, rl, p⟩ := h
  unfold iop at p
  cases q : sl[i]? with
  | none => rw [q] at p; exact p.elim
  | some w0 =>
    cases w0 with
    | none => rw [q] at p; exact p.elim
    | some w =>
      rw [q] at p
      obtain ⟨v, hv, rv⟩ := rs.2 i w q
      refine ⟨v, hv, tE.mk rs rl (PostS.seqS p rs fun Z1 al1 H1 st1 u y e1 rl1 rw1 p1 => ?_)⟩
      refine ht Z1 al1 H1 st1 w u v y _ rl1 (rv.ext e1) rw1 ?_
      cases q2 : o w u st1 with
      | none => simp only [q2] at p1; exact p1.elim
      | some z =>
        obtain ⟨z, st2⟩ := z
        simp only [q2] at p1
        exact fun Z2 al2 H2 zv e2 rl2 rw2 => p1 Z2 al2 H2 _ e2 rl2 (((rs.ext e1).ext e2).set rw2 i)
end

/-! ### o[i] = e, o[i] op= e -/
def putO : W → W → W → Store → Option Store := fun o i v st => match o, i with
  | .c n, .d (.int k) => match st[n]? with
    | some (.lst us) => match ixN us.length k with
      | some j => some (st.set n (.lst (us.set j v)))
      | none => none
    | _ => none
  | _, _ => none
def sPut (fo fi fe : EV) : SV := fun sl st => (fe sl st).thn sl fun v st1 => (fo sl st1).thn sl fun o st2 => (fi sl st2).thn sl fun i st3 => match putO o i v st3 with
  | some st4 => .nx sl st4
  | none => .bad
def getL (o i : W) (st : Store) : Option W := match o, i with
  | .c n, .d (.int k) => match st[n]? with
    | some (.lst us) => (atI us k).map (deref st)
    | _ => none
  | _, _ => none
def sPutI (op : W → W → Store → Option (W × Store)) (fo fi fe : EV) : SV := fun sl st => (fo sl st).thn sl fun o st1 => (fi sl st1).thn sl fun i st2 => match getL o i st2 with
  | some x => (fe sl st2).thn sl fun y st4 => match op x y st4 with
    | some (z, st5) => match putO o i z st5 with
      | some st6 => .nx sl st6
      | none => .bad
    | none => .bad
  | none => .bad
section
variable {X : Cx} {Wx : WX} {oe ie e : Expr} {fo fi fe : EV} {pos p2 : Pos}
theorem put_ok {Z : Hp} {al : List Addr} {H : Hp} {st st' : Store} {o i v : W} {ov iv vv : V} {Q : Hp → Prop} (rl : Rel X.K Z al H st) (ro : RW X.K Z al ov o) (ri : RW X.K Z al iv i) (rv : RW X.K Z al vv v) (e : putO o i v st = some st')
    (q : ∀ H', Ext Z al H Z al H' → Rel X.K Z al H' st' → Q H') : rSetL ov iv vv H Q := by
  unfold putO at e
  split at e
  · rename_i n k
    obtain ⟨a, ha, rfl⟩ := ro
    cases ri
    split at e
    · rename_i us hq
      obtain ⟨hz, vs, hv, ru⟩ := rl.cell n _ a hq ha
      split at e
      · rename_i j hj
        cases e
        refine ⟨a, vs, k, j, rfl, rfl, hv, by rw [RWs.length ru]; exact hj, q _ (Ext.setc rl (List.mem_of_getElem? ha) _) (rl.setc hq ha hz ⟨hz, _, upd_same, ru.set rv j⟩)⟩
      · cases e
    · cases e
  · cases e
theorem sv_put (he : Ev X Wx e fe) (hg : PG X (.Subscript oe ie p2) (gSub (tE X Wx fo) (tE X Wx fi) rSetL))
    (hs : swapsWithSole [.Subscript oe ie p2] e pos.line X.env = pure false := by rfl) (hw : swappedStores [.Subscript oe ie p2] e X.env = pure none := by rfl) (h1 : (assignEach [.Subscript oe ie p2] X.env).map (·.2) = [assign (.Subscript oe ie p2) X.env] := by rfl) :
    Sv X Wx (.Assign [.Subscript oe ie p2] e pos) (sPut fo fi fe) := by
  refine .of (ps_asg he.pe hg hs hw h1) fun D σ H h => ?_
  obtain ⟨Z, al, sl, st, rs, rl, p⟩ := h
  refine tE.mk rs rl (PostS.seqS p rs fun Z1 al1 H1 st1 v vv e1 rl1 rw1 p1 => ?_)
  have rs1 := rs.ext e1
  refine tE.mk rs1 rl1 (PostS.seqS p1 rs1 fun Z2 al2 H2 st2 o ov e2 rl2 rw2 p2 => ?_)
  have rs2 := rs1.ext e2
  refine tE.mk rs2 rl2 (PostS.seqS p2 rs2 fun Z3 al3 H3 st3 i iv e3 rl3 rw3 p3 => ?_)
  have rs3 := rs2.ext e3
  cases q : putO o i v st3 with
  | none => simp only [q] at p3; exact p3.elim
  | some st4 =>
    simp only [q] at p3
    exact put_ok rl3 (rw2.ext e3) rw3 ((rw1.ext e2).ext e3) q fun H' e4 rl4 => p3 Z3 al3 H' σ e4 rl4 (rs3.ext e4)
/-- o[i] of a list, by values -/
theorem get_list : PGet X (rIxL X.K) := by
  intro pins s σ H x y v u Q I rx ry h
  obtain ⟨p, xs, i, z, rfl, rfl, hq, he, q⟩ := h
  cases rx
  obtain ⟨t, rfl⟩ := ry
  obtain ⟨its, r, pl, hz⟩ := I.list hq
  obtain ⟨j, h1, h2, h3, h4, h5⟩ := atI_get he
  obtain ⟨w, ew, rw'⟩ := r.get h2
  have hl := r.length
  have hn := line63
  have fin : EP X pins σ Q w s := ⟨z, H, I, rw', q⟩
  by_cases h0 : 0 ≤ i
  · have hj : i.toNat = j := by
      rw [seqIndex_of h0 h5] at h1
      exact Option.some.inj h1
    exact wpAny_getItem_list pl.isList h0 (by omega) (by rw [hj]; simpa using ew) fin
  · have hj : (i + (its.toArray.size : Int)).toNat = j := by
      rw [seqIndex_neg (by omega) h4] at h1
      rw [List.size_toArray, ← hl]
      exact Option.some.inj h1
    exact wpAny_getItem_list_neg pl.isList (by omega) (by rw [List.size_toArray]; omega) (by omega) (by rw [hj]; simpa using ew) fin
theorem sv_putI {op : Operator} {o : W → W → Store → Option (W × Store)} (hop : IpOk X op o) (ho : Ev X Wx oe fo) (hi : Ev X Wx ie fi) (he : Ev X Wx e fe)
    (ha : ∀ ov iv new, augStore ie ov iv new = (do holding [new, ov, iv] (setItem ov iv new); release [new, ov, iv] []; pure .next) := by intros; rfl) :
    Sv X Wx (.AugAssign (.Subscript oe ie p2) op e pos) (sPutI o fo fi fe) := by
  obtain ⟨t, hp, ht⟩ := hop
  refine .of (ps_augS ho.pe hi.pe get_list he.pe hp set_list ha) fun D σ H h => ?_
  obtain ⟨Z, al, sl, st, rs, rl, p⟩ := h
  refine tE.mk rs rl (PostS.seqS p rs fun Z1 al1 H1 st1 o1 ov e1 rl1 rw1 p1 => ?_)
  have rs1 := rs.ext e1
  refine tE.mk rs1 rl1 (PostS.seqS p1 rs1 fun Z2 al2 H2 st2 i iv e2 rl2 rw2 p2 => ?_)
  have rs2 := rs1.ext e2
  have rw1' := rw1.ext e2
  cases q : getL o1 i st2 with
  | none => simp only [q] at p2; exact p2.elim
  | some x =>
    simp only [q] at p2
    unfold getL at q
    split at q
    · rename_i n k
      cases rw2
      split at q
      · rename_i us hq
        obtain ⟨a, ha, rfl⟩ := id rw1'
        obtain ⟨hz, vs, hv, ru⟩ := rl2.cell n _ a hq ha
        simp only [Option.map_eq_some_iff] at q
        obtain ⟨u, hu, rfl⟩ := q
        obtain ⟨xv, h1, h2⟩ := rws_atI ru hu
        have hx := deref_rw rl2 h2
        refine ⟨a, vs, k, xv, rfl, rfl, SqL.of hv, h1, tE.mk rs2 rl2 (PostS.seqS p2 rs2 fun Z4 al4 H4 st4 y yv e4 rl4 rw4 p4 => ?_)⟩
        have rs4 := rs2.ext e4
        refine ht Z4 al4 H4 st4 (deref st2 u) y xv yv _ rl4 (hx.ext e4) rw4 ?_
        cases q2 : o (deref st2 u) y st4 with
        | none => simp only [q2] at p4; exact p4.elim
        | some zz =>
          obtain ⟨z, st5⟩ := zz
          simp only [q2] at p4
          intro Z5 al5 H5 zv e5 rl5 rw5
          cases q3 : putO (.c n) (.d (.int k)) z st5 with
          | none => simp only [q3] at p4; exact p4.elim
          | some st6 =>
            simp only [q3] at p4
            exact put_ok rl5 ((rw1'.ext e4).ext e5) (show RW X.K Z5 al5 (V.int k) (.d (.int k)) from Rp.int k) rw5 q3 fun H' e6 rl6 => p4 Z5 al5 H' σ (e5.trans e6) rl6 ((rs4.ext e5).ext e6)
      · cases q
    · cases q
end
end DL

/-! DL7: while, for, comprehensions. -/
namespace DL
open PySem PySem.Spec PyProof.Rows L2

/-! ### while -/
def sWhile (c : TV) (b : SV) : Nat → SV
  | 0 => fun _ _ => .bad
  | n + 1 => fun sl st => (c sl st).thn sl fun k st1 => if k then match b sl st1 with
      | .nx sl2 st2 => sWhile c b n sl2 st2
      | .ct sl2 st2 => sWhile c b n sl2 st2
      | .bk sl2 st2 => .nx sl2 st2
      | r => r
    else .nx sl st1
section
variable {X : Cx} {Wx : WX} {c : Expr} {body : List Stmt} {tf : TV} {bf : SV} {pos : Pos}
theorem sv_while (n : Nat) (hp : PassesOwn (model X.prog X.w) X.A X.env X.xe) (hc : Tv X Wx c tf) (hb : Bv X Wx body bf) : Sv X Wx (.While c body [] pos) (sWhile tf bf n) := by
  refine .of (ps_while hp hc.pt hb.pss) fun D σ H h => ?_
  refine ⟨fun m σ H => tS X Wx (sWhile tf bf m) D σ H, ⟨n, h⟩, fun m σ H h => ?_⟩
  obtain ⟨Z, al, sl, st, rs, rl, p⟩ := h
  cases m with
  | zero => exact p.elim
  | succ m =>
    refine tT.mk rs rl (PostS.seqS p rs fun Z1 al1 H1 st1 b b' e1 rl1 eb p1 => ?_)
    subst eb
    cases b' with
    | false => exact iteF (p1 Z1 al1 H1 σ (.refl ..) rl1 (rs.ext e1))
    | true =>
      refine iteT ⟨fun σ' H' => tS X Wx (sWhile tf bf m) D σ' H', fun σ' H' q => ⟨m, Nat.lt_succ_self _, q⟩, Z1, al1, sl, st1, rs.ext e1, rl1, ?_⟩
      have p1 : PostS X Wx Z1 al1 H1 D (match bf sl st1 with
        | .nx sl2 st2 => sWhile tf bf m sl2 st2
        | .ct sl2 st2 => sWhile tf bf m sl2 st2
        | .bk sl2 st2 => .nx sl2 st2
        | r => r) := p1
      cases q : bf sl st1 with
      | nx sl2 st2 => rw [q] at p1; exact fun Z' al' H' σ' e rl' rs' => ⟨Z', al', sl2, st2, rs', rl', PostS.later e p1⟩
      | ct sl2 st2 => rw [q] at p1; exact fun Z' al' H' σ' e rl' rs' => ⟨Z', al', sl2, st2, rs', rl', PostS.later e p1⟩
      | bk sl2 st2 => rw [q] at p1; exact p1
      | rt w sl2 st2 => rw [q] at p1; exact p1
      | ex e sl2 st2 => rw [q] at p1; exact p1
      | bad => rw [q] at p1; exact p1
end

/-! ### what is walked -/
structure Walks (X : Cx) (Z : Hp) (al : List Addr) (H : Hp) (J : It) (ws : List W) : Prop where
  go : ∀ i Z1 al1 H1 st1, Ext Z al H Z1 al1 H1 → Rel X.K Z1 al1 H1 st1 → i < ws.length → J.go i H1 ∧ ∀ x H2, J.yld i H1 x H2 → ∃ w Z2, ws[i]? = some w ∧ Ext Z1 al1 H1 Z2 al1 H2 ∧ Rel X.K Z2 al1 H2 st1 ∧ RW X.K Z2 al1 x w
  stop : ∀ Z1 al1 H1 st1, Ext Z al H Z1 al1 H1 → Rel X.K Z1 al1 H1 st1 → J.stop ws.length H1
def PostI (X : Cx) (Wx : WX) (Z : Hp) (al : List Addr) (H : Hp) (σ : L2.St) (Q : It → Hp → Prop) : R (List W) → Prop
  | .ok ws st' => ∀ Z' al' H' J, Ext Z al H Z' al' H' → Rel X.K Z' al' H' st' → Walks X Z' al' H' J ws → Q J H'
  | .ex e st' => ∀ Z' al' H' cls d, Ext Z al H Z' al' H' → Rel X.K Z' al' H' st' → ExAt X.K X.mg Z' H' cls d e → Wx cls d σ H'
  | .bad => False
def tI (X : Cx) (Wx : WX) (f : AV) : TI := fun σ H R => ∃ Z al sl st, RSl X.K Z al σ sl ∧ Rel X.K Z al H st ∧ PostI X Wx Z al H σ R (f sl st)
structure Iv (X : Cx) (Wx : WX) (tg iter : Expr) (f : AV) : Prop where
  pi : PI X tg iter (tI X Wx f)
section
variable {X : Cx} {Wx : WX} {tg e e2 : Expr} {f g : EV} {ga : AV} {p pos : Pos}
variable {Z : Hp} {al : List Addr} {H : Hp} {σ : L2.St} {sl : Sl} {st : Store}
theorem Iv.of {t : TI} {fi : AV} (h : PI X tg e t) (i : ∀ σ H R, tI X Wx fi σ H R → t σ H R) : Iv X Wx tg e fi := ⟨⟨fun pins s σ H R I hw => h.run pins s σ H R I (i σ H R hw)⟩⟩
theorem PostI.later {Z1 : Hp} {al1 : List Addr} {H1 : Hp} {Q : It → Hp → Prop} {r : R (List W)} (e : Ext Z al H Z1 al1 H1) (h : PostI X Wx Z al H σ Q r) : PostI X Wx Z1 al1 H1 σ Q r := by
  cases r with
  | ok a st' => exact fun Z' al' H' b e' => h Z' al' H' b (e.trans e')
  | ex x st' => exact fun Z' al' H' cls d e' => h Z' al' H' cls d (e.trans e')
  | bad => exact h
theorem PostI.seq {α β : Type} {RA : Hp → List Addr → β → α → Prop} {Q : It → Hp → Prop} {Q1 : β → Hp → Prop} {r : R α} {k : α → Store → R (List W)}
    (h : PostI X Wx Z al H σ Q (r.bind k)) (hk : ∀ Z1 al1 H1 st1 a b, Ext Z al H Z1 al1 H1 → Rel X.K Z1 al1 H1 st1 → RA Z1 al1 b a → PostI X Wx Z1 al1 H1 σ Q (k a st1) → Q1 b H1) : Post X Wx Z al H σ RA Q1 r := by
  cases r with
  | ok a st' => exact fun Z' al' H' b e rl ra => hk Z' al' H' st' a b e rl ra (PostI.later e h)
  | ex x st' => exact h
  | bad => exact h
theorem PI.or {t t' : TI} (h : PI X tg e t) (h' : PI X tg e t') : PI X tg e (fun σ H R => t σ H R ∨ t' σ H R) :=
  ⟨fun pins s σ H R I hw => hw.elim (h.run pins s σ H R I) (h'.run pins s σ H R I)⟩

/-- a list or a tuple: it lies still from now on -/
def itF (w : W) (st : Store) : R (List W) := match frz 4 w st with
  | some (.list ds, st1) => .ok (ds.map .d) st1
  | some (.tuple ds, st1) => .ok (ds.map .d) st1
  | _ => .bad
def iSeq (f : EV) : AV := fun sl st => (f sl st).bind itF
theorem walks_list {a : Addr} {vs : List V} {ds : List PyData} (h1 : Z a = some (.lst vs)) (h2 : RpAll X.K Z vs ds) : Walks X Z al H (Itl X.K a) (ds.map .d) := by
  refine ⟨fun i Z1 al1 H1 st1 e1 rl1 hi => ?_, fun Z1 al1 H1 st1 e1 rl1 => ?_⟩
  · have hs : SqL X.K H1 a vs := SqL.of (rl1.sub _ _ (e1.same _ _ h1))
    rw [List.length_map] at hi
    obtain ⟨v, hv, rv⟩ := h2.get i (d := ds[i]) (by simp [hi])
    refine ⟨⟨vs, v, hs, hv⟩, fun x H2 y => ?_⟩
    obtain ⟨rfl, y⟩ := y
    have z := y vs hs
    rw [hv] at z
    cases z
    exact ⟨.d ds[i], Z1, by simp [hi], .refl .., rl1, Rp.mono e1.same rv⟩
  · exact ⟨vs, SqL.of (rl1.sub _ _ (e1.same _ _ h1)), by rw [List.length_map, h2.length]; exact Nat.le_refl _⟩
theorem walks_tup {a : Addr} {vs : List V} {ds : List PyData} (h1 : SqT X.K Z a vs) (h2 : RpAll X.K Z vs ds) : Walks X Z al H (Itt X.K a) (ds.map .d) := by
  refine ⟨fun i Z1 al1 H1 st1 e1 rl1 hi => ?_, fun Z1 al1 H1 st1 e1 rl1 => ?_⟩
  · have hs : SqT X.K H1 a vs := sqtMono rl1.sub (sqtMono e1.same h1)
    rw [List.length_map] at hi
    obtain ⟨v, hv, rv⟩ := h2.get i (d := ds[i]) (by simp [hi])
    refine ⟨⟨vs, v, hs, hv⟩, fun x H2 y => ?_⟩
    obtain ⟨rfl, y⟩ := y
    have z := y vs hs
    rw [hv] at z
    cases z
    exact ⟨.d ds[i], Z1, by simp [hi], .refl .., rl1, Rp.mono e1.same rv⟩
  · exact ⟨vs, sqtMono rl1.sub (sqtMono e1.same h1), by rw [List.length_map, h2.length]; exact Nat.le_refl _⟩
theorem iv_seq (h : Ev X Wx e f) : Iv X Wx tg e (iSeq f) := by
  refine .of (PI.or (pi_list h.pe) (pi_tup h.pe)) fun σ H R hw => ?_
  obtain ⟨Z, al, sl, st, rs, rl, p⟩ := hw
  have p : PostI X Wx Z al H σ R ((f sl st).bind itF) := p
  cases q : f sl st with
  | bad => rw [q] at p; exact p.elim
  | ex x st1 => rw [q] at p; exact .inl (tE.mk rs rl (by rw [q]; exact p))
  | ok w st1 =>
    rw [q] at p
    have p : PostI X Wx Z al H σ R (itF w st1) := p
    unfold itF at p
    cases q2 : frz 4 w st1 with
    | none => rw [q2] at p; exact p.elim
    | some y =>
      obtain ⟨x, st2⟩ := y
      rw [q2] at p
      cases x with
      | list ds =>
        refine .inl (tE.mk rs rl (by
          rw [q]
          intro Z1 al1 H1 v e1 rl1 rw1
          obtain ⟨Z2, e2, rl2, h2⟩ := frz_ok 4 rl1 rw1 q2
          cases h2 with
          | lst h3 h4 => exact ⟨_, rfl, ⟨_, SqL.of (rl2.sub _ _ h3)⟩, p Z2 al1 H1 _ (e1.trans e2) rl2 (walks_list h3 h4)⟩))
      | tuple ds =>
        refine .inr (tE.mk rs rl (by
          rw [q]
          intro Z1 al1 H1 v e1 rl1 rw1
          obtain ⟨Z2, e2, rl2, h2⟩ := frz_ok 4 rl1 rw1 q2
          cases h2 with
          | tup h3 h4 => exact ⟨_, rfl, ⟨_, sqtMono rl2.sub h3⟩, p Z2 al1 H1 _ (e1.trans e2) rl2 (walks_tup h3 h4)⟩))
      | _ => exact p.elim
/-! range -/
def rng (lo : Int) (n : Nat) : List W := (List.range n).map fun (i : Nat) => .d (.int (lo + (i : Int)))
def iRng1 (g : AV) : AV := fun sl st => (g sl st).bind fun ws st1 => match ws with
  | [.d (.int j)] => if -(2 ^ 62) ≤ j ∧ j < 2 ^ 62 then .ok (rng 0 j.toNat) st1 else .bad
  | _ => .bad
def iRng2 (g : AV) : AV := fun sl st => (g sl st).bind fun ws st1 => match ws with
  | [.d (.int i), .d (.int j)] => if -(2 ^ 62) ≤ i ∧ i < 2 ^ 62 ∧ -(2 ^ 62) ≤ j ∧ j < 2 ^ 62 then .ok (rng i (j - i).toNat) st1 else .bad
  | _ => .bad
theorem walks_rng (lo : Int) (n : Nat) : Walks X Z al H (Itr lo n) (rng lo n) := by
  refine ⟨fun i Z1 al1 H1 st1 e1 rl1 hi => ?_, fun Z1 al1 H1 st1 e1 rl1 => ?_⟩
  · have hi : i < n := by simpa [rng] using hi
    refine ⟨hi, fun x H2 y => ?_⟩
    obtain ⟨rfl, rfl⟩ := y
    exact ⟨.d (.int (lo + (i : Int))), Z1, by simp [rng, hi], .refl .., rl1, .int _⟩
  · show n ≤ (rng lo n).length
    simp [rng]
theorem iv_rng1 (hg : Gl X "range") (hm : X.mg "range" = none) (ha : Av X Wx [e] ga) (hs : starEach [e] X.env = [(false, eval e X.env)] := by rfl) : Iv X Wx tg (.Call (.Name "range" p) [e] [] pos) (iRng1 ga) := by
  refine .of (pi_range1 hg hm ha.pa hs) fun σ H R hw => ?_
  obtain ⟨Z, al, sl, st, rs, rl, p⟩ := hw
  refine tA.mk rs rl (PostI.seq p fun Z1 al1 H1 st1 ws vs e1 rl1 rw1 p1 => ?_)
  split at p1
  · rename_i j
    cases rw1 with
    | cons r1 r2 =>
      cases r2
      cases r1
      split at p1
      · rename_i hj
        exact ⟨j, rfl, hj.1, hj.2, p1 Z1 al1 H1 _ (.refl ..) rl1 (walks_rng ..)⟩
      · exact p1.elim
  · exact p1.elim
theorem iv_rng2 (hg : Gl X "range") (hm : X.mg "range" = none) (ha : Av X Wx [e, e2] ga) (hs : starEach [e, e2] X.env = [(false, eval e X.env), (false, eval e2 X.env)] := by rfl) (hs2 : starEach [e2] X.env = [(false, eval e2 X.env)] := by rfl) : Iv X Wx tg (.Call (.Name "range" p) [e, e2] [] pos) (iRng2 ga) := by
  refine .of (pi_range2 hg hm ha.pa hs hs2) fun σ H R hw => ?_
  obtain ⟨Z, al, sl, st, rs, rl, p⟩ := hw
  refine tA.mk rs rl (PostI.seq p fun Z1 al1 H1 st1 ws vs e1 rl1 rw1 p1 => ?_)
  split at p1
  · rename_i i j
    cases rw1 with
    | cons r1 r2 =>
      cases r2 with
      | cons r2 r3 =>
        cases r3
        cases r1
        cases r2
        split at p1
        · rename_i hj
          exact ⟨i, j, rfl, hj, p1 Z1 al1 H1 _ (.refl ..) rl1 (walks_rng ..)⟩
        · exact p1.elim
  · exact p1.elim
/-! enumerate, zip, reversed, a text -/
def itL (w : W) (st : Store) : R (List PyData) := match frz 4 w st with
  | some (.list ds, st1) => .ok ds st1
  | _ => .bad
theorem itL_ok {α β : Type} {RG : Hp → List Addr → β → α → Prop} {w : W} {v : V} {Q : It → Hp → Prop} {k : List PyData → Store → R (List W)} (rl : Rel X.K Z al H st) (r : RW X.K Z al v w) (p : PostI X Wx Z al H σ Q ((itL w st).bind k)) :
    ∃ ds st1 Z1 a vs, Ext Z al H Z1 al H ∧ Rel X.K Z1 al H st1 ∧ v = .ref a ∧ Z1 a = some (.lst vs) ∧ RpAll X.K Z1 vs ds ∧ PostI X Wx Z1 al H σ Q (k ds st1) := by
  unfold itL at p
  cases q : frz 4 w st with
  | none => rw [q] at p; exact p.elim
  | some y =>
    obtain ⟨x, st2⟩ := y
    rw [q] at p
    cases x with
    | list ds =>
      obtain ⟨Z2, e2, rl2, h2⟩ := frz_ok 4 rl r q
      cases h2 with
      | lst h3 h4 => exact ⟨ds, st2, Z2, _, _, e2, rl2, rfl, h3, h4, PostI.later e2 p⟩
    | _ => exact p.elim
def enumL (ds : List PyData) : List W := (List.range ds.length).map fun (i : Nat) => .d (.tuple [.int (i : Int), ds.getD i .none])
def iEn (g : AV) : AV := fun sl st => (g sl st).bind fun ws st1 => match ws with
  | [w] => (itL w st1).bind fun ds st2 => .ok (enumL ds) st2
  | _ => .bad
theorem walks_enum {a : Addr} {vs : List V} {ds : List PyData} (h1 : Z a = some (.lst vs)) (h2 : RpAll X.K Z vs ds) : Walks X Z al H (Ite X.K a) (enumL ds) := by
  have hl : (enumL ds).length = ds.length := by simp [enumL]
  refine ⟨fun i Z1 al1 H1 st1 e1 rl1 hi => ?_, fun Z1 al1 H1 st1 e1 rl1 => ?_⟩
  · have hs : SqL X.K H1 a vs := SqL.of (rl1.sub _ _ (e1.same _ _ h1))
    rw [hl] at hi
    obtain ⟨v, hv, rv⟩ := h2.get i (d := ds[i]) (by simp [hi])
    refine ⟨⟨vs, v, hs, hv⟩, fun x H2 y => ?_⟩
    obtain ⟨T, u, rfl, hT, rfl, y⟩ := y
    have z := y vs hs
    rw [hv] at z
    cases z
    refine ⟨.d (.tuple [.int (i : Int), ds.getD i .none]), upd Z1 T (.tup [.int (i : Nat), v]), by simp [enumL, hi], Ext.alloc rl1 hT _, rl1.alloc hT _, ?_⟩
    have e : ds.getD i .none = ds[i] := by simp [hi]
    rw [e]
    exact .tup (SqT.of upd_same) (.cons (.int _) (.cons (Rp.mono (e1.same.trans (sameUpd (rl1.zfree hT))) rv) .nil))
  · exact ⟨vs, SqL.of (rl1.sub _ _ (e1.same _ _ h1)), by rw [hl, h2.length]; exact Nat.le_refl _⟩
theorem iv_enum {elts : List Expr} {kk : Nat} {tpos : Pos} (hg : Gl X "enumerate") (hm : X.mg "enumerate" = none) (ha : Av X Wx [e] ga) (hs : starEach [e] X.env = [(false, eval e X.env)] := by rfl) :
    Iv X Wx (.Tuple elts kk tpos) (.Call (.Name "enumerate" p) [e] [] pos) (iEn ga) := by
  refine .of (pi_enum hg hm ha.pa hs) fun σ H R hw => ?_
  obtain ⟨Z, al, sl, st, rs, rl, p⟩ := hw
  refine tA.mk rs rl (PostI.seq p fun Z1 al1 H1 st1 ws vs e1 rl1 rw1 p1 => ?_)
  cases rw1 with
  | nil => exact p1.elim
  | cons r1 r2 =>
    cases r2 with
    | cons _ _ => exact p1.elim
    | nil =>
      obtain ⟨ds, st2, Z2, a, vs, e2, rl2, rfl, h3, h4, p2⟩ := itL_ok (RG := RAw X) rl1 r1 p1
      exact ⟨a, vs, rfl, SqL.of (rl2.sub _ _ h3), p2 Z2 al1 H1 _ (.refl ..) rl2 (walks_enum h3 h4)⟩
def zipL (ds es : List PyData) : List W := (List.zip ds es).map fun p => .d (.tuple [p.1, p.2])
def itZ (w1 w2 : W) (st : Store) : R (List W) := match frz 4 w1 st with
  | some (.list ds, st1) => match frz 4 w2 st1 with
    | some (.list es, st2) => .ok (zipL ds es) st2
    | _ => .bad
  | some (.tuple ds, st1) => match frz 4 w2 st1 with
    | some (.tuple es, st2) => .ok (zipL ds es) st2
    | _ => .bad
  | _ => .bad
def iZp (g : AV) : AV := fun sl st => (g sl st).bind fun ws st1 => match ws with
  | [w1, w2] => itZ w1 w2 st1
  | _ => .bad
theorem zipL_get {ds es : List PyData} {i : Nat} (h1 : i < ds.length) (h2 : i < es.length) : (zipL ds es)[i]? = some (.d (.tuple [ds[i], es[i]])) := by
  simp [zipL, List.getElem?_zip_eq_some, h1, h2]
theorem walks_zip {a b : Addr} {vs us : List V} {ds es : List PyData} (h1 : Z a = some (.lst vs)) (h2 : RpAll X.K Z vs ds) (g1 : Z b = some (.lst us)) (g2 : RpAll X.K Z us es) : Walks X Z al H (Itz X.K a b) (zipL ds es) := by
  have hl : (zipL ds es).length = min ds.length es.length := by simp [zipL]
  refine ⟨fun i Z1 al1 H1 st1 e1 rl1 hi => ?_, fun Z1 al1 H1 st1 e1 rl1 => ?_⟩
  · have hs : SqL X.K H1 a vs := SqL.of (rl1.sub _ _ (e1.same _ _ h1))
    have gs : SqL X.K H1 b us := SqL.of (rl1.sub _ _ (e1.same _ _ g1))
    rw [hl] at hi
    have i1 : i < ds.length := by omega
    have i2 : i < es.length := by omega
    obtain ⟨v, hv, rv⟩ := h2.get i (d := ds[i]) (by simp [i1])
    obtain ⟨u, hu, ru⟩ := g2.get i (d := es[i]) (by simp [i2])
    refine ⟨⟨vs, us, v, u, hs, gs, hv, hu⟩, fun x H2 y => ?_⟩
    obtain ⟨T, x1, x2, rfl, hT, rfl, y1, y2⟩ := y
    have z1 := y1 vs hs
    have z2 := y2 us gs
    rw [hv] at z1
    rw [hu] at z2
    cases z1
    cases z2
    have m := e1.same.trans (sameUpd (o := .tup [v, u]) (rl1.zfree hT))
    exact ⟨.d (.tuple [ds[i], es[i]]), upd Z1 T (.tup [v, u]), zipL_get i1 i2, Ext.alloc rl1 hT _, rl1.alloc hT _, .tup (SqT.of upd_same) (.cons (Rp.mono m rv) (.cons (Rp.mono m ru) .nil))⟩
  · refine ⟨vs, us, SqL.of (rl1.sub _ _ (e1.same _ _ h1)), SqL.of (rl1.sub _ _ (e1.same _ _ g1)), ?_⟩
    rw [hl, h2.length, g2.length]
    omega
theorem walks_zipT {a b : Addr} {vs us : List V} {ds es : List PyData} (h1 : SqT X.K Z a vs) (h2 : RpAll X.K Z vs ds) (g1 : SqT X.K Z b us) (g2 : RpAll X.K Z us es) : Walks X Z al H (RZ.ItzT X.K a b) (zipL ds es) := by
  have hl : (zipL ds es).length = min ds.length es.length := by simp [zipL]
  refine ⟨fun i Z1 al1 H1 st1 e1 rl1 hi => ?_, fun Z1 al1 H1 st1 e1 rl1 => ?_⟩
  · have hs : SqT X.K H1 a vs := sqtMono (e1.same.trans rl1.sub) h1
    have gs : SqT X.K H1 b us := sqtMono (e1.same.trans rl1.sub) g1
    rw [hl] at hi
    have i1 : i < ds.length := by omega
    have i2 : i < es.length := by omega
    obtain ⟨v, hv, rv⟩ := h2.get i (d := ds[i]) (by simp [i1])
    obtain ⟨u, hu, ru⟩ := g2.get i (d := es[i]) (by simp [i2])
    refine ⟨⟨vs, us, v, u, hs, gs, hv, hu⟩, fun x H2 y => ?_⟩
    obtain ⟨T, x1, x2, rfl, hT, rfl, y1, y2⟩ := y
    have z1 := y1 vs hs
    have z2 := y2 us gs
    rw [hv] at z1
    rw [hu] at z2
    cases z1
    cases z2
    have m := e1.same.trans (sameUpd (o := .tup [v, u]) (rl1.zfree hT))
    exact ⟨.d (.tuple [ds[i], es[i]]), upd Z1 T (.tup [v, u]), zipL_get i1 i2, Ext.alloc rl1 hT _, rl1.alloc hT _, .tup (SqT.of upd_same) (.cons (Rp.mono m rv) (.cons (Rp.mono m ru) .nil))⟩
  · refine ⟨vs, us, sqtMono (e1.same.trans rl1.sub) h1, sqtMono (e1.same.trans rl1.sub) g1, ?_⟩
    rw [hl, h2.length, g2.length]
    omega
theorem iv_zip {elts : List Expr} {kk : Nat} {tpos : Pos} (hg : Gl X "zip") (hm : X.mg "zip" = none) (ha : Av X Wx [e, e2] ga) (hs : starEach [e, e2] X.env = (false, eval e X.env) :: starEach [e2] X.env := by rfl) (hpl : (backTo pos (starEach [e2] X.env)).any (·.1) = false := by rfl) :
    Iv X Wx (.Tuple elts kk tpos) (.Call (.Name "zip" p) [e, e2] [] pos) (iZp ga) := by
  refine .of (RZ.pi_zipA hg hm ha.pa hs hpl) fun σ H R hw => ?_
  obtain ⟨Z, al, sl, st, rs, rl, p⟩ := hw
  refine tA.mk rs rl (PostI.seq p fun Z1 al1 H1 st1 ws vs e1 rl1 rw1 p1 => ?_)
  cases rw1 with
  | nil => exact p1.elim
  | cons r1 r2 =>
    cases r2 with
    | nil => exact p1.elim
    | cons r2 r3 =>
      cases r3 with
      | cons _ _ => exact p1.elim
      | nil =>
        rename_i v1 w1 v2 w2
        have p1 : PostI X Wx Z1 al1 H1 σ R (itZ w1 w2 st1) := p1
        unfold itZ at p1
        cases q : frz 4 w1 st1 with
        | none => rw [q] at p1; exact p1.elim
        | some y =>
          obtain ⟨x, st2⟩ := y
          rw [q] at p1
          obtain ⟨Z2, e2, rl2, h2⟩ := frz_ok 4 rl1 r1 q
          have r2' := r2.ext e2
          cases x with
          | list ds =>
            simp only at p1
            cases q3 : frz 4 w2 st2 with
            | none => rw [q3] at p1; exact p1.elim
            | some y3 =>
              obtain ⟨x3, st3⟩ := y3
              rw [q3] at p1
              obtain ⟨Z3, e3, rl3, h3⟩ := frz_ok 4 rl2 r2' q3
              cases x3 with
              | list es =>
                cases h2 with
                | lst a1 a2 =>
                  cases h3 with
                  | lst b1 b2 =>
                    exact ⟨_, _, _, _, rfl, .inl ⟨SqL.of (rl3.sub _ _ (e3.same _ _ a1)), SqL.of (rl3.sub _ _ b1), p1 Z3 al1 H1 _ (e2.trans e3) rl3 (walks_zip (e3.same _ _ a1) (RpAll.mono e3.same a2) b1 b2)⟩⟩
              | _ => exact p1.elim
          | tuple ds =>
            simp only at p1
            cases q3 : frz 4 w2 st2 with
            | none => rw [q3] at p1; exact p1.elim
            | some y3 =>
              obtain ⟨x3, st3⟩ := y3
              rw [q3] at p1
              obtain ⟨Z3, e3, rl3, h3⟩ := frz_ok 4 rl2 r2' q3
              cases x3 with
              | tuple es =>
                cases h2 with
                | tup a1 a2 =>
                  cases h3 with
                  | tup b1 b2 =>
                    exact ⟨_, _, _, _, rfl, .inr ⟨sqtMono (e3.same.trans rl3.sub) a1, sqtMono rl3.sub b1, p1 Z3 al1 H1 _ (e2.trans e3) rl3 (walks_zipT (sqtMono e3.same a1) (RpAll.mono e3.same a2) b1 b2)⟩⟩
              | _ => exact p1.elim
          | _ => exact p1.elim
def signsL (x : Str) : List W := x.cps.toList.map fun c => .d (.str ⟨#[c]⟩)
def iSig (f : EV) : AV := fun sl st => (f sl st).bind fun w st1 => match w with
  | .d (.str x) => .ok (signsL x) st1
  | _ => .bad
theorem walks_sig (x : Str) : Walks X Z al H (Its x) (signsL x) := by
  have hl : (signsL x).length = x.cps.size := by simp [signsL]
  refine ⟨fun i Z1 al1 H1 st1 e1 rl1 hi => ?_, fun Z1 al1 H1 st1 e1 rl1 => ?_⟩
  · rw [hl] at hi
    refine ⟨hi, fun y H2 q => ?_⟩
    obtain ⟨rfl, c, hc, rfl⟩ := q
    exact ⟨.d (.str ⟨#[c]⟩), Z1, by simp [signsL, hc], .refl .., rl1, .str _⟩
  · show x.cps.size ≤ _
    rw [hl]
    exact Nat.le_refl _
theorem iv_sig (h : Ev X Wx e f) : Iv X Wx tg e (iSig f) := by
  refine .of (pi_str h.pe) fun σ H R hw => ?_
  obtain ⟨Z, al, sl, st, rs, rl, p⟩ := hw
  refine tE.mk rs rl (PostI.seq p fun Z1 al1 H1 st1 w v e1 rl1 rw1 p1 => ?_)
  cases w with
  | c n => exact p1.elim
  | s n => exact p1.elim
  | x n => exact p1.elim
  | d x =>
    cases x with
    | str x =>
      cases rw1
      exact ⟨x, rfl, p1 Z1 al1 H1 _ (.refl ..) rl1 (walks_sig x)⟩
    | _ => exact p1.elim
end

/-! ### for -/
def forL (p : Pat) (b : SV) : List W → SV
  | [] => fun sl st => .nx sl st
  | w :: ws => fun sl st => match bindP p w sl with
    | none => .bad
    | some sl1 => match b sl1 st with
      | .nx sl2 st2 => forL p b ws sl2 st2
      | .ct sl2 st2 => forL p b ws sl2 st2
      | .bk sl2 st2 => .nx sl2 st2
      | r => r
def sFor (src : AV) (p : Pat) (b : SV) : SV := fun sl st => (src sl st).thn sl fun ws st1 => forL p b ws sl st1
section
variable {X : Cx} {Wx : WX} {tg iter : Expr} {src : AV} {pt : Pat} {body : List Stmt} {bf : SV} {pos : Pos}
theorem PostS.seqI {Z : Hp} {al : List Addr} {H : Hp} {σ : L2.St} {sl : Sl} {D : Ends} {Q1 : It → Hp → Prop} {r : R (List W)} {k : List W → Store → RS} (h : PostS X Wx Z al H D (r.thn sl k)) (rs : RSl X.K Z al σ sl)
    (hk : ∀ Z1 al1 H1 st1 ws J, Ext Z al H Z1 al1 H1 → Rel X.K Z1 al1 H1 st1 → Walks X Z1 al1 H1 J ws → PostS X Wx Z1 al1 H1 D (k ws st1) → Q1 J H1) : PostI X Wx Z al H σ Q1 r := by
  cases r with
  | ok a st' => exact fun Z' al' H' b e rl ra => hk Z' al' H' st' a b e rl ra (PostS.later e h)
  | ex x st' => exact fun Z' al' H' cls d e rl q => h Z' al' H' σ cls d e rl (rs.ext e) q
  | bad => exact h
theorem sv_for (hp : PassesOwn (model X.prog X.w) X.A X.env X.xe) (hc : X.calm = true) (hi : Iv X Wx tg iter src) (hg : Gv X tg pt) (hb : Bv X Wx body bf)
    (hs : ∀ x, foldedSetIterable iter X.env x = pure x := by intro _; rfl) : Sv X Wx (.For tg iter body [] pos) (sFor src pt bf) := by
  refine .of (ps_for hp hc hi.pi hg.pg hb.pss hs) fun D σ H h => ?_
  obtain ⟨Z, al, sl, st, rs, rl, p⟩ := h
  refine ⟨Z, al, sl, st, rs, rl, PostS.seqI p rs fun Z0 al0 H0 st0 ws J e0 rl0 wk p0 => ?_⟩
  refine ⟨fun i m σ H => m = ws.length - i ∧ i ≤ ws.length ∧ ∃ Z1 al1 sl1 st1, Ext Z0 al0 H0 Z1 al1 H ∧ RSl X.K Z1 al1 σ sl1 ∧ Rel X.K Z1 al1 H st1 ∧ PostS X Wx Z1 al1 H D (forL pt bf (ws.drop i) sl1 st1),
    ⟨ws.length, by simp, Nat.zero_le _, Z0, al0, sl, st0, .refl .., rs.ext e0, rl0, by simpa using p0⟩, ?_⟩
  rintro i m σ1 H1 ⟨rfl, hi, Z1, al1, sl1, st1, e1, rs1, rl1, p1⟩
  by_cases hlt : i < ws.length
  · obtain ⟨hgo, hy⟩ := wk.go i Z1 al1 H1 st1 e1 rl1 hlt
    refine .inr ⟨hgo, fun σ' H' => ∃ m', m' < ws.length - i ∧ m' = ws.length - (i + 1) ∧ i + 1 ≤ ws.length ∧ ∃ Z1 al1 sl1 st1, Ext Z0 al0 H0 Z1 al1 H' ∧ RSl X.K Z1 al1 σ' sl1 ∧ Rel X.K Z1 al1 H' st1 ∧ PostS X Wx Z1 al1 H' D (forL pt bf (ws.drop (i + 1)) sl1 st1), fun σ' H' ⟨m', h1, h2⟩ => ⟨m', h1, h2⟩, fun x H2 y => ?_⟩
    obtain ⟨w, Z2, hw, e2, rl2, rw2⟩ := hy x H2 y
    have ed : ws.drop i = w :: ws.drop (i + 1) := by
      rw [List.drop_eq_getElem_cons hlt]
      have := (List.getElem?_eq_some_iff.mp hw).2
      rw [this]
    rw [ed] at p1
    have p1 : PostS X Wx Z1 al1 H1 D (match bindP pt w sl1 with
      | none => .bad
      | some sl1 => match bf sl1 st1 with
        | .nx sl2 st2 => forL pt bf (ws.drop (i + 1)) sl2 st2
        | .ct sl2 st2 => forL pt bf (ws.drop (i + 1)) sl2 st2
        | .bk sl2 st2 => .nx sl2 st2
        | r => r) := p1
    cases q : bindP pt w sl1 with
    | none => rw [q] at p1; exact p1.elim
    | some sl2 =>
      simp only [q] at p1
      have p2 := PostS.later e2 p1
      refine ⟨Z2, al1, sl1, st1, w, sl2, rs1.ext e2, rl2, rw2, q, fun σ2 rs2 _ => ⟨Z2, al1, sl2, st1, rs2, rl2, ?_⟩⟩
      have again : ∀ {sl3 st3}, PostS X Wx Z2 al1 H2 D (forL pt bf (ws.drop (i + 1)) sl3 st3) → ∀ Z' al' H' σ', Ext Z2 al1 H2 Z' al' H' → Rel X.K Z' al' H' st3 → RSl X.K Z' al' σ' sl3 → ∃ m', m' < ws.length - i ∧ m' = ws.length - (i + 1) ∧ i + 1 ≤ ws.length ∧ ∃ Z1 al1 sl1 st1, Ext Z0 al0 H0 Z1 al1 H' ∧ RSl X.K Z1 al1 σ' sl1 ∧ Rel X.K Z1 al1 H' st1 ∧ PostS X Wx Z1 al1 H' D (forL pt bf (ws.drop (i + 1)) sl1 st1) :=
        fun {sl3 st3} p3 Z' al' H' σ' e3 rl3 rs3 => ⟨_, by omega, rfl, hlt, Z', al', sl3, st3, (e1.trans e2).trans e3, rs3, rl3, PostS.later e3 p3⟩
      cases q3 : bf sl2 st1 with
      | nx sl3 st3 => rw [q3] at p2; exact again p2
      | ct sl3 st3 => rw [q3] at p2; exact again p2
      | bk sl3 st3 => rw [q3] at p2; exact p2
      | rt w sl3 st3 => rw [q3] at p2; exact p2
      | ex e sl3 st3 => rw [q3] at p2; exact p2
      | bad => rw [q3] at p2; exact p2
  · have e : i = ws.length := by omega
    subst e
    rw [List.drop_length] at p1
    exact .inl ⟨wk.stop Z1 al1 H1 st1 e1 rl1, p1 Z1 al1 H1 σ1 (.refl ..) rl1 rs1⟩
end
end DL

/-! DL8: list comprehensions. -/
namespace DL
open PySem PySem.Spec PyProof.Rows L2

def wipeS (sl : Sl) : List Nat → Sl
  | [] => sl
  | v :: vs => (wipeS sl vs).set v none
def noEx {α : Type} : R α → R α
  | .ex _ _ => .bad
  | r => r
def lcL (p : Pat) (tt : TV) (te : EV) : List W → Sl → Store → R (List PyData)
  | [], _, st => .ok [] st
  | w :: ws, sl, st => match bindP p w sl with
    | none => .bad
    | some sl1 => (noEx (tt sl1 st)).bind fun k st1 => if k then (noEx (te sl1 st1)).bind fun y st2 => match frz 4 y st2 with
        | some (x, st3) => (lcL p tt te ws sl st3).bind fun xs st4 => .ok (x :: xs) st4
        | none => .bad
      else lcL p tt te ws sl st1
def eLc (src : AV) (own : List Nat) (p : Pat) (tt : TV) (te : EV) : EV := fun sl st => (src sl st).bind fun ws st1 => if ws.length ≤ sizeLine then (lcL p tt te ws (wipeS sl own) st1).bind fun xs st2 => .ok (.d (.list xs)) st2 else .bad
def tTrue : TV := fun _ st => .ok true st
abbrev WF : WX := fun _ _ _ _ => False
structure Ts (X : Cx) (ifs : List Expr) (f : TV) : Prop where
  pt : PTs X ifs (tT X WF f)
section
variable {X : Cx} {c : Expr} {f : TV}
theorem ts_nil : Ts X [] tTrue := by
  refine ⟨⟨fun pins s σ H Q I hw => pts_nil.run pins s σ H Q I ?_⟩⟩
  obtain ⟨Z, al, sl, st, rs, rl, p⟩ := hw
  exact p Z al H true (.refl ..) rl rfl
theorem ts_one (h : Tv X WF c f) : Ts X [c] f := ⟨pts_one h.pt⟩
end
theorem R.bind_assoc {α β γ : Type} (r : R α) (f : α → Store → R β) (g : β → Store → R γ) : (r.bind f).bind g = r.bind fun a st => (f a st).bind g := by
  cases r <;> rfl
section
variable {X : Cx} {Wx : WX} {Z : Hp} {al : List Addr} {H : Hp} {σ : L2.St} {sl : Sl} {st : Store}
theorem wipeS_length (sl : Sl) : ∀ vs : List Nat, (wipeS sl vs).length = sl.length
  | [] => rfl
  | v :: vs => by unfold wipeS; rw [List.length_set, wipeS_length sl vs]
theorem wipeS_some {i : Nat} {w : W} : ∀ {vs : List Nat}, (wipeS sl vs)[i]? = some (some w) → sl[i]? = some (some w) ∧ i ∉ vs
  | [], h => ⟨h, by simp⟩
  | v :: vs, h => by
    unfold wipeS at h
    by_cases hi : v = i
    · subst hi
      by_cases hv : v < (wipeS sl vs).length
      · rw [List.getElem?_set_self hv] at h; cases h
      · rw [List.getElem?_eq_none (by simpa using hv)] at h; cases h
    · rw [List.getElem?_set_ne hi] at h
      obtain ⟨h1, h2⟩ := wipeS_some h
      exact ⟨h1, by simp only [List.mem_cons, not_or]; exact ⟨fun e => hi e.symm, h2⟩⟩
theorem wipe_other {σ : L2.St} {i : Nat} : ∀ {vs : List Nat}, i ∉ vs → (wipe σ vs)[i]? = σ[i]?
  | [], _ => rfl
  | v :: vs, h => by
    simp only [List.mem_cons, not_or] at h
    unfold wipe
    rw [List.getElem?_set_ne (Ne.symm h.1)]
    exact wipe_other h.2
theorem RSl.wipe (h : RSl X.K Z al σ sl) (vs : List Nat) : RSl X.K Z al (wipe σ vs) (wipeS sl vs) := by
  refine ⟨by rw [wipeS_length, wipe_length]; exact h.1, fun i w q => ?_⟩
  obtain ⟨h1, h2⟩ := wipeS_some q
  obtain ⟨v, a, b⟩ := h.2 i w h1
  exact ⟨v, by rw [wipe_other h2]; exact a, b⟩
theorem wipe_in {σ : L2.St} {i : Nat} : ∀ {vs : List Nat}, i ∈ vs → i < σ.length → (wipe σ vs)[i]? = some none
  | v :: vs, h, hl => by
    unfold wipe
    by_cases e : v = i
    · subst e
      rw [List.getElem?_set_self (by rw [wipe_length]; exact hl)]
    · rw [List.getElem?_set_ne e]
      rcases List.mem_cons.mp h with z | z
      · exact absurd z.symm e
      · exact wipe_in z hl
theorem wipe_agree {σ σ2 : L2.St} {vs is : List Nat} (a : Agree is (wipe σ vs) σ2) (hs : ∀ i ∈ is, i ∈ vs) : wipe σ2 vs = wipe σ vs := by
  have hl : σ2.length = σ.length := by rw [a.1, wipe_length]
  apply List.ext_getElem?
  intro i
  by_cases hi : i ∈ vs
  · by_cases hb : i < σ.length
    · rw [wipe_in hi (by rw [hl]; exact hb), wipe_in hi hb]
    · rw [List.getElem?_eq_none (by rw [wipe_length, hl]; omega), List.getElem?_eq_none (by rw [wipe_length]; omega)]
  · rw [wipe_other hi, a.2 i (fun z => hi (hs i z))]
/-- an object beside the store is put anew -/
theorem Ext.patch {Z1 : Hp} {al1 : List Addr} {H1 : Hp} {D : Addr} {o : HO} (e : Ext Z al H Z1 al1 H1) (h : H D = none) : Ext Z al H Z1 al1 (upd H1 D o) := by
  have ne : ∀ {b : Addr} {u : HO}, H b = some u → b ≠ D := fun q => ne_of_none q h
  exact ⟨e.same, e.pre, fun a u q ha => by rw [upd_ne (ne q)]; exact e.fr a u q ha, fun a u q => by rw [upd_ne (ne q)]; exact e.th a u q, e.zfr⟩
theorem Rel.patch {D : Addr} {o : HO} (r : Rel X.K Z al H st) (h1 : D ∉ al) (h2 : Z D = none) : Rel X.K Z al (upd H D o) st := by
  refine ⟨sameUpd2 r.sub h2, r.len, r.nd, fun n c a hc ha => ?_⟩
  have ne : a ≠ D := fun z => h1 (by rw [← z]; exact List.mem_of_getElem? ha)
  exact (r.cell n c a hc ha).imp (sameRefl Z) (fun _ _ x => x) (fun z => z) (upd_ne ne)
theorem Ext.notIn {Z1 : Hp} {al1 : List Addr} {H1 : Hp} (e : Ext Z al H Z1 al1 H1) {D : Addr} {o : HO} (h : H D = some o) (hn : D ∉ al) : D ∉ al1 := by
  obtain ⟨m, rfl, hm⟩ := e.pre
  intro z
  rcases List.mem_append.mp z with z | z
  · exact hn z
  · rw [hm D z] at h; cases h

variable {elt tg iter : Expr} {ifs : List Expr} {scope : Scope} {own : List (Str × Nat)} {pos : Pos} {src : AV} {pt : Pat} {tt : TV} {te : EV}
theorem lc_of (hsub : ∀ i ∈ slP' pt, i ∈ own.map (·.2)) (σ : L2.St) (H : Hp) (Q : VK) (h : tE X Wx (eLc src (own.map (·.2)) pt tt te) σ H Q) :
    tLc (tI X Wx src) (tPat X pt) (tT X WF tt) (tE X WF te) (own.map (·.2)) σ H Q := by
  obtain ⟨Z, al, sl, st, rs, rl, p⟩ := h
  generalize own.map (·.2) = vs at *
  have p : Post X Wx Z al H σ (RAw X) Q ((src sl st).bind fun ws st1 => if ws.length ≤ sizeLine then (lcL pt tt te ws (wipeS sl vs) st1).bind fun xs st2 => .ok (.d (.list xs)) st2 else .bad) := p
  refine ⟨Z, al, sl, st, rs, rl, ?_⟩
  cases qs : src sl st with
  | bad => rw [qs] at p; exact p
  | ex e st1 => rw [qs] at p; exact p
  | ok ws st1 =>
    rw [qs] at p
    intro Z0 al0 H0 J e0 rl0 wk D hD
    have p : Post X Wx Z al H σ (RAw X) Q (if ws.length ≤ sizeLine then (lcL pt tt te ws (wipeS sl vs) st1).bind fun xs st2 => .ok (.d (.list xs)) st2 else .bad) := p
    split at p
    · rename_i hsz
      have rs0 := (rs.ext e0).wipe vs
      have p := Post.later e0 p
      refine ⟨fun i m H1 => m = ws.length - i ∧ i ≤ ws.length ∧ ∃ Z1 al1 st1 xs us, Ext Z0 al0 H0 Z1 al1 H1 ∧ Rel X.K Z1 al1 H1 st1 ∧ RSl X.K Z1 al1 (wipe σ vs) (wipeS sl vs) ∧ D ∉ al1 ∧ Z1 D = none ∧ H1 D = some (.lst us) ∧ RpAll X.K Z1 us xs ∧ xs.length ≤ i ∧
        Post X Wx Z0 al0 H0 σ (RAw X) Q ((lcL pt tt te (ws.drop i) (wipeS sl vs) st1).bind fun ys st2 => .ok (.d (.list (xs ++ ys))) st2), ?_, ?_⟩
      · obtain ⟨r1, e1⟩ := rl0.beside hD (.lst [])
        exact ⟨ws.length, by simp, Nat.zero_le _, Z0, al0, st1, [], [], e1, r1, rs0, rl0.notIn hD, rl0.zfree hD, upd_same, .nil, Nat.le_refl _, by simpa using p⟩
      rintro i m H1 ⟨rfl, hi, Z1, al1, st2, xs, us, e1, rl1, rs1, nD, zD, hD1, rp, hx, p1⟩
      by_cases hlt : i < ws.length
      · obtain ⟨hgo, hy⟩ := wk.go i Z1 al1 H1 st2 e1 rl1 hlt
        refine .inr ⟨hgo, fun H' => ∃ m', m' < ws.length - i ∧ m' = ws.length - (i + 1) ∧ i + 1 ≤ ws.length ∧ ∃ Z1 al1 st1 xs us, Ext Z0 al0 H0 Z1 al1 H' ∧ Rel X.K Z1 al1 H' st1 ∧ RSl X.K Z1 al1 (wipe σ vs) (wipeS sl vs) ∧ D ∉ al1 ∧ Z1 D = none ∧ H' D = some (.lst us) ∧ RpAll X.K Z1 us xs ∧ xs.length ≤ i + 1 ∧
          Post X Wx Z0 al0 H0 σ (RAw X) Q ((lcL pt tt te (ws.drop (i + 1)) (wipeS sl vs) st1).bind fun ys st2 => .ok (.d (.list (xs ++ ys))) st2), fun H' ⟨m', h1, h2⟩ => ⟨m', h1, h2⟩, fun x H2 y => ?_⟩
        obtain ⟨w, Z2, hw, e2, rl2, rw2⟩ := hy x H2 y
        have ed : ws.drop i = w :: ws.drop (i + 1) := by
          rw [List.drop_eq_getElem_cons hlt]
          have := (List.getElem?_eq_some_iff.mp hw).2
          rw [this]
        rw [ed] at p1
        have hD2 := e2.fr D _ hD1 nD
        have zD2 := e2.zfr D _ hD1 nD zD
        unfold lcL at p1
        cases qb : bindP pt w (wipeS sl vs) with
        | none => rw [qb] at p1; exact p1.elim
        | some sl2 =>
          rw [qb] at p1
          have p1 : Post X Wx Z0 al0 H0 σ (RAw X) Q (((noEx (tt sl2 st2)).bind fun k st1 => if k then (noEx (te sl2 st1)).bind fun y st2 => match frz 4 y st2 with
              | some (x, st3) => (lcL pt tt te (ws.drop (i + 1)) (wipeS sl vs) st3).bind fun xs st4 => .ok (x :: xs) st4
              | none => .bad
            else lcL pt tt te (ws.drop (i + 1)) (wipeS sl vs) st1).bind fun ys st2 => .ok (.d (.list (xs ++ ys))) st2) := p1
          refine ⟨Z2, al1, _, st2, w, sl2, rs1.ext e2, rl2, rw2, qb, fun σ2 rs2 ag => ⟨wipe_agree ag hsub, Z2, al1, sl2, st2, rs2, rl2, ?_⟩⟩
          cases qt : tt sl2 st2 with
          | bad => rw [qt] at p1; exact p1.elim
          | ex e st3 => rw [qt] at p1; exact p1.elim
          | ok k st3 =>
            rw [qt] at p1
            intro Z3 al3 H3 b e3 rl3 eb
            subst eb
            have hD3 := e3.fr D _ hD2 nD
            have nD3 := e3.notIn hD2 nD
            have zD3 := e3.zfr D _ hD2 nD zD2
            have rp3 := RpAll.mono (e2.same.trans e3.same) rp
            have e03 := (e1.trans e2).trans e3
            have rs3 := (rs1.ext e2).ext e3
            cases b with
            | false =>
              rw [if_neg Bool.false_ne_true]
              exact ⟨_, by omega, rfl, hlt, Z3, al3, st3, xs, us, e03, rl3, rs3, nD3, zD3, hD3, rp3, by omega, p1⟩
            | true =>
              rw [if_pos rfl]
              have p1 : Post X Wx Z0 al0 H0 σ (RAw X) Q (((noEx (te sl2 st3)).bind fun y st2 => match frz 4 y st2 with
                | some (x, st3) => (lcL pt tt te (ws.drop (i + 1)) (wipeS sl vs) st3).bind fun xs st4 => .ok (x :: xs) st4
                | none => .bad).bind fun ys st2 => .ok (.d (.list (xs ++ ys))) st2) := p1
              refine ⟨Z3, al3, sl2, st3, rs2.ext e3, rl3, ?_⟩
              cases qe : te sl2 st3 with
              | bad => rw [qe] at p1; exact p1.elim
              | ex e st4 => rw [qe] at p1; exact p1.elim
              | ok y st4 =>
                rw [qe] at p1
                intro Z4 al4 H4 yv e4 rl4 rw4
                have p1 : Post X Wx Z0 al0 H0 σ (RAw X) Q ((match frz 4 y st4 with
                  | some (x, st3) => (lcL pt tt te (ws.drop (i + 1)) (wipeS sl vs) st3).bind fun xs st4 => .ok (x :: xs) st4
                  | none => .bad).bind fun ys st2 => .ok (.d (.list (xs ++ ys))) st2) := p1
                cases qf : frz 4 y st4 with
                | none => rw [qf] at p1; exact p1.elim
                | some z =>
                  obtain ⟨x', st5⟩ := z
                  rw [qf] at p1
                  obtain ⟨Z5, e5, rl5, h5⟩ := frz_ok 4 rl4 rw4 qf
                  have hD4 := e4.fr D _ hD3 nD3
                  have nD4 := e4.notIn hD3 nD3
                  have zD4 := e4.zfr D _ hD3 nD3 zD3
                  have zD5 := e5.zfr D _ hD4 nD4 zD4
                  have rp5 := RpAll.mono (e4.same.trans e5.same) rp3
                  have e05 := (e03.trans e4).trans e5
                  refine ⟨us, hD4, ?_, _, by omega, rfl, hlt, Z5, al4, st5, xs ++ [x'], us ++ [yv], Ext.patch e05 hD, rl5.patch nD4 zD5, (rs3.ext e4).ext e5, nD4, zD5, upd_same, rp5.append (.cons h5 .nil), by simp; omega, ?_⟩
                  · rw [rp.length]; omega
                  · have p1 : Post X Wx Z0 al0 H0 σ (RAw X) Q (((lcL pt tt te (ws.drop (i + 1)) (wipeS sl vs) st5).bind fun xs st4 => .ok (x' :: xs) st4).bind fun ys st2 => .ok (.d (.list (xs ++ ys))) st2) := p1
                    rw [R.bind_assoc] at p1
                    have ee : (fun (a : List PyData) (st : Store) => (R.ok (x' :: a) st).bind fun ys st2 => R.ok (W.d (.list (xs ++ ys))) st2) = fun ys st2 => R.ok (W.d (.list (xs ++ [x'] ++ ys))) st2 := by
                      funext a st
                      show R.ok _ _ = R.ok _ _
                      simp
                    rw [ee] at p1
                    exact p1
      · have e : i = ws.length := by omega
        subst e
        rw [List.drop_length] at p1
        refine .inl ⟨wk.stop Z1 al1 H1 st2 e1 rl1, ?_⟩
        have p1 : Post X Wx Z0 al0 H0 σ (RAw X) Q (R.ok (W.d (.list (xs ++ []))) st2) := p1
        rw [List.append_nil] at p1
        have ex : Ext Z0 al0 H0 (upd Z1 D (.lst us)) al1 H1 := by
          refine ⟨e1.same.trans (sameUpd zD), e1.pre, e1.fr, e1.th, fun a u q ha hz => ?_⟩
          rw [upd_ne (ne_of_none q hD)]
          exact e1.zfr a u q ha hz
        refine p1 (upd Z1 D (.lst us)) al1 H1 (.ref D) ex ⟨fun b u q => ?_, rl1.len, rl1.nd, fun n c a hc ha => ?_⟩ (.lst upd_same (RpAll.mono (sameUpd zD) rp))
        · by_cases hb : b = D
          · subst hb; rw [upd_same] at q; cases q; exact hD1
          · rw [upd_ne hb] at q; exact rl1.sub b u q
        · have ne : a ≠ D := fun z => nD (by rw [← z]; exact List.mem_of_getElem? ha)
          exact (rl1.cell n c a hc ha).imp (sameUpd zD) (fun _ _ x => x) (fun z => by rw [upd_ne ne]; exact z) rfl
    · exact p.elim
theorem ev_lc (own : List (Str × Nat)) (hc : X.calm = true) (hN : X.N.Nodup) (hi : Iv X Wx tg iter src) (ok : BlkOk X.N X.env.scope scope own)
    (hg : ∀ (s : Shared) (H : Hp) (C : Addr) (cl : List (Str × Addr)) (fp : List Addr), Gv (X.blk s H scope (compEnvC scope cl C X.env) fp) tg pt) (ht : ∀ (s : Shared) (H : Hp) (C : Addr) (cl : List (Str × Addr)) (fp : List Addr), Ts (X.blk s H scope (compEnvC scope cl C X.env) fp) ifs tt)
    (he : ∀ (s : Shared) (H : Hp) (C : Addr) (cl : List (Str × Addr)) (fp : List Addr), Ev (X.blk s H scope (compEnvC scope cl C X.env) fp) WF elt te) (hsub : ∀ i ∈ slP' pt, i ∈ own.map (·.2) := by decide) (hs : ∀ x, foldedSetIterable iter X.env x = pure x := by intro _; rfl) :
    Ev X Wx (.ListComp elt [⟨tg, iter, ifs, 0⟩] scope pos) (eLc src (own.map (·.2)) pt tt te) :=
  .of (pe_lc (g := tPat X pt) (tt := tT X WF tt) (te := tE X WF te) hc hN hi.pi ok (fun s H C cl fp => (hg s H C cl fp).pg) (fun s H C cl fp => (ht s H C cl fp).pt) (fun s H C cl fp => (he s H C cl fp).pe) hs) (lc_of hsub)
theorem sv_setLc {i : Nat} {y : Str} {py spos : Pos} (own : List (Str × Nat)) (hc : X.calm = true) (hN : X.N.Nodup) (hi : Iv X Wx tg iter src) (ok : BlkOk X.N X.env.scope scope own)
    (hg : ∀ (s : Shared) (H : Hp) (C : Addr) (cl : List (Str × Addr)) (fp : List Addr), Gv (X.blk s H scope (compEnvC scope cl C X.env) fp) tg pt) (ht : ∀ (s : Shared) (H : Hp) (C : Addr) (cl : List (Str × Addr)) (fp : List Addr), Ts (X.blk s H scope (compEnvC scope cl C X.env) fp) ifs tt)
    (he : ∀ (s : Shared) (H : Hp) (C : Addr) (cl : List (Str × Addr)) (fp : List Addr), Ev (X.blk s H scope (compEnvC scope cl C X.env) fp) WF elt te)
    (hsw : swapsWith (.ListComp elt [⟨tg, iter, ifs, 0⟩] scope pos) (some (.Name y py)) spos.line X.env = pure true) (hy : X.N[i]? = some y := by rfl) (hyl : X.env.scope.names.lookup y = some .local := by rfl)
    (hsub : ∀ i ∈ slP' pt, i ∈ own.map (·.2) := by decide) (hs : ∀ x, foldedSetIterable iter X.env x = pure x := by intro _; rfl) :
    Sv X Wx (.Assign [.Name y py] (.ListComp elt [⟨tg, iter, ifs, 0⟩] scope pos) spos) (sSet (.n i) (eLc src (own.map (·.2)) pt tt te)) := by
  refine .of (ps_setLc (g := tPat X pt) (tt := tT X WF tt) (te := tE X WF te) hc hN hy hyl hsw hi.pi ok (fun s H C cl fp => (hg s H C cl fp).pg) (fun s H C cl fp => (ht s H C cl fp).pt) (fun s H C cl fp => (he s H C cl fp).pe) hs) fun D σ H h => ?_
  obtain ⟨Z, al, sl, st, rs, rl, p⟩ := h
  refine lc_of hsub σ H _ (tE.mk rs rl (PostS.seqS p rs fun Z1 al1 H1 st1 w v e1 rl1 rw1 p1 => p1 Z1 al1 H1 _ (.refl ..) rl1 ((rs.ext e1).set rw1 i)))
end
end DL

/-! DL9: defs of the text: what they promise, how they are called; the law's end. -/
namespace DL
open PySem PySem.Spec PyProof.Rows L2

/-- room for k calls, nothing of repr is open -/
structure GR (k : Nat) (A : Around) : Prop where
  rm : Room k A
  gd : A.guards = some []
theorem GR.mono {j k : Nat} {A : Around} (r : GR k A) (h : j ≤ k) : GR j A := ⟨r.rm.mono h, r.gd⟩
theorem GR.deeper {k : Nat} {A : Around} (r : GR (k + 1) A) (env : Env) : GR k (A.deeper env) := ⟨r.rm.deeper env, r.gd⟩
theorem GR.hu {k : Nat} {A : Around} (r : GR k A) : A.units + 70 < cLine := by have := r.rm.un; omega

abbrev Fn := List W → Store → R W
def PostF (K : PySem.W.Frag) (mg : Str → Option Value) (Z : Hp) (al : List Addr) (H : Hp) (Q : VK) (E : XK) : R W → Prop
  | .ok w st' => ∀ Z' al' H' v, Ext Z al H Z' al' H' → Rel K Z' al' H' st' → RW K Z' al' v w → Q v H'
  | .ex e st' => ∀ Z' al' H' cls d, Ext Z al H Z' al' H' → Rel K Z' al' H' st' → ExAt K mg Z' H' cls d e → E cls d H'
  | .bad => False
def spD (K : PySem.W.Frag) (mg : Str → Option Value) (n : Nat) (F : Fn) : Sp := fun vs H Q E => vs.length = n ∧ ∃ Z al ws st, Rel K Z al H st ∧ RWs K Z al vs ws ∧ PostF K mg Z al H Q E (F ws st)
/-- what a def's body makes of its arguments; m: its further names -/
def fnOf (n m : Nat) (body : SV) : Fn := fun ws st => if ws.length = n then
  match body (ws.map some ++ List.replicate m none) st with
  | .rt w _ st' => .ok w st'
  | .nx _ st' => .ok (.d .none) st'
  | .ex e _ st' => .ex e st'
  | _ => .bad
  else .bad
theorem fnOf_len {n m : Nat} {body : SV} {ws : List W} {st : Store} (h : ws.length ≠ n) : fnOf n m body ws st = .bad := if_neg h

structure FnG (P : Program) (w : World) (K : PySem.W.Frag) (mg : Str → Option Value) (base : Heap) (k : Nat) (f : Addr) (fd : FuncData) (ps : List Str) (sp : Sp) : Prop where
  len : ∀ vs H Q E, sp vs H Q E → vs.length = ps.length
  run : ∀ (A : Around) (outer : List Env) (s : Shared) (H : Hp) (args : Args) (us : List Value) (vs : List V) (Q : VK) (E : XK), GR k A → Env0 P w K mg base A outer s H →
    BindsTo s fd args (ps.zip us) → Vals vs us → sp vs H Q E → codeAny (model P w) A (.call (.ref f) args) (CR (L2.CX P w) outer P w H s Q E) s
theorem FnG.mono {P : Program} {w : World} {K : PySem.W.Frag} {mg : Str → Option Value} {base : Heap} {j k : Nat} {f : Addr} {fd : FuncData} {ps : List Str} {sp : Sp} (F : FnG P w K mg base j f fd ps sp) (h : j ≤ k) : FnG P w K mg base k f fd ps sp :=
  ⟨F.len, fun A outer s H args us vs Q E r => F.run A outer s H args us vs Q E (r.mono h)⟩
/-- the context of a def's body -/
abbrev cxG (P : Program) (w : World) (K : PySem.W.Frag) (mg : Str → Option Value) (base : Heap) (N : List Str) (qual : Str) (scope : Scope) (f : Addr) (cd : Value) (A : Around) (outer : List Env) (s : Shared) (H : Hp) (E : XK) : Cx :=
  cxOf (L2.CX P w) P w K mg base N qual scope f cd A outer s H E
abbrev wxG (E : XK) : WX := fun cls d _ H => E cls d H
section
variable {P : Program} {w : World} {K : PySem.W.Frag} {mg : Str → Option Value} {base : Heap} {x qual : Str} {params : Arguments} {body : List Stmt} {scope : Scope} {f : Addr} {fd : FuncData}
theorem start_rsl {Z : Hp} {al : List Addr} {N : List Str} {m : Nat} {vs : List V} {ws : List W} (h : RWs K Z al vs ws) (hN : N.length = vs.length + m) : RSl K Z al (L2.start N vs) (ws.map some ++ List.replicate m none) := by
  have e : N.length - vs.length = m := by omega
  refine ⟨?_, fun i u q => ?_⟩
  · unfold L2.start
    have := h.length
    simp; omega
  · unfold L2.start
    by_cases hi : i < ws.length
    · rw [List.getElem?_append_left (by simpa using hi), List.getElem?_map] at q
      cases z : ws[i]? with
      | none => rw [z] at q; cases q
      | some u' =>
        rw [z] at q; cases q
        obtain ⟨v, hv, rv⟩ := h.get i z
        refine ⟨v, ?_, rv⟩
        rw [List.getElem?_append_left (by rw [List.length_map]; exact (List.getElem?_eq_some_iff.mp hv).1), List.getElem?_map, hv]
        rfl
    · rw [List.getElem?_append_right (by simpa using hi), List.getElem?_replicate] at q
      split at q <;> cases q
theorem fnG_of {N ps : List Str} {k m : Nat} {dvs : List V} {kws : List (Str × V)} {sem : SV} (F : FunD K x qual params body scope dvs kws f fd) (S : FnScope N ps scope) (hN : N.length = ps.length + m)
    (hbody : ∀ (cdv : Value) (A : Around) (outer : List Env) (s : Shared) (H : Hp) (E : XK), GR k (A.deeper (envOfC qual scope s.heap.objs.size f cdv)) → Bv (cxG P w K mg base N qual scope f cdv A outer s H E) (wxG E) body sem) :
    FnG P w K mg base (k + 1) f fd ps (spD K mg ps.length (fnOf ps.length m sem)) := by
  obtain ⟨oc, od, dV, kV, doc, pm, an, cdv, ct, osl, rfl, lk, hcd, _, _⟩ := F.ex
  refine ⟨fun vs H Q E h => h.1, fun A outer s H args us vs Q E g e0 hb r h => ?_⟩
  have kin : K.In s.heap := e0.mod.kin.keeps fun b o q => (e0.bs b o q).1
  have nolim : s.heap.NoLimit := e0.mod.nolimit.keeps fun b o q => (e0.bs b o q).1
  refine codeAny_call_function g.rm.depth (kin _ _ lk) rfl S.co S.gen rfl (PySem.W.codeRec_of kin hcd) (hb _ _ _ _ ?_)
  refine wpAny_newFunctionEnv_cells S.kind (fun ⟨n, v⟩ hy => (S.par n (List.of_mem_zip hy).1).imp id fun q => ⟨q, PySem.W.cellsFrom_some _ _ _ (.inl q)⟩) fun env he s1 inC => ?_
  subst he
  refine ⟨nolim.keeps inC.toInCall.keep, codeAny_func ?_⟩
  obtain ⟨hl, Z, al, ws, st, rl, rws, p⟩ := h
  have J : Inv (cxG P w K mg base N qual scope f cdv A outer s H E) [] (L2.start N vs) H s1 := inv_start S g.rm.hd e0 hl r inC
  have hd : tS (cxG P w K mg base N qual scope f cdv A outer s H E) (wxG E) sem { nx := fun _ H' => Q .non H', rt := Q } (L2.start N vs) H := by
    refine ⟨Z, al, _, st, start_rsl rws (by rw [hl]; exact hN), rl, ?_⟩
    rw [fnOf, if_pos (by rw [← rws.length]; exact hl)] at p
    cases q : sem (ws.map some ++ List.replicate m none) st with
    | bad => rw [q] at p; exact p
    | bk a b => rw [q] at p; exact p.elim
    | ct a b => rw [q] at p; exact p.elim
    | ex e a b => rw [q] at p; exact fun Z' al' H' σ' cls d e1 r1 _ x1 => p Z' al' H' cls d e1 r1 x1
    | rt w1 a b => rw [q] at p; exact p
    | nx a b => rw [q] at p; exact fun Z' al' H' σ' e1 r1 _ => p Z' al' H' .non e1 r1 .non
  refine wpAny_mono ((hbody cdv A outer s H E (g.deeper _)).pss.run [] s1 _ H _ J hd) (fun fl s2 q => ?_) fun _ _ z => z
  have ends : ∀ {σ2 : L2.St} {H2 : Hp} {v : V} {u : Value}, Inv (cxG P w K mg base N qual scope f cdv A outer s H E) [] σ2 H2 s2 → RelV v u → Q v H2 → CE outer P w H s Q u s2 :=
    fun {σ2 H2 v u} J2 rv q2 => ⟨v, H2, J2.os, J2.bare, J2.base, J2.hok, rv, q2⟩
  cases fl with
  | next => exact let ⟨σ2, H2, J2, q2⟩ := q; ends (v := .non) (u := Value.none) J2 rfl q2
  | ret u => exact let ⟨v, σ2, H2, J2, rv, q2⟩ := q; ends J2 rv q2
  | brk => exact let ⟨_, _, _, q2⟩ := q; q2.elim
  | cont => exact let ⟨_, _, _, q2⟩ := q; q2.elim
end

/-! ### calls -/
/-- a def that may be called by its name -/
structure CalG (P : Program) (w : World) (K : PySem.W.Frag) (mg : Str → Option Value) (base : Heap) (k : Nat) (x : Str) (n : Nat) (F : Fn) : Prop where
  ex : ∃ (f : Addr) (fd : FuncData) (ps : List Str), ps.length = n ∧ FnG P w K mg base k f fd ps (spD K mg n F) ∧ (∀ ws st, ws.length ≠ n → F ws st = .bad) ∧ mg x = some (.ref f) ∧ PySem.W.keepIn K (.ref f) = true ∧ Binds K fd ps []
theorem calG {P : Program} {w : World} {K : PySem.W.Frag} {mg : Str → Option Value} {base : Heap} {x : Str} {params : Arguments} {body : List Stmt} {scope : Scope} {f : Addr} {fd : FuncData} {N ps : List Str} {k m : Nat} {sem : SV}
    (F : FunD K x x params body scope [] [] f fd) (hm : mg x = some (.ref f)) (S : FnScope N ps scope) (hN : N.length = ps.length + m)
    (hb : ∀ (kV doc pm : Value) (an : Option Addr) (cdv ct : Value) (us : List Value), us.length = ps.length → bindArgs (PySem.W.fnOf x x params body scope .none kV doc pm an cdv ct) ⟨us, []⟩ = pure (ps.zip us))
    (hbody : ∀ (cdv : Value) (A : Around) (outer : List Env) (s : Shared) (H : Hp) (E : XK), GR k (A.deeper (envOfC x scope s.heap.objs.size f cdv)) → Bv (cxG P w K mg base N x scope f cdv A outer s H E) (wxG E) body sem) :
    CalG P w K mg base (k + 1) x ps.length (fnOf ps.length m sem) :=
  ⟨f, fd, ps, rfl, fnG_of F S hN hbody, fun _ _ => fnOf_len, hm, F.kp, F.bindsN hb⟩
theorem CalG.mono {P : Program} {w : World} {K : PySem.W.Frag} {mg : Str → Option Value} {base : Heap} {j k n : Nat} {x : Str} {F : Fn} (c : CalG P w K mg base j x n F) (h : j ≤ k) : CalG P w K mg base k x n F :=
  let ⟨f, fd, ps, a, b, r⟩ := c.ex; ⟨f, fd, ps, a, b.mono h, r⟩

def eFn (F : Fn) (a : AV) : EV := fun sl st => (a sl st).bind F
section
variable {X : Cx} {Wx : WX} {k n : Nat} {x : Str} {F : Fn} {p pos : Pos} {e : Expr} {es : List Expr} {a : AV}
theorem runG {pins : List (Addr × Obj)} {σ : L2.St} {H : Hp} {s : Shared} {Q : VK} {us ls : List Value} {kw : List (Str × Value)} {vs : List V} {f : Addr} {fd : FuncData} {ps : List Str} {sp : Sp} (G : FnG X.prog X.w X.K X.mg X.base k f fd ps sp) (g : GR k X.A) (tk : Takes X Wx) (I : Inv X pins σ H s)
    (b : BindsTo s fd ⟨ls, kw⟩ (ps.zip us)) (r : Vals vs us) (h : sp vs H Q (WE Wx σ)) : wpAny (model X.prog X.w) X.A (call (.ref f) ls kw) (EP X pins σ Q) X.xe s := by
  refine wpAny_call (codeAny_mono (G.run X.A X.stack s H ⟨ls, kw⟩ us vs Q (WE Wx σ) g I.env0 b r h) fun res s2 q => ?_)
  match res, q with
  | .error u, q => exact passAt tk σ pins H s u s2 I q
  | .ok (.ret u), q => exact I.after q
theorem post_spD {Z : Hp} {al : List Addr} {H : Hp} {σ : L2.St} {st : Store} {vs : List V} {ws : List W} {Q : VK} (hF : ∀ ws st, ws.length ≠ n → F ws st = .bad) (rl : Rel X.K Z al H st) (r : RWs X.K Z al vs ws) (p : Post X Wx Z al H σ (RAw X) Q (F ws st)) : spD X.K X.mg n F vs H Q (WE Wx σ) := by
  have hl : vs.length = n := by
    rw [r.length]
    by_cases z : ws.length = n
    · exact z
    · rw [hF ws st z] at p; exact p.elim
  refine ⟨hl, Z, al, ws, st, rl, r, ?_⟩
  cases q : F ws st with
  | ok w st1 => rw [q] at p; exact p
  | ex e st1 => rw [q] at p; exact p
  | bad => rw [q] at p; exact p
/-- f(e, ..) -/
theorem ev_call (c : CalG X.prog X.w X.K X.mg X.base k x n F) (g : GR k X.A) (tk : Takes X Wx) (ha : Av X Wx (e :: es) a) (hg : Gl X x := by rfl) (hdb : (x == ("__debug__" : Str)) = false := by decide)
    (he : starEach (e :: es) X.env = (false, eval e X.env) :: starEach es X.env := by rfl) (hpl : (backTo pos (starEach es X.env)).any (·.1) = false := by rfl) : Ev X Wx (.Call (.Name x p) (e :: es) [] pos) (eFn F a) := by
  obtain ⟨f, fd, ps, el, G, hF, hm, hk, hb⟩ := c.ex
  subst el
  refine ⟨⟨fun pins s σ H Q I h => ?_⟩⟩
  obtain ⟨Z, al, sl, st, rs, rl, q⟩ := h
  refine wpAny_Call_Name_kw (ld_glob I hg hm (PySem.W.callWith_K (h₀ := X.base) I.ok.mod.kin hk (wpAny_mono (ha.pa.run pos pins s σ H (fun vs H1 => spD X.K X.mg ps.length F vs H1 Q (WE Wx σ)) I (tA.mk rs rl (Post.seq q fun Z1 al1 H1 st1 ws vs e1 rl1 r1 q1 => post_spD hF rl1 r1 q1))) (fun us s1 z => ?_) fun _ _ z => z) he hpl) hdb)
  obtain ⟨vs, H1, I1, r, q1⟩ := z
  have b := hb s1 us I1.kIn (by rw [List.append_nil, ← r.length]; exact q1.1)
  rw [List.append_nil] at b
  exact ⟨I1.kIn, runG G g tk I1 b r q1⟩
/-- f() -/
theorem ev_call0 (c : CalG X.prog X.w X.K X.mg X.base k x n F) (g : GR k X.A) (tk : Takes X Wx) (hg : Gl X x := by rfl) (hdb : (x == ("__debug__" : Str)) = false := by decide) : Ev X Wx (.Call (.Name x p) [] [] pos) (eFn F fun _ st => .ok [] st) := by
  obtain ⟨f, fd, ps, el, G, hF, hm, hk, hb⟩ := c.ex
  subst el
  refine ⟨⟨fun pins s σ H Q I h => ?_⟩⟩
  obtain ⟨Z, al, sl, st, rs, rl, q⟩ := h
  have q1 : spD X.K X.mg ps.length F [] H Q (WE Wx σ) := post_spD hF rl (.nil : RWs X.K Z al [] []) q
  have b := hb s [] I.kIn (by rw [List.append_nil]; exact q1.1)
  rw [List.append_nil] at b
  exact wpAny_Call_Name_kw (ld_glob I hg hm (PySem.W.callWith_K0 I.kIn hk (runG G g tk I b .nil q1)) hdb)
end
end DL

/-! DL10: the law's end. -/
namespace DL
open PySem PySem.Spec PyProof.Rows L2
section
variable {P : Program} {w : World} {K : PySem.W.Frag} {mg mb : Str → Option Value} {k : Nat} {fa a : Addr} {fd : FuncData} {x : Str} {F : Fn} {s₁ : Shared} {vs : List Value} {ns : List Int}
/-- from a heap in which at most the script is told of -/
theorem law_at {H : Hp} (kin : K.In s₁.heap) (gns : s₁.heap.Ns mainGlobals mg) (bns : s₁.heap.Ns builtinsNs mb) (boot : ∀ x : Str, x ≠ "__name__" → mb x = bootBuiltins x) (nolim : s₁.heap.NoLimit) (gens : s₁.gens = #[])
    (at_ : s₁.heap.get? a = some { cls := .type "list", data := .seq vs.toArray }) (room : GR k callerA)
    (G : ∀ base : Heap, K.In base → base.Ns mainGlobals mg → FnG P w K mg base k fa fd [x] (spD K mg 1 F)) (hbind : ∀ (s : Shared) (u : Value), BindsTo s fd ⟨[u], []⟩ [(x, u)])
    (hF : ∃ st, F [.s ns] [] = .ok (.d (.bool true)) st) (only : Only H) (seq : SqL K H a (ns.map V.int)) (hok : HOk P w H s₁.heap) (just : ∀ b, H b ≠ none → b = a) (notK : H a ≠ none → K.lookup a = none) :
    codeAny (model P w) callerA (.call (.ref fa) ⟨[.ref a], []⟩) (fun r s' => r = .ok (.ret (.bool true)) ∧ OldK s₁.heap s'.heap ∧ s'.os = s₁.os ∧ AllBare s'.gens) s₁ := by
  have dictFree : ∀ {b : Addr} {o : Obj} {es : Array DictEntry} {ep : Nat}, s₁.heap.get? b = some o → o.data = .dict es ep → H b = none := fun {b o es ep} hb hd => by
    by_cases z : H b = none
    · exact z
    · have e := just b z
      rw [e, at_] at hb
      cases hb
      exact Data.noConfusion (show Data.seq vs.toArray _ = Data.dict es ep from hd)
  have nsB : ∀ {b : Addr} {m : Str → Option Value}, s₁.heap.Ns b m → (hidT s₁.heap H).Ns b m := fun {b m} ⟨o, es, ep, h1, h2, h3⟩ => ⟨o, es, ep, hidT_get h1 (dictFree h1 h2), h2, h3⟩
  have kinB : K.In (hidT s₁.heap H) := fun b o hb => by
    refine hidT_get (kin b o hb) ?_
    by_cases z : H b = none
    · exact z
    · have e := just b z
      subst e
      rw [notK z] at hb; cases hb
  have md : Mod K mg (hidT s₁.heap H) := ⟨kinB, nsB gns, ⟨mb, nsB bns, boot⟩, let ⟨mc, h1, h2⟩ := nolim; ⟨mc, nsB h1, h2⟩⟩
  have e0 : Env0 P w K mg (hidT s₁.heap H) callerA [] s₁ H := ⟨rfl, md, fun b o => of_hidT, Nat.le_of_eq (hidT_size _ _), trivial, fun b z => (List.not_mem_nil z).elim, hok, .of_eq gens⟩
  obtain ⟨st, eF⟩ := hF
  have sp : spD K mg 1 F [.ref a] H (fun v _ => v = .bl true) (fun _ _ _ => False) := by
    refine ⟨rfl, H, [], [.s ns], [], ⟨sameRefl H, rfl, List.nodup_nil, fun n c b hc => by simp at hc⟩, .cons ⟨a, rfl, seq⟩ .nil, ?_⟩
    rw [eF]
    intro Z' al' H' v _ _ rv
    cases rv
    rfl
  refine codeAny_mono ((G _ kinB (nsB gns)).run callerA [] s₁ H ⟨[.ref a], []⟩ [.ref a] [.ref a] (fun v _ => v = .bl true) (fun _ _ _ => False) room e0 (hbind s₁ (.ref a)) (.cons rfl .nil) sp) fun r s2 q => ?_
  match r, q with
  | .error e, q => exact let ⟨_, _, _, _, _, _, _, _, _, _, _, _, z⟩ := q; z.elim
  | .ok (.ret u), q =>
    obtain ⟨v, H2, os, bare, un, hok2, rv, ev⟩ := q
    cases ev
    cases rv
    refine ⟨rfl, OldK.of_keep fun b o hb => ?_, os, bare⟩
    rcases only b with z | ⟨ob, xs, z⟩
    · exact un.keep b o hb z (List.not_mem_nil) (List.not_mem_nil)
    · have g1 := (hok b _ z).1
      have g2 := (hok2 b _ (un.frzs b ob _ z)).1
      rw [hb] at g1; cases g1
      exact g2

theorem law_goes (kin : K.In s₁.heap) (gns : s₁.heap.Ns mainGlobals mg) (bns : s₁.heap.Ns builtinsNs mb) (boot : ∀ x : Str, x ≠ "__name__" → mb x = bootBuiltins x) (nolim : s₁.heap.NoLimit) (gens : s₁.gens = #[])
    (at_ : s₁.heap.get? a = some { cls := .type "list", data := .seq vs.toArray }) (ints_ : IntsAre vs ns) (len : ns.length ≤ sizeLine) (room : GR k callerA)
    (G : ∀ base : Heap, K.In base → base.Ns mainGlobals mg → FnG P w K mg base k fa fd [x] (spD K mg 1 F)) (hbind : ∀ (s : Shared) (u : Value), BindsTo s fd ⟨[u], []⟩ [(x, u)])
    (hF : ∃ st, F [.s ns] [] = .ok (.d (.bool true)) st) :
    codeAny (model P w) callerA (.call (.ref fa) ⟨[.ref a], []⟩) (fun r s' => r = .ok (.ret (.bool true)) ∧ OldK s₁.heap s'.heap ∧ s'.os = s₁.os ∧ AllBare s'.gens) s₁ := by
  have vals := vals_ints ints_
  cases q : K.lookup a with
  | some o =>
    have e := kin a o q
    rw [at_] at e; cases e
    exact law_at (H := fun _ => none) kin gns bns boot nolim gens at_ room G hbind hF (fun _ => .inl rfl) (.inr ⟨_, vs.toArray, _, q, rfl, rfl, rfl, by rw [List.size_toArray, ints_.length]; exact len, by simpa using vals⟩)
      (fun b u z => by have y : (none : Option HO) = some u := z; cases y) (fun b z => (z rfl).elim) fun z => (z rfl).elim
  | none =>
    let T : HO := .frz { cls := .type "list", data := .seq vs.toArray } (.lst (ns.map V.int))
    have one : ∀ {b : Addr}, b = a → (fun b => if b = a then some T else none : Hp) b = some T := fun e => if_pos e
    have off : ∀ {b : Addr}, b ≠ a → (fun b => if b = a then some T else none : Hp) b = none := fun e => if_neg e
    refine law_at (H := fun b => if b = a then some T else none) kin gns bns boot nolim gens at_ room G hbind hF (fun b => ?_) (.inl (.inr ⟨_, one rfl⟩)) (fun b u z => ?_) (fun b z => ?_) fun _ => q
    · rcases Classical.em (b = a) with e | e
      · exact .inr ⟨_, _, one e⟩
      · exact .inl (off e)
    · rcases Classical.em (b = a) with e | e
      · subst e
        rw [one rfl] at z; cases z
        exact ⟨at_, by rw [List.length_map]; exact len, vs, _, vals, at_⟩
      · rw [off e] at z; cases z
    · rcases Classical.em (b = a) with e | e
      · exact e
      · exact (z (off e)).elim
end
/-- the goal behind a head: Y gives the written part, the law's function and what it computes -/
theorem walk_ofG {l : PySem.W.OpenLaw} {n k : Nat} {q : Program} {loose : List Str} {XP : (Str → Option Value) → Heap → Prop} {YP : World → Heap → Prop} {d : DefRec} {x : Str} (hn : l.most = some n) (hn2 : n ≤ sizeLine) (hdf : d.params.defaults = []) (room : GR k callerA)
    (Y : ∀ (w : World) (mg : Str → Option Value) (fa : Addr) (h : Heap), YP w h → h.Ns mainGlobals mg → mg d.name = some (.ref fa) → ∃ (K : PySem.W.Frag) (fd : FuncData) (F : Fn), K.In h ∧ (∀ (s : Shared) (u : Value), BindsTo s fd ⟨[u], []⟩ [(x, u)]) ∧
      (∀ ns : List Int, ns.length ≤ n → ∃ st, F [.s ns] [] = .ok (.d (.bool true)) st) ∧ ∀ base : Heap, K.In base → base.Ns mainGlobals mg → FnG l.prog w K mg base k fa fd [x] (spD K mg 1 F)) :
    PySem.W.WalkO q loose XP YP l.row.toRowW d [] (fun f vs => PySem.call f vs) := by
  refine Att.attach_call hn hdf fun w s0 s1 mg mb fa o pm cd doc a vs ns gr y ho hd hcd hmg hobj hints hlen gens => ?_
  obtain ⟨K, fd, F, kin, hb, hF, hG⟩ := Y w mg fa _ y gr.T.g hmg
  exact law_goes kin gr.T.g gr.T.b gr.T.builtins gr.T.nolimit gens hobj hints (Nat.le_trans hlen hn2) room hG hb (hF ns hlen)
end DL

/-! DL11: an own error whose __init__ says super().__init__('..'), then keeps its arguments. -/
namespace DL
open PySem PySem.Spec PyProof.Rows L2

/-- the context of such an __init__'s body: __class__ is free -/
abbrev cxI (CX : CXT) (P : Program) (w : World) (K : PySem.W.Frag) (mg : Str → Option Value) (base : Heap) (N : List Str) (qual : Str) (scope : Scope) (f cc : Addr) (cd : Value) (A : Around) (outer : List Env) (s : Shared) (H : Hp) (E : XK) : Cx where
  prog := P
  w := w
  K := K
  mg := mg
  base := base
  A := A.deeper (PySem.W.ksEnv qual scope s.heap.objs.size f cd cc)
  N := N
  s_0 := s
  H_0 := H
  env := PySem.W.ksEnv qual scope s.heap.objs.size f cd cc
  outer := outer
  stack := PySem.W.ksEnv qual scope s.heap.objs.size f cd cc :: outer
  ex := []
  calm := true
  fn := fun _ => false
  pn := []
  xe := fun e s' => wpAny (model P w) (A.deeper (PySem.W.ksEnv qual scope s.heap.objs.size f cd cc)) (leaving (PySem.W.ksEnv qual scope s.heap.objs.size f cd cc) e) (fun _ s'' => CX outer H s E e s'') (fun e' s'' => CX outer H s E e' s'') s'

/-- its scope: the parameters are locals, __class__ is free -/
structure InScope (N : List Str) (sc : Scope) : Prop where
  kind : sc.kind = .function
  co : sc.isCoroutine = false
  gen : sc.isGenerator = false
  nd : N.Nodup
  par : ∀ x ∈ N, sc.names.lookup x = some .local
  nocell : ∀ y ∈ sc.names, y.2 ≠ .cell
  free : ∀ y ∈ sc.names, y.2 = .free → y.1 = "__class__"
  sup : sc.names.lookup ("super" : Str) = some .globalImplicit
  cls : sc.names.lookup ("__class__" : Str) = some .free
/-- what K says of the def and of its class -/
structure InFacts (P : Program) (K : PySem.W.Frag) (mg : Str → Option Value) (C cda cc : Addr) : Prop where
  oex : OexC K C
  code : ∃ ccl cdd vs ccs file tf, K.lookup cda = some ⟨ccl, cdd, .fields vs, ccs⟩ ∧ vs[2]? = some (.str file tf) ∧ ((P.main.file : Str) == file) = true
  cell : ∃ cl cld csl, K.lookup cc = some ⟨cl, cld, .cell (some (.ref C)), csl⟩
  mro : PySem.W.mroIn K C (.ref C) = some true
  ve : PySem.W.subIn K (.ref C) (.type "ValueError") = some true
  ini : PySem.W.ks_superIn K C C "__init__" = some (some (.builtin "ValueError.__init__"))
  opq : PySem.W.nsIn K cStatics "thirdparty.any" = some none
  sup : mg "super" = none
  top : (P.main.scope.names.lookup ("super" : Str)).isSome = false

section
variable {CX : CXT} {P : Program} {w : World} {K : PySem.W.Frag} {mg : Str → Option Value} {base : Heap} {N : List Str} {qual : Str} {scope : Scope} {f cc C : Addr} {cd : Value} {A : Around} {outer : List Env} {s : Shared} {H : Hp} {E : XK}
theorem zip_get {us : List Value} {vs : List V} : ∀ {N : List Str} {i : Nat} {y : Str} {v : V}, N.Nodup → vs.length = N.length → Vals vs us → N[i]? = some y → vs[i]? = some v → ∃ u, RelV v u ∧ (N.zip us).reverse.lookup y = some u := by
  intro N i y v nd hl r h1 h2
  obtain ⟨u, hu, rv⟩ := r.get h2
  refine ⟨u, rv, ?_⟩
  have hul : us.length = N.length := by rw [← r.length]; exact hl
  clear r h2 hl
  induction N generalizing us i with
  | nil => simp at h1
  | cons n N ih =>
    cases us with
    | nil => simp at hul
    | cons u0 us =>
      rw [List.zip_cons_cons, List.reverse_cons]
      have nn := List.nodup_cons.mp nd
      cases i with
      | zero =>
        simp at h1 hu; subst h1; subst hu
        have z : (N.zip us).reverse.lookup n = none := by
          rw [List.lookup_eq_none_iff]
          intro p hp
          have hp := List.mem_reverse.mp hp
          have := (List.of_mem_zip (a := p.1) (b := p.2) hp).1
          simp only [bne_iff_ne, ne_eq]
          rintro rfl
          exact nn.1 this
        rw [List.lookup_append, z]
        simp
      | succ i =>
        have := ih nn.2 (by simpa using h1) (by simpa using hu) (by simpa using hul)
        rw [List.lookup_append, this]
        rfl
theorem inv_startI {us : List Value} {vs : List V} {h1 : Heap} {tk : Nat} (S : InScope N scope) (hd : A.handled = none) (e0 : Env0 P w K mg base A outer s H) (hl : vs.length = N.length) (r : Vals vs us) (hc : ∃ cl cld csl, K.lookup cc = some ⟨cl, cld, .cell (some (.ref C)), csl⟩)
    (ns : h1.Ns s.heap.objs.size (fun x => (N.zip us).reverse.lookup x)) (kp : ∀ b o, s.heap.get? b = some o → h1.get? b = some o) : Inv (cxI CX P w K mg base N qual scope f cc cd A outer s H E) [] (L2.start N vs) H { s with heap := h1, toks := tk } := by
  obtain ⟨cl, cld, csl, hc⟩ := hc
  have bcc := e0.mod.kin _ _ hc
  have one : ∀ {y : Str} {c : Addr}, (([("__class__", cc)] : List (Str × Addr)).lookup y) = some c → y = "__class__" ∧ c = cc := fun {y c} q => by
    have z := PySem.mem_of_lookup q
    simp at z
    exact z
  have noA : ∀ b : Addr, b ∉ (cxI CX P w K mg base N qual scope f cc cd A outer s H E).ex := fun b => List.not_mem_nil
  refine ⟨⟨e0.mod, S.kind, rfl, rfl, Nat.le_refl _, fun y z c q1 q2 => (one q1).1.trans (one q2).1.symm, fun y hy => ?_, fun _ _ z => Bool.noConfusion (show false = true from z), fun _ => hd, Around.frames_deeper e0.frames, .inr ⟨rfl, rfl⟩, fun b z => (noA b z).elim, e0.bs, e0.bsz, fun b _ _ => noA b, fun b z => (noA b z).elim, e0.funs, e0.frf⟩,
    rfl, e0.bare, Un.kept kp, ⟨_, ns, fun i y v q1 q2 q3 => ?_⟩, fun y c q => ?_, e0.hok.fresh (Nat.le_refl _), fun y c q => ?_, fun p hp => (List.not_mem_nil hp).elim, e0.hok.kept kp, ?_⟩
  · have hy : scope.names.lookup y = some .cell ∨ scope.names.lookup y = some .free := hy
    rcases hy with hy | hy
    · exact absurd rfl (S.nocell _ (PySem.mem_of_lookup hy))
    · obtain rfl : y = PySem.Str.ofString "__class__" := S.free _ (PySem.mem_of_lookup hy) rfl
      exact ⟨cc, by show ([(PySem.Str.ofString "__class__", cc)] : List (Str × Addr)).lookup (PySem.Str.ofString "__class__") = some cc; rw [List.lookup_cons, beq_self_eq_true]⟩
  · have hi : i < vs.length := by rw [hl]; exact (List.getElem?_eq_some_iff.mp q1).1
    have ha : vs[i]? = some v := by
      unfold L2.start at q2
      rw [List.getElem?_append_left (by simpa using hi), List.getElem?_map] at q2
      cases e : vs[i]? with
      | none => rw [e] at q2; cases q2
      | some a => rw [e] at q2; cases q2; rfl
    obtain ⟨u, rv, lu⟩ := zip_get S.nd hl r q1 ha
    exact ⟨u, rv, .inl ⟨S.par y (List.mem_of_getElem? q1), lu⟩⟩
  · obtain ⟨_, rfl⟩ := one q
    exact ⟨_, _, kp _ _ (e0.bs _ _ bcc).1, rfl⟩
  · obtain ⟨_, rfl⟩ := one q
    exact (e0.bs _ _ bcc).2
  · unfold L2.start
    show _ = N.length
    rw [List.length_append, List.length_map, List.length_replicate]
    omega
end
section
variable {prog : Program} {w : World} {A : Around} {E : Value → Shared → Prop} {h : Heap} {g : Array GenState} {d : Drawn} {t : Nat} {os : OsState}
variable {nm q : Str} {C N : Addr} {bs bm : List Value} {hdct : Bool} {sn : List Str} {sub : List Value} {ab : Bool} {col : Option Bool} {dd : Option Addr} {k0 k1 k2 k3 k5 : Option Value}
/-- the bound ValueError.__init__, called -/
theorem call_mw {u e t0 : Addr} {rest : List Value} {Q : Value → Shared → Prop} (hC : h.get? C = some (excClassObj nm q C N bs bm hdct sn sub ab col dd k0 k1 k2 k3 k5 "ValueError.__new__"))
    (he : h.get? e = some { cls := .ref C, dict := none, data := .fields #[.ref t0, .none, .none, .none, .bool false, .none] }) (hu : h.get? u = some (PySem.W.kxs_mw "ValueError.__init__" e)) (hz : rest.length ≤ sizeLine)
    (hq : ∀ h' t1, (∀ b o, b ≠ e → h.get? b = some o → h'.get? b = some o) → h'.get? e = some { cls := .ref C, dict := none, data := .fields #[.ref t1, .none, .none, .none, .bool false, .none] } → Q .none ⟨h', g, d, t, os⟩) :
    wpAny (model prog w) A (call (.ref u) rest) Q E ⟨h, g, d, t, os⟩ := by
  refine wpAny_call (codeAny_of_tree (show wpAny _ A.in1 (callAny (.ref u) ⟨rest, []⟩) _ _ _ from ?_))
  simp only [callAny]
  refine wpAny_bind (wpAny_load hu ?_)
  have yes : (Value.type "method-wrapper" == Value.type "method" || Value.type "method-wrapper" == Value.type "builtin_function_or_method" || Value.type "method-wrapper" == Value.type "method-wrapper") = true := by decide
  simp only [PySem.W.kxs_mw, yes, if_true]
  refine PySem.W.KFB.if_so (by decide) (wpAny_bind (PySem.W.check_bound_init F.excBase_ValueError.toExcCallFacts hC he rfl (wpAny_bind (wpAny_pure (wpAny_pure ⟨plainId_quiet F.excBase_ValueError.init.plain _, codeAny_builtin F.excBase_ValueError.initEntry ?_⟩)))))
  exact PySem.W.exc_init_tree (cls := .ref C) (t0 := t0) (dv := none) (c2 := .none) (c3 := .none) (b4 := .bool false) he hz fun h' k1 e1 _ => hq h' _ k1 e1
end

abbrev supCall (p0 p1 p2 p3 p4 : Pos) (m : Str) (j : Nat) : Expr := .Call (.Attribute (.Call (.Name "super" p0) [] [] p1) "__init__" p2) [.Constant (.str m) j p3] [] p4
/-- how such a call is taken apart (rfl where the places are known) -/
def SupEv (p0 p1 p2 p3 p4 : Pos) (m : Str) (j : Nat) : Prop := ∀ env : Env, ∃ pl : Sem Bool, eval (supCall p0 p1 p2 p3 p4 m j) env = (do
  let ov ← attributeBase (.Call (.Name "super" p0) [] [] p1) "__init__" env (eval (.Call (.Name "super" p0) [] [] p1) env)
  standAt p2.atName
  let (f, first) ← holding [ov] (getMethod ov "__init__" pl)
  callWith p4 f first (backTo p4 (starEach [.Constant (.str m) j p3] env)) [])
theorem looks_mro {M : Model} {K : PySem.W.Frag} {h : Heap} {C : Addr} {cd : ClassData} (X : K.In h) (hc : PySem.W.clsIn K C = some cd) : PySem.W.Looks M h (mroOf (.ref C)) cd.mro :=
  fun A Q E s k q => wpAny_bind ((PySem.W.looks_clsIn X hc) A _ E s k (wpAny_pure q))
theorem init_ok {CX : CXT} {P : Program} {w : World} {K : PySem.W.Frag} {mg : Str → Option Value} {base : Heap} {N : List Str} {qual : Str} {scope : Scope} {f cda cc C : Addr} {params : Arguments} {rest : List Stmt} {dV kV doc pm ct oc : Value} {an od : Option Addr} {osl : Array (Option Value)} {k j : Nat} {sp : Sp}
    {p0 p1 p2 p3 p4 p5 : Pos} {m : Str} {ar : Arg} (lk : K.lookup f = some ⟨oc, od, .func (PySem.W.ksFn "__init__" qual params (.Expr (supCall p0 p1 p2 p3 p4 m j) p5 :: rest) scope dV kV doc pm an (.ref cda) ct cc), osl⟩)
    (hcd : PySem.W.codeIn K (.ref cda) qual = true) (S : InScope N scope) (Fx : InFacts P K mg C cda cc) (hev : SupEv p0 p1 p2 p3 p4 m j) (har : (params.posonlyargs ++ params.args).head? = some ar) (hN : N[0]? = some ar.arg)
    (len : ∀ vs H Q E, sp vs H Q E → vs.length = N.length) (hsp : ∀ vs H Q E, sp vs H Q E → ∃ a us, vs = .ref a :: us ∧ H a = some (exo a C none))
    (hbody : ∀ (A : Around) (outer : List Env) (s : Shared) (H : Hp) (vs : List V) (Q : VK) (E : XK), sp vs H Q E →
      ∃ t, PSs (cxI CX P w K mg base N qual scope f cc (.ref cda) A outer s H E) rest t ∧ t { nx := fun _ H' => Q .non H', rt := Q } (L2.start N vs) H) :
    FnOk P w K mg base CX (k + 1) f (PySem.W.ksFn "__init__" qual params (.Expr (supCall p0 p1 p2 p3 p4 m j) p5 :: rest) scope dV kV doc pm an (.ref cda) ct cc) N sp := by
  refine ⟨len, fun A outer s H args us vs Q E hr e0 hb r h => ?_⟩
  have hl := len _ _ _ _ h
  obtain ⟨a, us', rfl, ea⟩ := hsp _ _ _ _ h
  have kin : K.In s.heap := e0.mod.kin.keeps fun b o q => (e0.bs b o q).1
  have nolim : s.heap.NoLimit := e0.mod.nolimit.keeps fun b o q => (e0.bs b o q).1
  refine ks_codeAny_call_defAt (body := .Expr (supCall p0 p1 p2 p3 p4 m j) p5 :: rest) (binds := N.zip us) hr.depth (kin _ _ lk) rfl nolim (PySem.W.codeRec_of kin hcd) rfl hb S.nocell (fun x hx => S.par _ (List.of_mem_zip (a := x.1) (b := x.2) hx).1) (fun h1 hns kp => ?_) S.co S.gen S.kind
  have J := inv_startI (CX := CX) (qual := qual) (f := f) (cd := .ref cda) (E := E) (tk := s.toks + (N.zip us).length) S hr.hd e0 hl r Fx.cell hns kp
  obtain ⟨t, ht, hread⟩ := hbody A outer s H _ Q E h
  generalize s.toks + (N.zip us).length = tk at *
  obtain ⟨cl, cld, csl, hcell⟩ := Fx.cell
  obtain ⟨ccl, cdd, fvs, ccs, file, tf, hcode, hvs, hfile⟩ := Fx.code
  obtain ⟨nm, q, Nn, bs, bm, sn, sub, ab, col, dd, k0, k1, k2, k3, k5, hC, hbm⟩ := Fx.oex.cls
  have hcl : PySem.W.clsIn K C = some { name := nm, bases := bs, mro := .ref C :: bm, ns := Nn, qualname := q, hasDict := true, slotNames := sn, subclasses := sub, abstract := ab, collection := col, hasDel := false } := by unfold PySem.W.clsIn; rw [hC] <;> rfl
  obtain ⟨t0, hx⟩ := exo_at J.hok ea
  have hself : ∃ u, RelV (V.ref a) u ∧ (N.zip us).reverse.lookup ar.arg = some u := zip_get S.nd hl r hN rfl
  obtain ⟨u0, ru0, hself⟩ := hself
  cases ru0
  have hin := Fx.ini
  unfold PySem.W.ks_superIn at hin
  rw [hcl, Option.bind_some] at hin
  have inter : interactive (PySem.W.ksEnv qual scope s.heap.objs.size f (.ref cda) cc) = false := by unfold interactive; simp [S.kind]
  obtain ⟨pl, hev⟩ := hev (PySem.W.ksEnv qual scope s.heap.objs.size f (.ref cda) cc)
  refine ks_wpAt_execs_cons (ks_wpAt_Expr_any (hi := inter) (ks_wpAt_MethodCall (pl := pl) (ks_wpAt_super_base (env := PySem.W.ksEnv qual scope s.heap.objs.size f (.ref cda) cc) S.sup S.cls (by decide) rfl (J.kIn _ _ lk) rfl har rfl (J.kIn _ _ hcode) rfl hvs hfile Fx.top ?_) hev))
  obtain ⟨mb, b1, b2⟩ := J.mod.blt
  refine PySem.W.ks_loadName_global S.kind S.sup (Calls.loadGlobal_builtin (J.mod.glob.keeps J.bk) Fx.sup (b1.keeps J.bk) ((b2 "super" (by decide)).trans (by decide +kernel : bootBuiltins "super" = some (.type "super"))) ⟨rfl, ?_⟩)
  refine wpAny_loadName_free S.kind S.cls rfl ⟨_, J.kIn _ _ hcell, rfl⟩ (wpAny_loadName_local S.kind (S.par _ (List.mem_of_getElem? hN)) hns hself ?_)
  obtain ⟨oD, hD, hDd⟩ : ∃ oD, h1.get? C = some oD ∧ oD.data = .cls { name := nm, bases := bs, mro := .ref C :: bm, ns := Nn, qualname := q, hasDict := true, slotNames := sn, subclasses := sub, abstract := ab, collection := col, hasDel := false } := ⟨_, J.kIn _ _ hC, rfl⟩
  refine ks_wpAny_isType_cls hD hDd ⟨rfl, ks_wpAny_call_super hD hDd hx rfl (fun c e => by cases e) (PySem.W.looks_mroIn J.kIn Fx.mro) fun h2 eso k2 => ?_⟩
  have J2 := J.kept (h' := h2) (t' := tk) k2
  have hx2 := k2 _ _ hx
  have iX : PySem.W.InstAt h2 a { cls := .ref C, dict := none, data := .fields #[.ref t0, .none, .none, .none, .bool false, .none] } C none := ⟨hx2, rfl, rfl, trivial⟩
  refine PySem.W.kxs_getMethod PySem.W.kxs_ValueError eso (PySem.W.looks_opaque J2.kIn Fx.opq) (looks_mro J2.kIn hcl) rfl J2.kIn hin (iX.type.andThen (PySem.W.looks_subIn J2.kIn Fx.ve)) (PySem.W.ks_ne J2.kIn iX hcl) (by decide) ?_
  have k3 : ∀ b o, h2.get? b = some o → (h2.push (PySem.W.kxs_mw "ValueError.__init__" a)).get? b = some o := fun b o e => Heap.get?_push_of_some _ e
  have hu : (h2.push (PySem.W.kxs_mw "ValueError.__init__" a)).get? h2.objs.size = some (PySem.W.kxs_mw "ValueError.__init__" a) := Heap.get?_push_at rfl rfl
  have J3 := J2.kept (h' := h2.push (PySem.W.kxs_mw "ValueError.__init__" a)) (t' := tk + 2) k3
  refine PySem.W.kxs_callWith (i := "ValueError.__init__") (x := a) (by rfl) (Calls.evalArgs_plain ?_)
  refine Calls.spliced_cons (Calls.Constant_str (pos := p3) (k := j) (Calls.spliced_nil ⟨hu, ?_⟩))
  refine call_mw (J3.kIn _ _ hC) (k3 _ _ hx2) hu (by show 1 ≤ sizeLine; rw [sizeLine_eq]; omega) fun h4 t4 k4 e4 => ?_
  have J4 := J3.write (h' := h4) (t' := tk + 2) (x := a) (e := a) (o := exo a C none) (by rw [ea]; exact True.intro) (.inl rfl) k4 ⟨_, e4⟩ (exo_ok e4)
  have same : upd H a (exo a C none) = H := by
    funext b
    rcases Classical.em (b = a) with e | e
    · rw [e, upd_same, ea]
    · rw [upd_ne e]
  rw [same] at J4
  refine wpAt_of_wpAny (wpAny_mono (ht.run [] _ _ H _ J4 hread) (fun fl s5 q => ?_) fun _ _ z => z)
  have ends : ∀ {σ5 : L2.St} {H5 : Hp} {v : V} {u : Value}, Inv (cxI CX P w K mg base N qual scope f cc (.ref cda) A outer s H E) [] σ5 H5 s5 → RelV v u → Q v H5 → CE outer P w H s Q u s5 :=
    fun {σ5 H5 v u} J5 rv q5 => ⟨v, H5, J5.os, J5.bare, J5.base, J5.hok, rv, q5⟩
  cases fl with
  | next => exact let ⟨σ5, H5, J5, q5⟩ := q; ends (v := .non) (u := Value.none) J5 rfl q5
  | ret u => exact let ⟨v, σ5, H5, J5, rv, q5⟩ := q; ends J5 rv q5
  | brk => exact let ⟨_, _, _, q5⟩ := q; q5.elim
  | cont => exact let ⟨_, _, _, q5⟩ := q; q5.elim
end DL

/-! DL12: what the head tells: the hook, errors with an __init__ of their own. -/
namespace DL
open PySem PySem.Spec PyProof.Rows L2 He

/-! ### the written part -/
def asZ (g : Addr → Option Obj) : Nat → List Addr
  | 0 => [mainGlobals, cStatics]
  | n + 1 => growD g (asZ g n)
/-- an error class's __init__: the class's name, the rest as the text has it -/
structure InD where
  x : Str
  params : Arguments
  body : List Stmt
  scope : Scope
  fs : List Str
abbrev InW : Type := Option (Str × Str × Arguments × FuncBody × Scope × Addr × Addr × Value × Value × List Str)
def inF (K : PySem.W.Frag) (x : Str) : Addr := ma K (ga K x) "__init__"
def inO (K : PySem.W.Frag) (x : Str) : InW := match K.lookup (inF K x) with
  | some ⟨_, _, .func fd, _⟩ => some (fd.name, fd.qualname, fd.params, fd.body, fd.scope, fd.globals, fd.builtins, fd.defaults, fd.kwdefaults, fd.closure.map (·.1))
  | _ => none
def inQ (x : Str) : Str := x ++ PySem.Str.ofString ".__init__"
def InD.val (d : InD) : InW := some ("__init__", inQ d.x, d.params, .stmts d.body, d.scope, mainGlobals, builtinsNs, .none, .none, ["__class__"])
def oexB (K : PySem.W.Frag) (C : Addr) : Bool := match K.lookup C with
  | some ⟨.type "type", _, .cls cd, sl⟩ => (match cd.mro, sl.toList with
    | .ref C' :: bm, [_, _, _, _, some (.builtin n), _] => C' == C && (n == "ValueError.__new__" && (!cd.hasDel && (cd.hasDict && PySem.HandSPX.refsVE bm)))
    | _, _ => false)
  | _ => false
def codeB (file : Str) (K : PySem.W.Frag) (cda : Addr) : Bool := match K.lookup cda with
  | some ⟨_, _, .fields vs, _⟩ => (match vs[2]? with
    | some (Value.str fl _) => file == fl
    | _ => false)
  | _ => false
def cellB (K : PySem.W.Frag) (cc C : Addr) : Bool := match K.lookup cc with
  | some ⟨_, _, .cell (some (.ref D)), _⟩ => D == C
  | _ => false
def initB (file : Str) (K : PySem.W.Frag) (d : InD) : Bool := match K.lookup (inF K d.x) with
  | some ⟨.type "function", _, .func fd, _⟩ => (match fd.code, fd.closure with
    | .ref cda, [(_, cc)] => PySem.W.codeIn K fd.code (inQ d.x) && (codeB file K cda && (cellB K cc (ga K d.x) && (oexB K (ga K d.x) && (eqO (PySem.W.findIn K (.ref (ga K d.x)) "__setattr__") (some (some (.builtin "object.__setattr__"))) &&
        (decide (PySem.W.subIn K (.ref (ga K d.x)) (.type "BaseException") = some true) && (decide (PySem.W.typeIn K (.ref (ga K d.x)) = some (.type "type")) && (PySem.W.keepIn K (.ref (ga K d.x)) && (decide (PySem.W.mroIn K (ga K d.x) (.ref (ga K d.x)) = some true) &&
        (decide (PySem.W.subIn K (.ref (ga K d.x)) (.type "ValueError") = some true) && (eqO (PySem.W.ks_superIn K (ga K d.x) (ga K d.x) "__init__") (some (some (.builtin "ValueError.__init__"))) && (eqO (PySem.W.nsIn K cStatics "thirdparty.any") (some none) &&
        (eqO (PySem.W.findIn K (.ref (ga K d.x)) "__init__") (some (some (.ref (inF K d.x)))) && (eqO (PySem.W.nsIn K mainGlobals d.x) (some (some (.ref (ga K d.x)))) && d.fs.all fun f => eqO (PySem.W.findIn K (.ref (ga K d.x)) f) (some none))))))))))))))
    | _, _ => false)
  | _ => false
abbrev AlZ : Type := AlT × List InW × Bool
def obsZ (file : Str) (n : Nat) (fa : List Fa) (fn : List DefD) (ts : List Tab) (ins : List InD) (ex : PySem.W.Frag → Bool) (g : Addr → Option Obj) : AlZ :=
  let K := frG g (asZ g n)
  (obsT fa fn ts K, ins.map fun d => inO K d.x, (ins.all fun d => initB file K d) && ex K)
def valZ (fn : List DefD) (ts : List Tab) (ins : List InD) (w : World) : AlZ := (valT fn ts w, ins.map InD.val, true)
structure SaysZ (file : Str) (fa : List Fa) (fn : List DefD) (ts : List Tab) (ins : List InD) (ex : PySem.W.Frag → Bool) (w : World) (K : PySem.W.Frag) : Prop where
  t : SaysT fa fn ts w K
  io : ins.map (fun d => inO K d.x) = ins.map InD.val
  ib : ∀ d ∈ ins, initB file K d = true
  more : ex K = true
def hookZ (file : Str) (n : Nat) (fa : List Fa) (fn : List DefD) (ts : List Tab) (ins : List InD) (ex : PySem.W.Frag → Bool) : PySem.W.Hook where
  α := AlZ
  obs := fun s => obsZ file n fa fn ts ins ex s.heap.get?
  val := fun w => valZ fn ts ins w
  says := fun w h => ∃ K : PySem.W.Frag, K.In h ∧ SaysZ file fa fn ts ins ex w K
  of := fun w s e => by
    have e1 := congrArg (fun z : AlZ => z.1) e
    have e2 := congrArg (fun z : AlZ => z.2.1) e
    have e3 := ba (congrArg (fun z : AlZ => z.2.2) e)
    exact ⟨frG s.heap.get? (asZ s.heap.get? n), frG_in, e1, e2, fun d hd => List.all_eq_true.mp e3.1 d hd, e3.2⟩
  keeps := fun _ _ _ ⟨K, hK, c⟩ k => ⟨K, PySem.W.Frag.In.keeps hK k, c⟩
theorem obsZ_eq {file : Str} {n : Nat} {fa : List Fa} {fn : List DefD} {ts : List Tab} {ins : List InD} {ex : PySem.W.Frag → Bool} {g : Addr → Option Obj} {s : Shared} (h : ∀ a, g a = s.heap.get? a) : obsZ file n fa fn ts ins ex g = (hookZ file n fa fn ts ins ex).obs s := by
  obtain rfl : g = s.heap.get? := funext h
  rfl
theorem SaysZ.fact {file : Str} {fa : List Fa} {fn : List DefD} {ts : List Tab} {ins : List InD} {ex : PySem.W.Frag → Bool} {w : World} {K : PySem.W.Frag} (c : SaysZ file fa fn ts ins ex w K) {f : Fa} (h : f ∈ fa) : f.ok K = true := by
  obtain ⟨i, hi, e⟩ := List.mem_iff_getElem.mp h
  exact c.t.d.fact i (by rw [List.getElem?_eq_getElem hi, e])

/-! ### an error with an __init__ -/
theorem oexB_ok {K : PySem.W.Frag} {C : Addr} (h : oexB K C = true) : ∃ nm q N bs bm sn sub ab col dd k0 k1 k2 k3 k5, K.lookup C = some (excClassObj nm q C N bs bm true sn sub ab col dd k0 k1 k2 k3 k5 "ValueError.__new__") ∧ PySem.HandSPX.refsVE bm = true := by
  unfold oexB at h
  split at h
  · rename_i dd cd sl ho
    split at h
    · rename_i C' bm k0 k1 k2 k3 n k5 hm hs
      simp only [Bool.and_eq_true, beq_iff_eq, Bool.not_eq_true'] at h
      obtain ⟨rfl, rfl, hdel, hdict, ht⟩ := h
      obtain ⟨nm, bs, mro, ns, qn, hd, sn, sub, ab, col, del⟩ := cd
      dsimp only at hm hdel hdict
      subst hm hdel hdict
      have es : sl = #[k0, k1, k2, k3, some (.builtin "ValueError.__new__"), k5] := by
        obtain ⟨l⟩ := sl
        simp only at hs
        rw [hs]
      subst es
      exact ⟨nm, qn, ns, bs, bm, sn, sub, ab, col, dd, k0, k1, k2, k3, k5, ho, ht⟩
    · cases h
  · cases h
/-- what is known of such a class -/
structure ExcI (P : Program) (K : PySem.W.Frag) (mg : Str → Option Value) (d : InD) : Prop where
  ex : ∃ (C f cda cc : Addr) (fd : FuncData) (oc : Value) (od : Option Addr) (doc pm ct : Value) (an : Option Addr) (osl : Array (Option Value)),
    fd = PySem.W.ksFn "__init__" (inQ d.x) d.params d.body d.scope .none .none doc pm an (.ref cda) ct cc ∧ K.lookup f = some ⟨oc, od, .func fd, osl⟩ ∧ PySem.W.codeIn K (.ref cda) (inQ d.x) = true ∧ InFacts P K mg C cda cc ∧
    mg d.x = some (.ref C) ∧ PySem.W.findIn K (.ref C) "__init__" = some (some (.ref f)) ∧ PySem.W.typeIn K (.ref f) = some (.type "function") ∧ (∀ g ∈ d.fs, PySem.W.findIn K (.ref C) g = some none) ∧ C = ga K d.x
theorem excI_of {file : Str} {fa : List Fa} {fn : List DefD} {ts : List Tab} {ins : List InD} {ex : PySem.W.Frag → Bool} {w : World} {P : Program} {K : PySem.W.Frag} {mg : Str → Option Value} {h : Heap} {d : InD} (c : SaysZ file fa fn ts ins ex w K) (X : K.In h) (G : h.Ns mainGlobals mg)
    (hf : (P.main.file : Str) = file) (hs : mg "super" = none) (ht : (P.main.scope.names.lookup ("super" : Str)).isSome = false) (i : Nat) (hi : ins[i]? = some d) : ExcI P K mg d := by
  have b := c.ib d (List.mem_of_getElem? hi)
  have o : (ins.map fun d => inO K d.x)[i]? = (ins.map InD.val)[i]? := by rw [c.io]
  rw [List.getElem?_map, List.getElem?_map, hi] at o
  have o : inO K d.x = d.val := Option.some.inj o
  unfold initB at b
  unfold inO at o
  split at b
  · rename_i od fd osl lk
    rw [lk] at o
    split at b
    · rename_i cda nn cc hcode hclo
      simp only [Bool.and_eq_true, decide_eq_true_eq, List.all_eq_true] at b
      obtain ⟨b1, b2, b3, b4, b5, b6, b7, b8, b9, b10, b11, b12, b13, b14, b15⟩ := b
      obtain ⟨n1, n2, n3, n4, n5, n6, n7, n8, n9, n10, n11, n12, n13, n14, n15⟩ := fd
      dsimp only at hcode hclo b1
      have o : (some (n1, n2, n3, n4, n5, n6, n15, n8, n9, n7.map (·.1)) : InW) = d.val := o
      unfold InD.val at o
      simp only [Option.some.injEq, Prod.mk.injEq] at o
      obtain ⟨e1, e2, e3, e4, e5, e6, e7, e8, e9, e10⟩ := o
      subst hclo
      have e10 : [nn] = [PySem.Str.ofString "__class__"] := e10
      obtain rfl : nn = PySem.Str.ofString "__class__" := by simpa using e10
      subst e1 e2 e3 e4 e5 e6 e7 e8 e9 hcode
      have c2 : ∃ ccl cdd vs ccs fl tf, K.lookup cda = some ⟨ccl, cdd, .fields vs, ccs⟩ ∧ vs[2]? = some (.str fl tf) ∧ ((P.main.file : Str) == fl) = true := by
        unfold codeB at b2
        split at b2
        · rename_i q1 q2 vs q3 lk2
          split at b2
          · rename_i fl tf q
            exact ⟨_, _, vs, _, fl, tf, lk2, q, by rw [hf]; exact b2⟩
          · cases b2
        · cases b2
      have c3 : ∃ cl cld csl, K.lookup cc = some ⟨cl, cld, .cell (some (.ref (ga K d.x))), csl⟩ := by
        unfold cellB at b3
        split at b3
        · rename_i q1 q2 D q3 lk3
          obtain rfl := beq_iff_eq.mp b3
          exact ⟨_, _, _, lk3⟩
        · cases b3
      refine ⟨ga K d.x, inF K d.x, cda, cc, _, _, od, n10, n11, n14, n12, osl, rfl, lk, b1, ⟨⟨oexB_ok b4, eqO_ok b5, b6, b7, b8⟩, c2, c3, b9, b10, eqO_ok b11, eqO_ok b12, hs, ht⟩, PySem.W.mg_of X G (eqO_ok b14), eqO_ok b13, ?_, fun g hg => eqO_ok (b15 g hg), rfl⟩
      show (K.lookup (inF K d.x)).map (·.cls) = _
      rw [lk]
      rfl
    · cases b
  · cases b
end DL

/-! DL13: errors raised. -/
namespace DL
open PySem PySem.Spec PyProof.Rows L2

def spInit (C : Addr) (fs : List Str) : Sp := fun vs H Q _ => ∃ a ys, vs = .ref a :: ys ∧ ys.length = fs.length ∧ H a = some (exo a C none) ∧
  ∀ dx, H dx = none → dx ≠ a → Q .non (upd (upd H dx (exd dx (fs.zip ys).reverse)) a (exo a C (some dx)))
abbrev setF (f p : Str) (a b c d : Pos) : Stmt := .Assign [.Attribute (.Name "self" a) f b] (.Name p c) d
theorem upd_swap {H : Hp} {a b : Addr} {o u : HO} (h : a ≠ b) : upd (upd H a o) b u = upd (upd H b u) a o := by
  funext c
  by_cases h1 : c = a
  · subst h1
    rw [upd_ne h, upd_same, upd_same]
  · by_cases h2 : c = b
    · subst h2
      rw [upd_same, upd_ne h1, upd_same]
    · rw [upd_ne h2, upd_ne h1, upd_ne h1, upd_ne h2]
/-- how its arguments are bound (rfl where the parameters are known) -/
def InBind (d : InD) (ps : List Str) : Prop := ∀ (body : List Stmt) (doc pm ct : Value) (an : Option Addr) (cda cc : Addr) (us : List Value), us.length = ps.length → bindArgs (PySem.W.ksFn "__init__" (inQ d.x) d.params body d.scope .none .none doc pm an (.ref cda) ct cc) ⟨us, []⟩ = pure (ps.zip us)
def InBindK (d : InD) (ps fs : List Str) : Prop := ∀ (body : List Stmt) (doc pm ct : Value) (an : Option Addr) (cda cc : Addr) (u0 : Value) (us : List Value), us.length = fs.length → bindArgs (PySem.W.ksFn "__init__" (inQ d.x) d.params body d.scope .none .none doc pm an (.ref cda) ct cc) ⟨[u0], fs.zip us⟩ = pure (ps.zip (u0 :: us))
/-- what a raise of such a class leans on -/
structure RaiseG (P : Program) (w : World) (K : PySem.W.Frag) (mg : Str → Option Value) (base : Heap) (x : Str) (fs : List Str) : Prop where
  ex : ∃ (C fI : Addr) (fd : FuncData) (ps : List Str), mg x = some (.ref C) ∧ OexC K C ∧ PySem.W.findIn K (.ref C) "__init__" = some (some (.ref fI)) ∧ PySem.W.typeIn K (.ref fI) = some (.type "function") ∧
    FnOk P w K mg base (L2.CX P w) 1 fI fd ps (spInit C fs) ∧ Binds K fd ps [] ∧ C = He.ga K x ∧ ∀ (s : Shared) (u0 : Value) (us : List Value), us.length = fs.length → BindsTo s fd ⟨[u0], fs.zip us⟩ (ps.zip (u0 :: us))
section
variable {P : Program} {w : World} {K : PySem.W.Frag} {mg : Str → Option Value} {base : Heap}
theorem init1 {d : InD} {p f : Str} {p0 p1 p2 p3 p4 p5 a1 b1 a b c e : Pos} {m : Str} {j : Nat} (Ei : ExcI P K mg d) (hp : d.params = ⟨[], [⟨"self", none, a1⟩, ⟨p, none, b1⟩], none, [], [], none, []⟩) (hb : d.body = [.Expr (supCall p0 p1 p2 p3 p4 m j) p5, setF f p a b c e])
    (hev : SupEv p0 p1 p2 p3 p4 m j) (S : InScope ["self", p] d.scope) (hf : d.fs = [f]) (hpd : (p == ("__debug__" : Str)) = false) (hpc : (p == ("__classdict__" : Str)) = false) (hbd : InBind d ["self", p]) (hbk : InBindK d ["self", p] [f]) : RaiseG P w K mg base d.x [f] := by
  unfold InBind at hbd
  unfold InBindK at hbk
  rw [hp] at hbd hbk
  obtain ⟨C, fI, cda, cc, fd, oc, od, doc, pm, ct, an, osl, rfl, lk, hcd, Fx, hm, iC, tI, no, eC⟩ := Ei.ex
  rw [hp, hb] at lk
  refine ⟨C, fI, _, _, hm, Fx.oex, iC, tI, init_ok (k := 0) lk hcd S Fx hev rfl rfl (fun vs H Q E h => ?_) (fun vs H Q E h => ?_) fun A outer s H vs Q E h => ?_, .all fun us hl => hbd _ _ _ _ _ _ _ us hl, eC, fun s u0 us hl => .of_eq (hbk _ _ _ _ _ _ _ u0 us hl)⟩
  · obtain ⟨a, ys, rfl, hl, _⟩ := h
    simpa using hl
  · obtain ⟨a, ys, rfl, _, ea, _⟩ := h
    exact ⟨a, ys, rfl, ea⟩
  · obtain ⟨a, ys, rfl, hl, ea, q⟩ := h
    match ys, hl with
    | [y], _ =>
      refine ⟨_, pss_one (ps_ost (pe_var (i := 0) rfl (.inl (S.par _ (by simp))) (by decide) (by decide)) (pe_var (i := 1) rfl (.inl (S.par _ (by simp))) hpd hpc)), y, rfl, .ref a, rfl, a, C, rfl, Fx.oex, no f (by rw [hf]; simp), .inl ⟨ea, fun dx h1 h2 => q dx h1 h2⟩⟩
theorem init2 {d : InD} {p f p' f' : Str} {p0 p1 p2 p3 p4 p5 a1 b1 c1 a b c e a' b' c' e' : Pos} {m : Str} {j : Nat} (Ei : ExcI P K mg d) (hp : d.params = ⟨[], [⟨"self", none, a1⟩, ⟨p, none, b1⟩, ⟨p', none, c1⟩], none, [], [], none, []⟩)
    (hb : d.body = [.Expr (supCall p0 p1 p2 p3 p4 m j) p5, setF f p a b c e, setF f' p' a' b' c' e'])
    (hev : SupEv p0 p1 p2 p3 p4 m j) (S : InScope ["self", p, p'] d.scope) (hf : d.fs = [f, f']) (hpd : (p == ("__debug__" : Str)) = false) (hpc : (p == ("__classdict__" : Str)) = false) (hpd' : (p' == ("__debug__" : Str)) = false) (hpc' : (p' == ("__classdict__" : Str)) = false) (hbd : InBind d ["self", p, p']) (hbk : InBindK d ["self", p, p'] [f, f']) : RaiseG P w K mg base d.x [f, f'] := by
  unfold InBind at hbd
  unfold InBindK at hbk
  rw [hp] at hbd hbk
  obtain ⟨C, fI, cda, cc, fd, oc, od, doc, pm, ct, an, osl, rfl, lk, hcd, Fx, hm, iC, tI, no, eC⟩ := Ei.ex
  rw [hp, hb] at lk
  refine ⟨C, fI, _, _, hm, Fx.oex, iC, tI, init_ok (k := 0) lk hcd S Fx hev rfl rfl (fun vs H Q E h => ?_) (fun vs H Q E h => ?_) fun A outer s H vs Q E h => ?_, .all fun us hl => hbd _ _ _ _ _ _ _ us hl, eC, fun s u0 us hl => .of_eq (hbk _ _ _ _ _ _ _ u0 us hl)⟩
  · obtain ⟨a, ys, rfl, hl, _⟩ := h
    simpa using hl
  · obtain ⟨a, ys, rfl, _, ea, _⟩ := h
    exact ⟨a, ys, rfl, ea⟩
  · obtain ⟨a, ys, rfl, hl, ea, q⟩ := h
    match ys, hl with
    | [y, z], _ =>
      refine ⟨_, pss_cons (ps_ost (pe_var (i := 0) rfl (.inl (S.par _ (by simp))) (by decide) (by decide)) (pe_var (i := 1) rfl (.inl (S.par _ (by simp))) hpd hpc)) (pss_one (ps_ost (pe_var (i := 0) rfl (.inl (S.par _ (by simp))) (by decide) (by decide)) (pe_var (i := 2) rfl (.inl (S.par _ (by simp))) hpd' hpc'))),
        y, rfl, .ref a, rfl, a, C, rfl, Fx.oex, no f (by rw [hf]; simp), .inl ⟨ea, fun dx h1 h2 => ?_⟩⟩
      refine ⟨z, rfl, .ref a, rfl, a, C, rfl, Fx.oex, no f' (by rw [hf]; simp), .inr ⟨dx, [(f, y)], upd_same, by rw [upd_ne h2, upd_same], by simp, ?_⟩⟩
      have := q dx h1 h2
      rw [upd_swap (Ne.symm h2), upd_upd]
      exact this
end

/-! ### raise C(e, ..) -/
def sRaise (x : Str) (fs : List Str) (a : AV) : SV := fun sl st => (a sl st).thn sl fun ws st1 => if ws.length = fs.length ∧ fs.length ≤ 1000 then match frzs (frz 4) ws st1 with
  | some (xs, st2) => .ex ⟨x, fs.zip xs⟩ sl st2
  | none => .bad
  else .bad
theorem lookup_zip {K : PySem.W.Frag} {Z : Hp} {f : Str} {x : PyData} : ∀ {fs : List Str} {vs : List V} {xs : List PyData}, RpAll K Z vs xs → (fs.zip xs).lookup f = some x → ∃ v, (fs.zip vs).lookup f = some v ∧ Rp K Z v x
  | [], _, _, _, h => by simp at h
  | _ :: _, _, _, .nil, h => by simp at h
  | g :: fs, _, _, .cons r t, h => by
    rw [List.zip_cons_cons, List.lookup_cons] at h ⊢
    cases q : (f == g) with
    | true => rw [q] at h; cases h; exact ⟨_, rfl, r⟩
    | false => rw [q] at h; exact lookup_zip t h
theorem lookup_rev {α : Type} {f : Str} : ∀ {l : List (Str × α)}, (l.map (·.1)).Nodup → l.reverse.lookup f = l.lookup f
  | [], _ => rfl
  | (g, y) :: l, h => by
    have h := List.nodup_cons.mp (by simpa using h : (g :: l.map (·.1)).Nodup)
    rw [List.reverse_cons, List.lookup_append, lookup_rev h.2, List.lookup_cons, List.lookup_cons]
    cases q : (f == g) with
    | true =>
      have e : f = g := beq_iff_eq.mp q
      subst e
      have z : l.lookup f = none := by
        rw [List.lookup_eq_none_iff]
        intro p hp
        simp only [bne_iff_ne, ne_eq]
        rintro rfl
        exact h.1 (List.mem_map_of_mem hp)
      rw [z]; rfl
    | false =>
      cases l.lookup f <;> rfl
section
variable {X : Cx} {Wx : WX} {k : Nat} {x : Str} {fs : List Str} {p pos pos' : Pos} {e : Expr} {es : List Expr} {a : AV}
theorem sv_raise (R : RaiseG X.prog X.w X.K X.mg X.base x fs) (hfs : fs.Nodup) (hr : GR 2 X.A) (hc : X.calm = true) (tk : Takes X Wx) (ha : Av X Wx (e :: es) a) (hg : Gl X x := by rfl) (hdb : (x == ("__debug__" : Str)) = false := by decide)
    (he : starEach (e :: es) X.env = (false, eval e X.env) :: starEach es X.env := by rfl) (hpl : (backTo pos (starEach es X.env)).any (·.1) = false := by rfl) :
    Sv X Wx (.Raise (some (.Call (.Name x p) (e :: es) [] pos)) none pos') (sRaise x fs a) := by
  obtain ⟨C, fI, fd, ps, hm, T, iC, tI, F1, hb, _⟩ := R.ex
  refine .of (ps_raise hc tk (pmk_oex T iC tI F1 hr.rm hb .nil (passes_call tk fun _ _ _ _ z => z.elim) hg hm ha.pa hdb he hpl)) fun D σ H h => ?_
  obtain ⟨Z, al, sl, st, rs, rl, q⟩ := h
  refine tA.mk rs rl (Post.seqS rs q fun Z1 al1 H1 st1 ws vs e1 rl1 r1 q1 => ?_)
  split at q1
  · rename_i hl
    cases z : frzs (frz 4) ws st1 with
    | none => rw [z] at q1; exact q1.elim
    | some y =>
      obtain ⟨xs, st2⟩ := y
      rw [z] at q1
      obtain ⟨Z2, e2, rl2, r2⟩ := frzs_ok (fun rl r e => frz_ok 4 rl r e) rl1 r1 z
      have hlv : vs.length = fs.length := by rw [r1.length]; exact hl.1
      refine ⟨by omega, fun b hb => ⟨b, vs ++ [], rfl, by simpa using hlv, upd_same, fun dx h1 h2 => ?_⟩⟩
      have hdx : H1 dx = none := by rw [upd_ne h2] at h1; exact h1
      refine ⟨rfl, dx, (fs.zip vs).reverse, upd_same, ?_, hdx, ?_⟩
      · rw [upd_ne h2, upd_same, List.append_nil]
      · have eH : upd (del (upd (upd (upd H1 b (exo b C none)) dx (exd dx (fs.zip (vs ++ [])).reverse)) b (exo b C (some dx))) b) dx (.xd (fs.zip vs).reverse) = upd H1 dx (.xd (fs.zip vs).reverse) := by
          funext c
          by_cases c1 : c = dx
          · subst c1; rw [upd_same, upd_same]
          · rw [upd_ne c1, upd_ne c1]
            by_cases c2 : c = b
            · subst c2; rw [del_same, hb]
            · rw [del_ne c2, upd_ne c2, upd_ne c1, upd_ne c2]
        rw [eH]
        obtain ⟨rl3, e3⟩ := rl2.beside hdx (.xd (fs.zip vs).reverse)
        refine q1 Z2 al1 _ σ (.ref C) (some dx) (e2.trans e3) rl3 (((rs.ext e1).ext e2).ext e3) ⟨C, hm, rfl, fun f x hx => ?_⟩
        obtain ⟨v, lv, rv⟩ := lookup_zip r2 hx
        refine ⟨dx, _, v, rfl, upd_same, ?_, rv⟩
        rw [lookup_rev, lv]
        rw [List.map_fst_zip]
        · exact hfs
        · omega
  · exact q1.elim
end
end DL

/-! DL14: errors made as values: by place, by keywords; isinstance, fields. -/
namespace PySem
namespace DLK
open PySem PySem.Spec PyProof.Rows PySem.HandSPX
section
variable {M : Model} {A : Around} {E : Value → Shared → Prop} {h : Heap} {g : Array GenState} {d : Drawn} {t : Nat} {os : OsState}
variable {nm q : Str} {C N : Addr} {bs bm bmB : List Value} {hdct : Bool} {sn : List Str} {sub : List Value} {ab : Bool} {col : Option Bool} {dd : Option Addr} {k0 k1 k2 k3 k5 : Option Value} {B newId initId : String} {kw : List (Str × Value)}
theorem check_newK (F : ExcBaseFacts B newId initId bmB) (hT : ∀ X : String, bm.contains (.type X) = bmB.contains (.type X)) {us : List Value} {Q : Unit → Shared → Prop}
    (cl : h.get? C = some (excClassObj nm q C N bs bm hdct sn sub ab col dd k0 k1 k2 k3 k5 newId)) (hq : Q () ⟨h, g, d, t, os⟩) : wpAny M A (checkBuiltinCall newId ⟨.ref C :: us, kw⟩) Q E ⟨h, g, d, t, os⟩ := by
  have inB : (Value.ref C :: bm).contains (.type B) = true := by rw [List.contains_cons, hT, F.hasB, Bool.or_true]
  have star := F.noStar
  simp only [checkBuiltinCall, F.newKind, F.newSplit, F.newRow]
  repeat (first | refine wpAny_loadPart_at cl ?_ | (refine wpAny_isSubtype_exc cl ?_; rw [inB]) | refine wpAny_staticBase_exc cl ?_ | refine wpAny_madeBy_exc cl ?_ | simp only [bne_self_eq_false, Bool.false_eq_true, if_false] | wp_step)
  exact hq
end
section
variable {prog : Program} {w : World} {A : Around} {E : Value → Shared → Prop} {R : Result → Shared → Prop} {h : Heap} {g : Array GenState} {d : Drawn} {t : Nat} {os : OsState}
variable {nm q : Str} {C N : Addr} {bs bm bmB : List Value} {hdct : Bool} {sn : List Str} {sub : List Value} {ab : Bool} {col : Option Bool} {dd : Option Addr} {k0 k1 k2 k3 k5 : Option Value} {B newId initId : String} {kw : List (Str × Value)}
theorem newK (F : ExcBaseFacts B newId initId bmB) (hT : ∀ X : String, bm.contains (.type X) = bmB.contains (.type X)) {us : List Value}
    (cl : h.get? C = some (excClassObj nm q C N bs bm hdct sn sub ab col dd k0 k1 k2 k3 k5 newId))
    (hq : R (.ok (.ret (.ref (h.objs.size + 1)))) ⟨(h.push (W.kdv_tup us)).push (excO C h.objs.size), g, d, t, os⟩) (hz : us.length ≤ sizeLine) :
    codeAny (model prog w) A (.builtin newId ⟨.ref C :: us, kw⟩) R ⟨h, g, d, t, os⟩ := by
  have ends := F.ends
  have inB : (Value.ref C :: bm).contains (.type B) = true := by rw [List.contains_cons, hT, F.hasB, Bool.or_true]
  have noA : (Value.ref C :: bm).contains (.type "AttributeError") = false := by rw [List.contains_cons, hT, F.noAttr]; rfl
  have noN : (Value.ref C :: bm).contains (.type "NameError") = false := by rw [List.contains_cons, hT, F.noName]; rfl
  refine codeAny_builtinAt F.entry ?_
  unfold Builtin.«BaseException.__new__»
  refine wpAt_bind (show wpAt _ _ _ (stack >>= _) _ _ _ from wpAt_bind (wpAt_stack fun p below => wpAt_of_wpAny ?_))
  wp_walk
  refine wpAt_of_wpAny ?_
  rw [F.owner]
  repeat (first | with_reducible refine wpAny_madeHere_exc F.canon cl ?_ | with_reducible refine wpAny_loadPart_at cl ?_ | (with_reducible refine wpAny_isSubtype_exc cl ?_; first | rw [inB] | rw [noA] | rw [noN]) | wp_step)
  show R _ _
  rw [Heap.size_push]
  exact hq
theorem type_callK (F : ExcBaseFacts B newId initId bmB) (hT : ∀ X : String, bm.contains (.type X) = bmB.contains (.type X)) {us : List Value} {fI : Addr} {Q : Fin → Shared → Prop}
    (cl : h.get? C = some (excClassObj nm q C N bs bm hdct sn sub ab col dd k0 k1 k2 k3 k5 newId))
    (li : W.Looks (model prog w) h (typeLookup (.ref C) "__init__") (some (.ref fI))) (lb : ∀ self, W.Looks (model prog w) h (bindSpecial (.ref fI) self) (.ref fI, [self])) (hz : us.length ≤ sizeLine)
    (hq : codeAny (model prog w) A (.call (.ref fI) ⟨.ref (h.objs.size + 1) :: us, kw⟩) (fun r s' => match r with
      | .ok (.ret v) => v = .none ∧ Q (.done (.ret (.ref (h.objs.size + 1)))) s'
      | .ok _ => False
      | .error e => E e s') ⟨(h.push (W.kdv_tup us)).push (excO C h.objs.size), g, d, t, os⟩) :
    wpAny (model prog w) A (Builtin.«type.__call__» ⟨.ref C :: us, kw⟩) Q E ⟨h, g, d, t, os⟩ := by
  repeat (first | with_reducible refine wpAny_loadPart_at cl ?_ | with_reducible refine wpAny_madeBy_exc cl ?_ | wp_step)
  refine codeAny_call_builtin_code (Code.quiet_builtin _ F.quiet) (check_newK F hT cl (newK F hT cl ?_ hz))
  show wpAny _ _ _ _ _ _
  have kp : ∀ b o, h.get? b = some o → ((h.push (W.kdv_tup us)).push (excO C h.objs.size)).get? b = some o := fun b o z => Heap.get?_push_of_some _ (Heap.get?_push_of_some _ z)
  have cl1 := kp _ _ cl
  have here : ((h.push (W.kdv_tup us)).push (excO C h.objs.size)).get? (h.objs.size + 1) = some (excO C h.objs.size) := by heap_get
  have self : (Value.ref C :: bm).contains (.ref C) = true := by simp
  have li1 := li.keeps kp
  have lb1 := (lb (.ref (h.objs.size + 1))).keeps kp
  unfold isInstance
  repeat (first | with_reducible refine wpAny_loadPart_at here ?_ | (with_reducible refine wpAny_isSubtype_exc cl1 ?_; rw [self]) | wp_step)
  show wpAny _ _ (typeLookup (.ref C) _) _ _ _
  refine li1.at (wpAny_holding (wpAny_bind (lb1.at (wpAny_bind (wpAny_call (codeAny_mono hq fun r s' z => ?_))))))
  rcases r with e | (v | _ | _ | _) <;> first | exact z | exact z.elim | skip
  obtain ⟨rfl, z⟩ := z
  first
    | exact wpAny_pure (wpAny_pure z)
    | (wp_walk; exact z)
theorem call_ownK (F : ExcBaseFacts B newId initId bmB) (hT : ∀ X : String, bm.contains (.type X) = bmB.contains (.type X)) {us : List Value} {fI : Addr} (cl : h.get? C = some (excClassObj nm q C N bs bm hdct sn sub ab col dd k0 k1 k2 k3 k5 newId))
    (li : W.Looks (model prog w) h (typeLookup (.ref C) "__init__") (some (.ref fI))) (lb : ∀ self, W.Looks (model prog w) h (bindSpecial (.ref fI) self) (.ref fI, [self])) (hz : us.length ≤ sizeLine)
    (hq : codeAny (model prog w) (A.under (.builtin "type.__call__" ⟨.ref C :: us, kw⟩)) (.call (.ref fI) ⟨.ref (h.objs.size + 1) :: us, kw⟩) (W.InitBack (h.objs.size + 1) R) ⟨(h.push (W.kdv_tup us)).push (excO C h.objs.size), g, d, t, os⟩) :
    codeAny (model prog w) A (.call (.ref C) ⟨us, kw⟩) R ⟨h, g, d, t, os⟩ := by
  have f1 := tc_lookup
  have f2 := tc_bind (.ref C)
  have isT : (⟨h, g, d, t, os⟩ : Shared).TypeIs (.ref C) "type" := ⟨_, cl, rfl⟩
  refine codeAny_of_tree (show wpAny _ _ (callAny (.ref C) _) _ _ _ from ?_)
  repeat (any_goals (first | assumption | with_reducible refine wpAny_loadPart_at cl ?_ | wp_step))
  refine ⟨rfl, codeAny_call_builtin_at (Code.quiet_builtin _ (by decide +kernel)) entry_typeCall (wpAny_check_type_call_sub cl (type_callK F hT cl li lb hz (codeAny_mono hq fun r s' z => ?_)))⟩
  rcases r with e | (v | _ | _ | _) <;> exact z
end
end DLK
end PySem

namespace DL
open PySem PySem.Spec PyProof.Rows L2
section
variable {X : Cx} {Wx : WX} {pins : List (Addr × Obj)} {σ : L2.St} {H : Hp} {s : Shared} {Q : VK}
/-- C(..), its own __init__ keeping spInit -/
theorem run_mkX {C fI : Addr} {fd : FuncData} {ps fs : List Str} {us : List Value} {kw : List (Str × Value)} {bound : List Value} {vs : List V} (T : OexC X.K C) (iC : PySem.W.findIn X.K (.ref C) "__init__" = some (some (.ref fI))) (tI : PySem.W.typeIn X.K (.ref fI) = some (.type "function"))
    (F1 : FnOk X.prog X.w X.K X.mg X.base (L2.CX X.prog X.w) 1 fI fd ps (spInit C fs)) (hr : Room 2 X.A) (hb : ∀ (s : Shared) (u : Value), X.K.In s.heap → BindsTo s fd ⟨u :: us, kw⟩ (ps.zip (u :: bound))) (tk : Takes X Wx) (I : Inv X pins σ H s) (r : Vals vs bound) (hl : vs.length = fs.length) (hz : us.length ≤ sizeLine)
    (h : ∀ a dx, H a = none → H dx = none → dx ≠ a → Q (.ref a) (upd (upd H dx (exd dx (fs.zip vs).reverse)) a (exo a C (some dx)))) : wpAny (model X.prog X.w) X.A (call (.ref C) us kw) (EP X pins σ Q) X.xe s := by
  obtain ⟨nm, q, N, bs, bm, sn, sub, ab, col, dd, k0, k1, k2, k3, k5, hC, hbm⟩ := T.cls
  obtain ⟨hp, g, dr, t, os⟩ := s
  have up : ∀ b o, hp.get? b = some o → ((hp.push (PySem.W.kdv_tup us)).push (PySem.HandSPX.excO C hp.objs.size)).get? b = some o := fun b o e => Heap.get?_push_of_some _ (Heap.get?_push_of_some _ e)
  have here : ((hp.push (PySem.W.kdv_tup us)).push (PySem.HandSPX.excO C hp.objs.size)).get? (hp.objs.size + 1) = some (PySem.HandSPX.excO C hp.objs.size) := by heap_get
  have nA : H (hp.objs.size + 1) = none := I.hok.fresh (Nat.le_succ _)
  have I2 := I.laid (t' := t) (a := hp.objs.size + 1) (o := exo (hp.objs.size + 1) C none) up (Nat.le_succ _) (exo_ok here)
  have sp : spInit C fs (.ref (hp.objs.size + 1) :: vs) (upd H (hp.objs.size + 1) (exo (hp.objs.size + 1) C none)) (fun v H2 => v = .non ∧ Q (.ref (hp.objs.size + 1)) H2) (fun _ _ _ => False) := by
    refine ⟨_, vs, rfl, hl, upd_same, fun dx h1 h2 => ⟨rfl, ?_⟩⟩
    have hdx : H dx = none := by rw [upd_ne h2] at h1; exact h1
    have e : upd (upd (upd H (hp.objs.size + 1) (exo (hp.objs.size + 1) C none)) dx (exd dx (fs.zip vs).reverse)) (hp.objs.size + 1) (exo (hp.objs.size + 1) C (some dx)) = upd (upd H dx (exd dx (fs.zip vs).reverse)) (hp.objs.size + 1) (exo (hp.objs.size + 1) C (some dx)) := by
      rw [upd_swap (Ne.symm h2), upd_upd]
    rw [e]
    exact h _ dx nA hdx h2
  refine wpAny_call (PySem.DLK.call_ownK F.excBase_ValueError (fun Y => PySem.HandSPX.refsVE_contains Y bm hbm) (I.kIn _ _ hC) (PySem.W.looks_findIn I.kIn iC) (fun self => PySem.W.bind_fn I.kIn self tI) hz
    (codeAny_mono (F1.run _ X.stack _ _ ⟨.ref (hp.objs.size + 1) :: us, kw⟩ (.ref (hp.objs.size + 1) :: bound) _ _ _ (hr.make C us kw) (I2.env0.make C us kw) (hb _ _ I2.kIn) (.cons (show RelV (V.ref (hp.objs.size + 1)) (Value.ref (hp.objs.size + 1)) from rfl) r) sp) fun res s' q => ?_))
  match res, q with
  | .error u, q => exact passes_call tk (fun _ _ _ _ z => z.elim) pins σ _ _ u s' I2 q
  | .ok (.ret u), q =>
    obtain ⟨v, H2, I3, rv, ev, q3⟩ := I2.after q
    subst ev
    exact ⟨rv, .ref (hp.objs.size + 1), H2, I3, rfl, q3⟩
/-- C(..), the built-in __init__ -/
theorem run_mkX0 {C : Addr} {us : List Value} (hC : ∃ nm q N bs bm sn sub ab col dd k0 k1 k2 k3 k5, X.K.lookup C = some (excClassObj nm q C N bs bm true sn sub ab col dd k0 k1 k2 k3 k5 "ValueError.__new__") ∧ PySem.HandSPX.refsVE bm = true)
    (iC : PySem.W.findIn X.K (.ref C) "__init__" = some (some (.builtin "ValueError.__init__"))) (I : Inv X pins σ H s) (hz : us.length ≤ sizeLine) (h : ∀ a, H a = none → Q (.ref a) (upd H a (exo a C none))) :
    wpAny (model X.prog X.w) X.A (call (.ref C) us) (EP X pins σ Q) X.xe s := by
  obtain ⟨nm, q, N, bs, bm, sn, sub, ab, col, dd, k0, k1, k2, k3, k5, hC, hbm⟩ := hC
  obtain ⟨hp, g, dr, t, os⟩ := s
  refine PySem.W.call_B F.excBase_ValueError (fun Y => PySem.HandSPX.refsVE_contains Y bm hbm) (I.kIn _ _ hC) (PySem.W.looks_findIn I.kIn iC) hz fun h' up he ht => ?_
  exact ⟨.ref (hp.objs.size + 1), _, I.laid (t' := t) (a := hp.objs.size + 1) (o := exo (hp.objs.size + 1) C none) up (Nat.le_succ _) (exo_ok he), rfl, h _ (I.hok.fresh (Nat.le_succ _))⟩
end
end DL

/-! DL15: errors as values, the rules. -/
namespace DL
open PySem PySem.Spec PyProof.Rows L2

/-! ### what is known of a class of errors -/
structure XcK (K : PySem.W.Frag) (C : Addr) : Prop where
  cl : (PySem.W.clsIn K C).isSome = true
  ga : PySem.W.findIn K (.ref C) "__getattribute__" = some (some (.builtin "BaseException.__getattribute__"))
  gg : PySem.W.findIn K (.ref C) "__getattr__" = some none
  ex : PySem.W.subIn K (.ref C) (.type "BaseException") = some true
  hd : PySem.W.hasDictIn K C = true
  ha : PySem.W.findIn K (.ref C) "__class__" = some (some (.builtin "object.__class__"))
  hn : PySem.W.specialIn K (.builtin "object.__class__") "__get__" = some (some (.builtin "getset_descriptor.__get__"))
  ht : PySem.W.takesIn K (.builtin "object.__class__") = some true
  hm : PySem.W.mroIn K C (.type "object") = some true
def xcB (K : PySem.W.Frag) (C : Addr) : Bool := (PySem.W.clsIn K C).isSome && (He.eqO (PySem.W.findIn K (.ref C) "__getattribute__") (some (some (.builtin "BaseException.__getattribute__"))) && (He.eqO (PySem.W.findIn K (.ref C) "__getattr__") (some none) &&
  (decide (PySem.W.subIn K (.ref C) (.type "BaseException") = some true) && (PySem.W.hasDictIn K C && (He.eqO (PySem.W.findIn K (.ref C) "__class__") (some (some (.builtin "object.__class__"))) && (He.eqO (PySem.W.specialIn K (.builtin "object.__class__") "__get__") (some (some (.builtin "getset_descriptor.__get__"))) &&
  (decide (PySem.W.takesIn K (.builtin "object.__class__") = some true) && decide (PySem.W.mroIn K C (.type "object") = some true))))))))
theorem xcB_ok {K : PySem.W.Frag} {C : Addr} (h : xcB K C = true) : XcK K C := by
  unfold xcB at h
  simp only [Bool.and_eq_true, decide_eq_true_eq] at h
  obtain ⟨h1, h2, h3, h4, h5, h6, h7, h8, h9⟩ := h
  exact ⟨h1, He.eqO_ok h2, He.eqO_ok h3, h4, h5, He.eqO_ok h6, He.eqO_ok h7, h8, h9⟩
/-- a class without an __init__ of its own -/
def plB (K : PySem.W.Frag) (x : Str) : Bool := oexB K (He.ga K x) && (He.eqO (PySem.W.findIn K (.ref (He.ga K x)) "__init__") (some (some (.builtin "ValueError.__init__"))) && (PySem.W.keepIn K (.ref (He.ga K x)) && He.eqO (PySem.W.nsIn K mainGlobals x) (some (some (.ref (He.ga K x))))))
/-- isinstance of an error of the class x, asked for the class y -/
def kiB (K : PySem.W.Frag) (x y : Str) (b : Bool) : Bool := decide (PySem.W.kitOne K (.ref (He.ga K x)) (.ref (He.ga K y)) = some b)
def kiT (K : PySem.W.Frag) (x : Str) (T : String) (b : Bool) : Bool := decide (PySem.W.kitOne K (.ref (He.ga K x)) (.type T) = some b)

def eMkX (x : Str) (fs : List Str) (a : AV) : EV := fun sl st => (a sl st).bind fun ws st1 => if ws.length = fs.length ∧ fs.length ≤ 1000 then match frzs (frz 4) ws st1 with
  | some (xs, st2) => .ok (.x ⟨x, fs.zip xs⟩) st2
  | none => .bad
  else .bad
def eMkX0 (x : Str) (a : AV) : EV := fun sl st => (a sl st).bind fun ws st1 => if ws.length ≤ 1000 then .ok (.x ⟨x, []⟩) st1 else .bad
section
variable {X : Cx} {Wx : WX} {x : Str} {fs : List Str} {p pos : Pos} {e : Expr} {es : List Expr} {a : AV}
/-- an error laid down, with its dict -/
theorem mkX_end {Z : Hp} {al : List Addr} {H : Hp} {σ : L2.St} {st st2 : Store} {vs : List V} {ws : List W} {xs : List PyData} {Q : VK} {C : Addr} (eC : C = He.ga X.K x) (hfs : fs.Nodup) (rl : Rel X.K Z al H st) (r : RWs X.K Z al vs ws) (hl : ws.length = fs.length) (z : frzs (frz 4) ws st = some (xs, st2))
    (p : Post X Wx Z al H σ (RAw X) Q (.ok (.x ⟨x, fs.zip xs⟩) st2)) (b dx : Addr) (h1 : H b = none) (h2 : H dx = none) (h3 : dx ≠ b) : Q (.ref b) (upd (upd H dx (exd dx (fs.zip vs).reverse)) b (exo b C (some dx))) := by
  subst eC
  obtain ⟨Z2, e2, rl2, r2⟩ := frzs_ok (fun rl r e => frz_ok 4 rl r e) rl r z
  have rl3 := rl2.alloc h2 (exd dx (fs.zip vs).reverse)
  have e3 := Ext.alloc rl2 h2 (exd dx (fs.zip vs).reverse)
  have hb : upd H dx (exd dx (fs.zip vs).reverse) b = none := by rw [upd_ne (Ne.symm h3)]; exact h1
  have rl4 := rl3.alloc hb (exo b (He.ga X.K x) (some dx))
  have e4 := Ext.alloc rl3 hb (exo b (He.ga X.K x) (some dx))
  refine p _ al _ (.ref b) ((e2.trans e3).trans e4) rl4 ⟨b, some dx, rfl, upd_same, .inr ⟨dx, (fs.zip vs).reverse, rfl, by rw [upd_ne h3, upd_same], fun f y q => ?_⟩⟩
  obtain ⟨u, lu, ru⟩ := lookup_zip r2 q
  refine ⟨u, ?_, Rp.mono (e3.same.trans e4.same) ru⟩
  rw [lookup_rev, lu]
  rw [List.map_fst_zip]
  · exact hfs
  · rw [r.length]; omega
/-- C(e, ..) -/
theorem ev_mkX (R : RaiseG X.prog X.w X.K X.mg X.base x fs) (hfs : fs.Nodup) (hr : GR 2 X.A) (tk : Takes X Wx) (ha : Av X Wx (e :: es) a) (hg : Gl X x := by rfl) (hdb : (x == ("__debug__" : Str)) = false := by decide)
    (he : starEach (e :: es) X.env = (false, eval e X.env) :: starEach es X.env := by rfl) (hpl : (backTo pos (starEach es X.env)).any (·.1) = false := by rfl) : Ev X Wx (.Call (.Name x p) (e :: es) [] pos) (eMkX x fs a) := by
  obtain ⟨C, fI, fd, ps, hm, T, iC, tI, F1, hb, eC, _⟩ := R.ex
  refine ⟨⟨fun pins s σ H Q I h => ?_⟩⟩
  obtain ⟨Z, al, sl, st, rs, rl, q⟩ := h
  refine wpAny_Call_Name_kw (ld_glob I hg hm (PySem.W.callWith_K (h₀ := X.base) I.ok.mod.kin T.kC (wpAny_mono (ha.pa.run pos pins s σ H (fun vs H1 => vs.length = fs.length ∧ fs.length ≤ 1000 ∧ ∀ b dx, H1 b = none → H1 dx = none → dx ≠ b → Q (.ref b) (upd (upd H1 dx (exd dx (fs.zip vs).reverse)) b (exo b C (some dx)))) I
    (tA.mk rs rl (Post.seq q fun Z1 al1 H1 st1 ws vs e1 rl1 r1 q1 => ?_))) (fun us s1 z => ?_) fun _ _ z => z) he hpl) hdb)
  · split at q1
    · rename_i hl
      cases z : frzs (frz 4) ws st1 with
      | none => rw [z] at q1; exact q1.elim
      | some y =>
        rw [z] at q1
        exact ⟨by rw [r1.length]; exact hl.1, hl.2, fun b dx h1 h2 h3 => mkX_end eC hfs rl1 r1 hl.1 z q1 b dx h1 h2 h3⟩
    · exact q1.elim
  · obtain ⟨vs, H1, I1, r, hl, hz, q1⟩ := z
    have hul : us.length = fs.length := by rw [← r.length]; exact hl
    refine ⟨I1.kIn, run_mkX T iC tI F1 hr.rm (bound := us) (fun s u X => ?_) tk I1 r hl (by show us.length ≤ _; rw [hul, sizeLine_eq]; omega) q1⟩
    have b := hb s (u :: us) X
    rw [List.append_nil] at b
    refine b ?_
    have := F1.len (.ref 0 :: vs) (upd H1 0 (exo 0 C none)) (fun _ _ => True) (fun _ _ _ => False) ⟨0, vs, rfl, hl, upd_same, fun _ _ _ => trivial⟩
    rw [← this]
    simp [hul, hl]
/-- C(e, ..) without an __init__ of its own -/
theorem ev_mkX0 {K : PySem.W.Frag} (hB : plB X.K x = true) (hm : X.mg x = some (.ref (He.ga X.K x))) (ha : Av X Wx (e :: es) a) (hg : Gl X x := by rfl) (hdb : (x == ("__debug__" : Str)) = false := by decide)
    (he : starEach (e :: es) X.env = (false, eval e X.env) :: starEach es X.env := by rfl) (hpl : (backTo pos (starEach es X.env)).any (·.1) = false := by rfl) : Ev X Wx (.Call (.Name x p) (e :: es) [] pos) (eMkX0 x a) := by
  unfold plB at hB
  simp only [Bool.and_eq_true] at hB
  obtain ⟨b1, b2, b3, b4⟩ := hB
  refine ⟨⟨fun pins s σ H Q I h => ?_⟩⟩
  obtain ⟨Z, al, sl, st, rs, rl, q⟩ := h
  refine wpAny_Call_Name_kw (ld_glob I hg hm (PySem.W.callWith_K (h₀ := X.base) I.ok.mod.kin b3 (wpAny_mono (ha.pa.run pos pins s σ H (fun vs H1 => vs.length ≤ 1000 ∧ ∀ b, H1 b = none → Q (.ref b) (upd H1 b (exo b (He.ga X.K x) none))) I
    (tA.mk rs rl (Post.seq q fun Z1 al1 H1 st1 ws vs e1 rl1 r1 q1 => ?_))) (fun us s1 z => ?_) fun _ _ z => z) he hpl) hdb)
  · split at q1
    · rename_i hl
      refine ⟨by rw [r1.length]; exact hl, fun b h1 => ?_⟩
      exact q1 _ al1 _ (.ref b) (Ext.alloc rl1 h1 _) (rl1.alloc h1 _) ⟨b, none, rfl, upd_same, .inl ⟨rfl, rfl⟩⟩
    · exact q1.elim
  · obtain ⟨vs, H1, I1, r, hl, q1⟩ := z
    exact ⟨I1.kIn, run_mkX0 (oexB_ok b1) (He.eqO_ok b2) I1 (by show us.length ≤ _; rw [← r.length, sizeLine_eq]; omega) q1⟩
end
/-! ### keywords -/
structure Kv (X : Cx) (Wx : WX) (kws : List Keyword) (a : AV) : Prop where
  pk : PK X kws (tA X Wx a)
section
variable {X : Cx} {Wx : WX} {x nm : Str} {fs : List Str} {p pos kpos : Pos} {e : Expr} {es : List Expr} {kws : List Keyword} {a : AV} {f : EV} {n k : Nat} {F : Fn}
theorem kv_nil : Kv X Wx [] aNil := ⟨⟨fun pos pins s σ H Q I h => by
  obtain ⟨Z, al, sl, st, rs, rl, q⟩ := h
  exact pk_nil.run pos pins s σ H Q I (q Z al H [] (.refl ..) rl .nil)⟩⟩
theorem kv_cons (hf : Ev X Wx e f) (hr : Kv X Wx kws a) : Kv X Wx (⟨some nm, e, kpos⟩ :: kws) (aCons f a) := ⟨⟨fun pos pins s σ H Q I h => by
  obtain ⟨Z, al, sl, st, rs, rl, q⟩ := h
  refine (pk_cons hf.pe hr.pk).run pos pins s σ H Q I (tE.mk rs rl ?_)
  refine Post.seq (show Post X Wx Z al H σ (RAs X) Q ((f sl st).bind fun w st1 => (a sl st1).bind fun ws st2 => .ok (w :: ws) st2) from q) fun Z1 al1 H1 st1 w v e1 rl1 r1 q1 => ?_
  refine tA.mk (rs.ext e1) rl1 (Post.seq q1 fun Z2 al2 H2 st2 ws vs e2 rl2 r2 q2 => ?_)
  exact q2 Z2 al2 H2 (v :: vs) (.refl ..) rl2 (.cons (r1.ext e2) r2)⟩⟩
/-- f(k = e, ..), every parameter by its name, in order -/
theorem ev_callK0 {f' : Addr} {fd : FuncData} {ps : List Str} (G : FnG X.prog X.w X.K X.mg X.base k f' fd ps (spD X.K X.mg n F)) (hF : ∀ ws st, ws.length ≠ n → F ws st = .bad) (hm : X.mg x = some (.ref f')) (hk : PySem.W.keepIn X.K (.ref f') = true)
    (hb : ∀ (s : Shared) (us : List Value), us.length = ps.length → BindsTo s fd ⟨[], ps.zip us⟩ (ps.zip us)) (hn : ps.length = n) (g : GR k X.A) (tk : Takes X Wx) (ha : Kv X Wx kws a) (hg : Gl X x := by rfl) (hdb : (x == ("__debug__" : Str)) = false := by decide)
    (hall : (backToKw pos (keywordEach kws X.env)).all (·.1.isSome) = true := by rfl) (hks : (backToKw pos (keywordEach kws X.env)).filterMap (·.1) = ps := by rfl)
    (hpl : ((backTo pos (starEach [] X.env)).any (·.1) || (backToKw pos (keywordEach kws X.env)).any (·.1.isNone)) = false := by rfl) : Ev X Wx (.Call (.Name x p) [] kws pos) (eFn F a) := by
  subst hn
  refine ⟨⟨fun pins s σ H Q I h => ?_⟩⟩
  obtain ⟨Z, al, sl, st, rs, rl, q⟩ := h
  refine wpAny_Call_Name_kw (ld_glob I hg hm (PySem.W.callWith_KW0 (h₀ := X.base) I.ok.mod.kin hk hall (wpAny_mono (ha.pk.run pos pins s σ H (fun vs H1 => spD X.K X.mg ps.length F vs H1 Q (WE Wx σ)) I (tA.mk rs rl (Post.seq q fun Z1 al1 H1 st1 ws vs e1 rl1 r1 q1 => post_spD hF rl1 r1 q1))) (fun us s1 z => ?_) fun _ _ z => z) hpl) hdb)
  obtain ⟨vs, H1, I1, r, q1⟩ := z
  rw [hks]
  exact ⟨I1.kIn, runG G g tk I1 (hb s1 us (by rw [← r.length]; exact q1.1)) r q1⟩
/-- C(k = e, ..), every field by its name, in order -/
theorem ev_mkXk (R : RaiseG X.prog X.w X.K X.mg X.base x fs) (hfs : fs.Nodup) (hr : GR 2 X.A) (tk : Takes X Wx) (ha : Kv X Wx kws a) (hg : Gl X x := by rfl) (hdb : (x == ("__debug__" : Str)) = false := by decide)
    (hall : (backToKw pos (keywordEach kws X.env)).all (·.1.isSome) = true := by rfl) (hks : (backToKw pos (keywordEach kws X.env)).filterMap (·.1) = fs := by rfl)
    (hpl : ((backTo pos (starEach [] X.env)).any (·.1) || (backToKw pos (keywordEach kws X.env)).any (·.1.isNone)) = false := by rfl) : Ev X Wx (.Call (.Name x p) [] kws pos) (eMkX x fs a) := by
  obtain ⟨C, fI, fd, ps, hm, T, iC, tI, F1, hb, eC, hbk⟩ := R.ex
  refine ⟨⟨fun pins s σ H Q I h => ?_⟩⟩
  obtain ⟨Z, al, sl, st, rs, rl, q⟩ := h
  refine wpAny_Call_Name_kw (ld_glob I hg hm (PySem.W.callWith_KW0 (h₀ := X.base) I.ok.mod.kin T.kC hall (wpAny_mono (ha.pk.run pos pins s σ H (fun vs H1 => vs.length = fs.length ∧ fs.length ≤ 1000 ∧ ∀ b dx, H1 b = none → H1 dx = none → dx ≠ b → Q (.ref b) (upd (upd H1 dx (exd dx (fs.zip vs).reverse)) b (exo b C (some dx)))) I
    (tA.mk rs rl (Post.seq q fun Z1 al1 H1 st1 ws vs e1 rl1 r1 q1 => ?_))) (fun us s1 z => ?_) fun _ _ z => z) hpl) hdb)
  · split at q1
    · rename_i hl
      cases z : frzs (frz 4) ws st1 with
      | none => rw [z] at q1; exact q1.elim
      | some y =>
        rw [z] at q1
        exact ⟨by rw [r1.length]; exact hl.1, hl.2, fun b dx h1 h2 h3 => mkX_end eC hfs rl1 r1 hl.1 z q1 b dx h1 h2 h3⟩
    · exact q1.elim
  · obtain ⟨vs, H1, I1, r, hl, hz, q1⟩ := z
    rw [hks]
    refine ⟨I1.kIn, run_mkX (us := []) T iC tI F1 hr.rm (bound := us) (fun s u X => hbk s u us (by rw [← r.length]; exact hl)) tk I1 r hl (by show 0 ≤ _; omega) q1⟩
end

/-! ### isinstance, fields -/
theorem xInst {P : Program} {w : World} {H : Hp} {h : Heap} {a C : Addr} {d : Option Addr} (hok : HOk P w H h) (ea : H a = some (exo a C d)) (ed : ∀ dx, d = some dx → ∃ ls, H dx = some (exd dx ls)) : ∃ (ox : Obj) (od : Option Obj), PySem.W.InstAt h a ox C od := by
  obtain ⟨t1, ho⟩ := exo_at hok ea
  cases d with
  | none => exact ⟨_, none, ho, rfl, rfl, trivial⟩
  | some dx =>
    obtain ⟨ls, hd⟩ := ed dx rfl
    obtain ⟨mA, ⟨o, es, ep, h1, h2⟩, _⟩ := exd_at hok hd
    exact ⟨_, some o, ho, rfl, rfl, h1⟩
theorem relV_ref {c : Addr} {u : Value} (h : RelV (.ref c) u) : u = .ref c := h
def eIsX (xs : List Str) (b : Str → Bool) (f : EV) : EV := fun sl st => (f sl st).bind fun w st1 => match w with
  | .x e => if e.cls ∈ xs then .ok (.d (.bool (b e.cls))) st1 else .bad
  | _ => .bad
def eFldX (xs : List Str) (g : Str) (f : EV) : EV := fun sl st => (f sl st).bind fun w st1 => match w with
  | .x ex => if ex.cls ∈ xs then match ex.fs.lookup g with
      | some y => .ok (.d y) st1
      | none => .bad
    else .bad
  | _ => .bad
section
variable {X : Cx} {Wx : WX} {x y : Str} {p q pos : Pos} {e : Expr} {f : EV}
/-- isinstance(e, D), e an error kept as a value; D a class, a built-in class; xs: the classes that may come -/
theorem ev_isX {b : Str → Bool} {xs : List Str} {cv : Value} {c : V} (hk : ∀ z ∈ xs, XcK X.K (He.ga X.K z) ∧ PySem.W.kitOne X.K (.ref (He.ga X.K z)) cv = some (b z)) (hf : Ev X Wx e f) (hg : Gl X "isinstance") (hm : X.mg "isinstance" = none)
    (hc : PE X (.Name y q) (tC c)) (rc : RelV c cv) (rc' : ∀ u, RelV c u → u = cv)
    (he : starEach [e, .Name y q] X.env = (false, eval e X.env) :: starEach [.Name y q] X.env := by rfl) (hpl : (backTo pos (starEach [.Name y q] X.env)).any (·.1) = false := by rfl) (hs2 : starEach [.Name y q] X.env = (false, eval (.Name y q) X.env) :: starEach [] X.env := by rfl) :
    Ev X Wx (.Call (.Name "isinstance" p) [e, .Name y q] [] pos) (eIsX xs b f) := by
  have call : CallR X (.builtin "isinstance") (fun vs H Q => ∃ a C d k, vs = [.ref a, c] ∧ H a = some (exo a C d) ∧ (∀ dx, d = some dx → ∃ ls, H dx = some (exd dx ls)) ∧ XcK X.K C ∧ PySem.W.kitOne X.K (.ref C) cv = some k ∧ Q (.bl k) H) := by
    intro pins s σ H vs us Q I r h
    obtain ⟨a, C, d, k, rfl, ea, ed, T, hk, hq⟩ := h
    cases r with
    | cons r1 r2 =>
      cases r2 with
      | cons r2 r3 =>
        cases r3
        obtain rfl := relV_ref r1
        obtain rfl := rc' _ r2
        obtain ⟨ox, od, J⟩ := xInst I.hok ea ed
        exact PySem.W.kia_one (PySem.W.kitx_exc T.cl T.ga T.gg T.ex T.ha T.hn T.ht T.hm) I.kIn J hk (fun z => nomatch z) fun tk => ⟨.bl k, H, I.tok tk, rfl, hq⟩
  refine .of (pe_callB call hg hm (by decide +kernel) (pa_cons hf.pe (pa_cons hc pa_nil hs2) he) (by decide) (by decide) he hpl) fun σ H Q h => ?_
  obtain ⟨Z, al, sl, st, rs, rl, h⟩ := h
  refine tE.mk rs rl (Post.seq h fun Z1 al1 H1 st1 w v e1 rl1 r1 h1 => ?_)
  cases w with
  | d z => exact h1.elim
  | c z => exact h1.elim
  | s z => exact h1.elim
  | x ex =>
    have h1 : Post X Wx Z1 al1 H1 σ (RAw X) Q (if ex.cls ∈ xs then .ok (.d (.bool (b ex.cls))) st1 else .bad) := h1
    split at h1
    · rename_i hx
      obtain ⟨a, d, rfl, ea, hd⟩ := r1
      obtain ⟨T, k⟩ := hk _ hx
      refine ⟨a, _, d, b ex.cls, rfl, rl1.sub _ _ ea, fun dx z => ?_, T, k, h1 Z1 al1 H1 _ (.refl ..) rl1 (.bl _)⟩
      rcases hd with ⟨h2, _⟩ | ⟨dx', ls, h2, h3, _⟩
      · rw [h2] at z; cases z
      · rw [h2] at z; cases z; exact ⟨ls, rl1.sub _ _ h3⟩
    · exact h1.elim
/-- e.g, e an error kept as a value -/
theorem ev_fldX {g : Str} {xs : List Str} (hk : ∀ z ∈ xs, XcK X.K (He.ga X.K z) ∧ PySem.W.findIn X.K (.ref (He.ga X.K z)) g = some none) (hf : Ev X Wx e f) (hb : attributeBase e g X.env (eval e X.env) = eval e X.env := by rfl) :
    Ev X Wx (.Attribute e g pos) (eFldX xs g f) := by
  refine ⟨⟨fun pins s σ H Q I h => ?_⟩⟩
  obtain ⟨Z, al, sl, st, rs, rl, h⟩ := h
  refine attr_of hb (wpAny_mono (hf.pe.run pins s σ H (fun v H1 => ∃ a C dx ls u, v = .ref a ∧ XcK X.K C ∧ PySem.W.findIn X.K (.ref C) g = some none ∧ H1 a = some (exo a C (some dx)) ∧ H1 dx = some (exd dx ls) ∧ ls.lookup g = some u ∧ Q u H1) I (tE.mk rs rl (Post.seq h fun Z1 al1 H1 st1 w v e1 rl1 r1 h1 => ?_))) (fun u s1 z => ?_) fun _ _ z => z)
  · cases w with
    | d z => exact h1.elim
    | c z => exact h1.elim
    | s z => exact h1.elim
    | x ex =>
      have h1 : Post X Wx Z1 al1 H1 σ (RAw X) Q (if ex.cls ∈ xs then match ex.fs.lookup g with
          | some y => .ok (.d y) st1
          | none => .bad
        else .bad) := h1
      split at h1
      · rename_i hx
        obtain ⟨T, hno⟩ := hk _ hx
        obtain ⟨a, d, rfl, ea, hd⟩ := r1
        rcases hd with ⟨_, h2⟩ | ⟨dx, ls, h2, h3, h4⟩
        · rw [h2] at h1; exact h1.elim
        · cases q : ex.fs.lookup g with
          | none => rw [q] at h1; exact h1.elim
          | some y =>
            rw [q] at h1
            obtain ⟨u, lu, ru⟩ := h4 g y q
            subst h2
            exact ⟨a, _, dx, ls, u, rfl, T, hno, rl1.sub _ _ ea, rl1.sub _ _ h3, lu, h1 Z1 al1 H1 u (.refl ..) rl1 ru⟩
      · exact h1.elim
  · obtain ⟨v, H1, I1, rv, a, C, dx, ls, u', rfl, T, hno, ea, ed, lu, hq⟩ := z
    obtain rfl := relV_ref rv
    obtain ⟨t1, ho⟩ := exo_at I1.hok ea
    obtain ⟨mA, ⟨o, es, ep, o1, o2, o3⟩, rel⟩ := exd_at I1.hok ed
    obtain ⟨u, hu, ru⟩ := RelO.some_of (v := u') (o := mA g) (by rw [← lu]; exact rel g)
    obtain ⟨od, ho', hl⟩ := lookIn_ns (⟨o, es, ep, o1, o2, o3⟩ : s1.heap.Ns1 dx mA)
    have J : PySem.W.InstAt s1.heap a { cls := .ref C, dict := some dx, data := .fields #[.ref t1, .none, .none, .none, .bool false, .none] } C (some od) := ⟨ho, rfl, rfl, ho'⟩
    exact PySem.HandSPX.exc_get I1.kIn J T.ga T.gg T.ex (PySem.W.findObj_own T.hd hno rfl (by rw [hl, hu])) (handed_of ru) ⟨u', H1, I1.tok _, ru, hq⟩
end
end DL

/-! DL16: lists of things that change, joined; signs; what a block takes. -/
namespace DL
open PySem PySem.Spec PyProof.Rows L2
theorem takes_WF {X : Cx} : Takes X WF := fun u s' x => by
  obtain ⟨a, B, sI, pins, σ, H, cls, d, e, I, nb, up, sky, na, os, ag, w⟩ := x
  exact w.elim
theorem takes_cx {P : Program} {w : World} {K : PySem.W.Frag} {mg : Str → Option Value} {base : Heap} {N : List Str} {qual : Str} {scope : Scope} {f : Addr} {cd : Value} {A : Around} {outer : List Env} {s : Shared} {H : Hp} {E : XK} : Takes (cxG P w K mg base N qual scope f cd A outer s H E) (wxG E) :=
  takes_of rfl rfl rfl rfl
theorem passes_cx {P : Program} {w : World} {K : PySem.W.Frag} {mg : Str → Option Value} {base : Heap} {N : List Str} {qual : Str} {scope : Scope} {f : Addr} {cd : Value} {A : Around} {outer : List Env} {s : Shared} {H : Hp} {E : XK} : PassesOwn (model P w) (cxG P w K mg base N qual scope f cd A outer s H E).A (cxG P w K mg base N qual scope f cd A outer s H E).env (cxG P w K mg base N qual scope f cd A outer s H E).xe :=
  passes_of rfl

def addC : W → W → Store → Option (W × Store) := fun w1 w2 st => match itemsL st w1, itemsL st w2 with
  | some us, some ws => if us.length + ws.length ≤ sizeLine then some (.c st.length, st ++ [.lst (us ++ ws)]) else none
  | _, _ => none
section
variable {X : Cx} {Wx : WX} {a : Expr} {f : EV} {pos : Pos}
theorem o_addC : Op2 X (binaryOp .Add) addC := by
  refine ⟨_, op_cat, fun Z al H st w1 w2 x y Q rl r1 r2 p => ?_⟩
  unfold addC at p
  cases e1 : itemsL st w1 with
  | none => rw [e1] at p; exact p.elim
  | some us =>
    cases e2 : itemsL st w2 with
    | none => rw [e1, e2] at p; exact p.elim
    | some ws =>
      rw [e1, e2] at p
      have p : PostO X Z al H (RAw X) Q (if us.length + ws.length ≤ sizeLine then some (.c st.length, st ++ [.lst (us ++ ws)]) else none) := p
      split at p
      · rename_i hl
        obtain ⟨a1, vs, rfl, h1, q1⟩ := itemsL_ok rl r1 e1
        obtain ⟨a2, zs, rfl, h2, q2⟩ := itemsL_ok rl r2 e2
        refine ⟨a1, a2, vs, zs, rfl, rfl, h1, h2, by rw [q1.length, q2.length]; exact hl, fun b hb => ?_⟩
        obtain ⟨c1, c2⟩ := newCell rl (q1.append q2) hb
        exact p Z _ _ (.ref b) (Ext.new rl hb _) c1 c2
      · exact p.elim
def eNeg (f : EV) : EV := fun sl st => (f sl st).bind fun w st1 => match w with
  | .d (.int i) => .ok (.d (.int (-i))) st1
  | _ => .bad
theorem ev_neg (h : Ev X Wx a f) : Ev X Wx (.UnaryOp .USub a pos) (eNeg f) := by
  refine .of (pe_un un_neg h.pe) fun σ H Q h => ?_
  obtain ⟨Z, al, sl, st, rs, rl, p⟩ := h
  refine tE.mk rs rl (Post.seq p fun Z1 al1 H1 st1 w v e1 rl1 r1 p1 => ?_)
  cases w with
  | c n => exact p1.elim
  | s n => exact p1.elim
  | x n => exact p1.elim
  | d y =>
    cases y with
    | int i =>
      cases r1
      exact ⟨i, rfl, p1 Z1 al1 H1 _ (.refl ..) rl1 (.int _)⟩
    | _ => exact p1.elim
end
end DL
namespace DL
open PySem PySem.Spec PyProof.Rows L2
section
variable {X : Cx} {Wx : WX} {x y : Str} {p q pos : Pos} {e : Expr} {f : EV}
theorem ev_gi {i : Int} (h : ∃ t, X.mg x = some (.int i t)) (hg : Gl X x := by rfl) (hd : (x == ("__debug__" : Str)) = false := by decide) : Ev X Wx (.Name x pos) (eK (.int i)) := by
  obtain ⟨t, h⟩ := h
  exact ev_k (pe_glob (v := .int i) hg h ⟨t, rfl⟩ hd) fun Z => .int i
theorem ev_gs {z : Str} (h : ∃ t, X.mg x = some (.str z t)) (hg : Gl X x := by rfl) (hd : (x == ("__debug__" : Str)) = false := by decide) : Ev X Wx (.Name x pos) (eK (.str z)) := by
  obtain ⟨t, h⟩ := h
  exact ev_k (pe_glob (v := .str z) hg h ⟨t, rfl⟩ hd) fun Z => .str z
theorem ev_isXc {b : Str → Bool} {xs : List Str} {C : Addr} (hk : ∀ z ∈ xs, XcK X.K (He.ga X.K z) ∧ PySem.W.kitOne X.K (.ref (He.ga X.K z)) (.ref C) = some (b z)) (hm : X.mg "isinstance" = none) (hC : X.mg y = some (.ref C)) (hf : Ev X Wx e f) (hg : Gl X "isinstance" := by rfl)
    (hgy : Gl X y := by rfl) (hd : (y == ("__debug__" : Str)) = false := by decide)
    (he : starEach [e, .Name y q] X.env = (false, eval e X.env) :: starEach [.Name y q] X.env := by rfl) (hpl : (backTo pos (starEach [.Name y q] X.env)).any (·.1) = false := by rfl) (hs2 : starEach [.Name y q] X.env = (false, eval (.Name y q) X.env) :: starEach [] X.env := by rfl) :
    Ev X Wx (.Call (.Name "isinstance" p) [e, .Name y q] [] pos) (eIsX xs b f) :=
  ev_isX hk hf hg hm (pe_glob (v := .ref C) hgy hC rfl hd) rfl (fun _ h => h) he hpl hs2
theorem ev_isXt {b : Str → Bool} {xs : List Str} {T : String} (hk : ∀ z ∈ xs, XcK X.K (He.ga X.K z) ∧ PySem.W.kitOne X.K (.ref (He.ga X.K z)) (.type T) = some (b z)) (hm : X.mg "isinstance" = none) (hC : X.mg y = none) (hb : bootBuiltins y = some (.type T)) (hf : Ev X Wx e f) (hg : Gl X "isinstance" := by rfl)
    (hgy : Gl X y := by rfl) (hn : y ≠ "__name__" := by decide) (hd : (y == ("__debug__" : Str)) = false := by decide)
    (he : starEach [e, .Name y q] X.env = (false, eval e X.env) :: starEach [.Name y q] X.env := by rfl) (hpl : (backTo pos (starEach [.Name y q] X.env)).any (·.1) = false := by rfl) (hs2 : starEach [.Name y q] X.env = (false, eval (.Name y q) X.env) :: starEach [] X.env := by rfl) :
    Ev X Wx (.Call (.Name "isinstance" p) [e, .Name y q] [] pos) (eIsX xs b f) :=
  ev_isX hk hf hg hm (pe_bltn (v := .ty T) hgy hC hb rfl hn hd) rfl (fun _ h => h) he hpl hs2
end
end DL

/-! DL17: a call that hands over nothing that changes: the def runs over a store of its own. -/
namespace DL
open PySem PySem.Spec PyProof.Rows L2
def pureW : W → Bool
  | .c _ => false
  | _ => true
def endP : R W → Store → R W
  | .ok w _, st => if pureW w then .ok w st else .bad
  | .ex e _, st => .ex e st
  | .bad, _ => .bad
def eFnP (F : Fn) (a : AV) : EV := fun sl st => (a sl st).bind fun ws st1 => if ws.all pureW then endP (F ws []) st1 else .bad
theorem RW.pure {K : PySem.W.Frag} {Z : Hp} {al bl : List Addr} {v : V} {w : W} (hp : pureW w = true) (h : RW K Z al v w) : RW K Z bl v w := by
  cases w with
  | c n => cases hp
  | d x => exact h
  | s ns => exact h
  | x e => exact h
theorem RWs.pure {K : PySem.W.Frag} {Z : Hp} {al bl : List Addr} {vs : List V} {ws : List W} (h : RWs K Z al vs ws) : ws.all pureW = true → RWs K Z bl vs ws := by
  intro hp
  induction h with
  | nil => exact .nil
  | cons r t ih =>
    rw [List.all_cons, Bool.and_eq_true] at hp
    exact .cons (r.pure hp.1) (ih hp.2)
theorem Rel.bare {K : PySem.W.Frag} {Z : Hp} {al : List Addr} {H : Hp} {st : Store} (r : Rel K Z al H st) : Rel K Z [] H [] :=
  ⟨r.sub, rfl, List.nodup_nil, fun n c a hc => by simp at hc⟩
/-- back from a def that ran over a store of its own -/
theorem Rel.back {K : PySem.W.Frag} {Z Z1 : Hp} {al bl : List Addr} {H H1 : Hp} {st st1 : Store} (r : Rel K Z al H st) (e : Ext Z [] H Z1 bl H1) (r1 : Rel K Z1 bl H1 st1) : Rel K Z1 al H1 st ∧ Ext Z al H Z1 al H1 := by
  have nil : ∀ a : Addr, a ∉ ([] : List Addr) := fun _ => List.not_mem_nil
  refine ⟨⟨r1.sub, r.len, r.nd, fun n c a hc ha => ?_⟩, ⟨e.same, ⟨[], by simp, by simp⟩, fun a o h _ => e.fr a o h (nil a), e.th, fun a o h _ z => e.zfr a o h (nil a) z⟩⟩
  have k := r.cell n c a hc ha
  obtain ⟨o, ho⟩ := k.there
  exact k.imp e.same (fun _ _ x => x) (fun z => e.zfr a o ho (nil a) z) (by rw [ho]; exact e.fr a o ho (nil a))
section
variable {X : Cx} {Wx : WX} {k n : Nat} {x : Str} {F : Fn} {p pos : Pos} {e : Expr} {es : List Expr} {a : AV}
theorem post_spP {Z : Hp} {al : List Addr} {H : Hp} {σ : L2.St} {st : Store} {vs : List V} {ws : List W} {Q : VK} (hF : ∀ ws st, ws.length ≠ n → F ws st = .bad) (rl : Rel X.K Z al H st) (r : RWs X.K Z al vs ws) (hp : ws.all pureW = true) (p : Post X Wx Z al H σ (RAw X) Q (endP (F ws []) st)) : spD X.K X.mg n F vs H Q (WE Wx σ) := by
  have hl : vs.length = n := by
    rw [r.length]
    by_cases z : ws.length = n
    · exact z
    · rw [hF ws [] z] at p; exact p.elim
  refine ⟨hl, Z, [], ws, [], rl.bare, r.pure hp, ?_⟩
  cases q : F ws [] with
  | bad => rw [q] at p; exact p.elim
  | ex ex st1 =>
    rw [q] at p
    intro Z1 bl H1 cls d e1 rl1 x1
    obtain ⟨b1, b2⟩ := rl.back e1 rl1
    exact p Z1 al H1 cls d b2 b1 x1
  | ok w st1 =>
    rw [q] at p
    have p : Post X Wx Z al H σ (RAw X) Q (if pureW w then .ok w st else .bad) := p
    split at p
    · rename_i hw
      intro Z1 bl H1 v e1 rl1 r1
      obtain ⟨b1, b2⟩ := rl.back e1 rl1
      exact p Z1 al H1 v b2 b1 (r1.pure hw)
    · exact p.elim
theorem ev_callP (c : CalG X.prog X.w X.K X.mg X.base k x n F) (g : GR k X.A) (tk : Takes X Wx) (ha : Av X Wx (e :: es) a) (hg : Gl X x := by rfl) (hdb : (x == ("__debug__" : Str)) = false := by decide)
    (he : starEach (e :: es) X.env = (false, eval e X.env) :: starEach es X.env := by rfl) (hpl : (backTo pos (starEach es X.env)).any (·.1) = false := by rfl) : Ev X Wx (.Call (.Name x p) (e :: es) [] pos) (eFnP F a) := by
  obtain ⟨f, fd, ps, el, G, hF, hm, hk, hb⟩ := c.ex
  subst el
  refine ⟨⟨fun pins s σ H Q I h => ?_⟩⟩
  obtain ⟨Z, al, sl, st, rs, rl, q⟩ := h
  refine wpAny_Call_Name_kw (ld_glob I hg hm (PySem.W.callWith_K (h₀ := X.base) I.ok.mod.kin hk (wpAny_mono (ha.pa.run pos pins s σ H (fun vs H1 => spD X.K X.mg ps.length F vs H1 Q (WE Wx σ)) I (tA.mk rs rl (Post.seq q fun Z1 al1 H1 st1 ws vs e1 rl1 r1 q1 => ?_))) (fun us s1 z => ?_) fun _ _ z => z) he hpl) hdb)
  · split at q1
    · rename_i hp
      exact post_spP hF rl1 r1 hp q1
    · exact q1.elim
  · obtain ⟨vs, H1, I1, r, q1⟩ := z
    have b := hb s1 us I1.kIn (by rw [List.append_nil, ← r.length]; exact q1.1)
    rw [List.append_nil] at b
    exact ⟨I1.kIn, runG G g tk I1 b r q1⟩
end
end DL

/-! DL18: running a meaning by simp. -/
namespace DL
open PySem PySem.Spec PyProof.Rows L2
section
variable {sl : Sl} {st : Store} {f g h : EV} {a b : AV} {t u : TV} {s r : SV} {w : W} {x y : PyData} {i j k : Int} {n m : Nat}
@[simp] theorem R_bind_ok {α β : Type} {a : α} {k : α → Store → R β} : (R.ok a st).bind k = k a st := rfl
@[simp] theorem R_bind_bad {α β : Type} {k : α → Store → R β} : (R.bad : R α).bind k = .bad := rfl
@[simp] theorem R_bind_ex {α β : Type} {e : Exn} {k : α → Store → R β} : (R.ex e st : R α).bind k = .ex e st := rfl
@[simp] theorem R_thn_ok {α : Type} {a : α} {k : α → Store → RS} : (R.ok a st).thn sl k = k a st := rfl
@[simp] theorem R_thn_ex {α : Type} {e : Exn} {k : α → Store → RS} : (R.ex e st : R α).thn sl k = .ex e sl st := rfl
@[simp] theorem R_thn_bad {α : Type} {k : α → Store → RS} : (R.bad : R α).thn sl k = .bad := rfl
@[simp] theorem ofO_some {α : Type} {a : α} : ofO (some (a, st)) = .ok a st := rfl
@[simp] theorem sSeq_run : sSeq s r sl st = (s sl st).next r := rfl
@[simp] theorem next_nx : (RS.nx sl st).next s = s sl st := rfl
@[simp] theorem next_rt : (RS.rt w sl st).next s = .rt w sl st := rfl
@[simp] theorem next_ex {e : Exn} : (RS.ex e sl st).next s = .ex e sl st := rfl
@[simp] theorem next_bk : (RS.bk sl st).next s = .bk sl st := rfl
@[simp] theorem next_ct : (RS.ct sl st).next s = .ct sl st := rfl
@[simp] theorem sNil_run : sNil sl st = .nx sl st := rfl
@[simp] theorem sIf_run : sIf t s r sl st = (t sl st).thn sl fun b st1 => if b then s sl st1 else r sl st1 := rfl
@[simp] theorem sSet_run {p : Pat} : sSet p f sl st = (f sl st).thn sl fun w st1 => match bindP p w sl with
  | some sl1 => .nx sl1 st1
  | none => .bad := rfl
@[simp] theorem sRet_run : sRet f sl st = (f sl st).thn sl fun w st1 => .rt w sl st1 := rfl
@[simp] theorem sEx_run : sEx f sl st = (f sl st).thn sl fun _ st1 => .nx sl st1 := rfl
@[simp] theorem tVal_run : tVal f sl st = (f sl st).bind asB := rfl
@[simp] theorem asB_run {b : Bool} : asB (.d (.bool b)) st = .ok b st := rfl
@[simp] theorem eK_run : eK x sl st = .ok (.d x) st := rfl
@[simp] theorem eV_run {i : Nat} : eV i sl st = match sl[i]? with
  | some (some w) => .ok (deref st w) st
  | _ => .bad := by unfold eV; rfl
@[simp] theorem deref_d : deref st (.d x) = .d x := rfl
@[simp] theorem deref_s {ns : List Int} : deref st (.s ns) = .s ns := rfl
@[simp] theorem deref_x {e : Exn} : deref st (.x e) = .x e := rfl
theorem deref_c {ws : List W} (h : st[n]? = some (.lst ws)) : deref st (.c n) = .c n := by simp [deref, h]
@[simp] theorem eBin_run {o : W → W → Store → Option (W × Store)} : eBin o f g sl st = (f sl st).bind fun w1 st1 => (g sl st1).bind fun w2 st2 => ofO (o w1 w2 st2) := rfl
@[simp] theorem toD_d : toD st (.d x) = some x := rfl
@[simp] theorem toS_d : toS st (.d x) = some x := rfl
@[simp] theorem toS_s {ns : List Int} : toS st (.s ns) = some (.list (ns.map .int)) := rfl
@[simp] theorem dop_dd {F : PyData → PyData → Option PyData} : dop F (.d x) (.d y) st = (F x y).map fun c => (.d c, st) := rfl
@[simp] theorem sop_dd {F : PyData → PyData → Option PyData} : sop F (.d x) (.d y) st = (F x y).map fun c => (.d c, st) := rfl
@[simp] theorem sop_sd {F : PyData → PyData → Option PyData} {ns : List Int} : sop F (.s ns) (.d x) st = (F (.list (ns.map .int)) x).map fun c => (.d c, st) := rfl
@[simp] theorem sop_ds {F : PyData → PyData → Option PyData} {ns : List Int} : sop F (.d x) (.s ns) st = (F x (.list (ns.map .int))).map fun c => (.d c, st) := rfl
@[simp] theorem addD_int : addD (.int i) (.int j) = some (.int (i + j)) := rfl
@[simp] theorem addI_int : addI (.int i) (.int j) = some (.int (i + j)) := rfl
@[simp] theorem subD_int : subD (.int i) (.int j) = some (.int (i - j)) := rfl
@[simp] theorem ltD_int : ltD (.int i) (.int j) = some (.bool (decide (i < j))) := rfl
@[simp] theorem leD_int : leD (.int i) (.int j) = some (.bool (decide (i ≤ j))) := rfl
@[simp] theorem gtD_int : gtD (.int i) (.int j) = some (.bool (decide (j < i))) := rfl
@[simp] theorem geD_int : geD (.int i) (.int j) = some (.bool (decide (j ≤ i))) := rfl
theorem mulD_l (h : -(2 ^ 64) < i ∧ i < 2 ^ 64) : mulD (.int i) (.int j) = some (.int (i * j)) := if_pos (.inl h)
theorem mulD_r (h : -(2 ^ 64) < j ∧ j < 2 ^ 64) : mulD (.int i) (.int j) = some (.int (i * j)) := if_pos (.inr h)
theorem modD_pos (h : 0 < j) : modD (.int i) (.int j) = some (.int (i % j)) := if_pos h
theorem fdivD_pos (h : 0 < j ∧ j < 2 ^ 200) : fdivD (.int i) (.int j) = some (.int (i / j)) := if_pos h
theorem powD_10 (h : 0 ≤ j ∧ j ≤ 64) : powD (.int 10) (.int j) = some (.int (10 ^ j.toNat)) := if_pos ⟨h.1, h.2, by decide +kernel⟩
@[simp] theorem ixO_c : ixO (.c n) (.d (.int i)) st = match st[n]? with
  | some (.lst ws) => (atI ws i).map fun w => (deref st w, st)
  | some (.frz x) => (ixP x i).map fun y => (.d y, st)
  | _ => none := rfl
@[simp] theorem ixO_s {ns : List Int} : ixO (.s ns) (.d (.int i)) st = (atI ns i).map fun k => (.d (.int k), st) := rfl
@[simp] theorem ixO_d : ixO (.d x) (.d (.int i)) st = (ixP x i).map fun y => (.d y, st) := rfl
@[simp] theorem aNil_run : aNil sl st = .ok [] st := rfl
@[simp] theorem aCons_run : aCons f a sl st = (f sl st).bind fun w st1 => (a sl st1).bind fun ws st2 => .ok (w :: ws) st2 := rfl
@[simp] theorem eNeg_run : eNeg f sl st = (f sl st).bind fun w st1 => match w with
  | .d (.int i) => .ok (.d (.int (-i))) st1
  | _ => .bad := rfl
@[simp] theorem eFn_run {F : Fn} : eFn F a sl st = (a sl st).bind F := rfl
@[simp] theorem eFnP_run {F : Fn} : eFnP F a sl st = (a sl st).bind fun ws st1 => if ws.all pureW then endP (F ws []) st1 else .bad := rfl
@[simp] theorem pureW_d : pureW (.d x) = true := rfl
@[simp] theorem pureW_x {e : Exn} : pureW (.x e) = true := rfl
@[simp] theorem pureW_s {ns : List Int} : pureW (.s ns) = true := rfl
@[simp] theorem endP_d {st1 : Store} : endP (.ok (.d x) st1) st = .ok (.d x) st := rfl
@[simp] theorem endP_x {st1 : Store} {e : Exn} : endP (.ok (.x e) st1) st = .ok (.x e) st := rfl
theorem endP_ok {st1 : Store} (h : pureW w = true) : endP (.ok w st1) st = .ok w st := by simp [endP, h]
@[simp] theorem endP_ex {st1 : Store} {e : Exn} : endP (.ex e st1) st = .ex e st := rfl
@[simp] theorem bindP_n {i : Nat} : bindP (.n i) w sl = some (sl.set i (some w)) := by unfold bindP; rfl
@[simp] theorem tNot_run : tNot t sl st = (t sl st).bind fun b st1 => .ok (!b) st1 := rfl
@[simp] theorem eTup_run : eTup a sl st = (a sl st).bind fun ws st1 => match frzs (frz 4) ws st1 with
  | some (xs, st2) => if xs.length ≤ sizeLine then .ok (.d (.tuple xs)) st2 else .bad
  | none => .bad := rfl
@[simp] theorem eLst_run : eLst a sl st = (a sl st).bind fun ws st1 => match frzs (frz 4) ws st1 with
  | some (xs, st2) => if xs.length ≤ sizeLine then .ok (.d (.list xs)) st2 else .bad
  | none => .bad := rfl
@[simp] theorem frzs_nil {F : W → Store → Option (PyData × Store)} : frzs F [] st = some ([], st) := rfl
@[simp] theorem frzs_cons {F : W → Store → Option (PyData × Store)} {ws : List W} : frzs F (w :: ws) st = match F w st with
  | none => none
  | some (x, st1) => match frzs F ws st1 with
    | none => none
    | some (xs, st2) => some (x :: xs, st2) := rfl
@[simp] theorem frz_d : frz n (.d x) st = some (x, st) := by cases n <;> rfl
@[simp] theorem eNew_run : eNew a sl st = (a sl st).bind fun ws st1 => if ws.length ≤ sizeLine then .ok (.c st1.length) (st1 ++ [.lst ws]) else .bad := rfl
@[simp] theorem eCall_run {o : List W → Store → Option (W × Store)} : eCall o a sl st = (a sl st).bind fun ws st1 => ofO (o ws st1) := rfl
theorem fnOf_run {ws : List W} (h : ws.length = n) : fnOf n m s ws st = match s (ws.map some ++ List.replicate m none) st with
  | .rt w _ st' => .ok w st'
  | .nx _ st' => .ok (.d .none) st'
  | .ex e _ st' => .ex e st'
  | _ => .bad := if_pos h
end
theorem tAnd_run {t u : TV} {sl : Sl} {st : Store} : tAnd t u sl st = (t sl st).bind fun b st1 => if b then u sl st1 else .ok false st1 := rfl
theorem tOr_run {t u : TV} {sl : Sl} {st : Store} : tOr t u sl st = (t sl st).bind fun b st1 => if b then .ok true st1 else u sl st1 := rfl
theorem fnOf_rt {n m : Nat} {s : SV} {ws : List W} {st st' : Store} {w : W} {sl : Sl} (hl : ws.length = n) (h : s (ws.map some ++ List.replicate m none) st = .rt w sl st') : fnOf n m s ws st = .ok w st' := by
  rw [fnOf, if_pos hl, h]
theorem fnOf_ex {n m : Nat} {s : SV} {ws : List W} {st st' : Store} {e : Exn} {sl : Sl} (hl : ws.length = n) (h : s (ws.map some ++ List.replicate m none) st = .ex e sl st') : fnOf n m s ws st = .ex e st' := by
  rw [fnOf, if_pos hl, h]
theorem iRng1_ok {g : AV} {sl : Sl} {st st1 : Store} {n : Nat} (h : g sl st = .ok [.d (.int n)] st1) (hn : n ≤ 1000000) : DL.iRng1 g sl st = .ok (rng 0 n) st1 := by
  unfold DL.iRng1
  rw [h, R_bind_ok]
  have : -(2 ^ 62 : Int) ≤ (n : Int) ∧ (n : Int) < 2 ^ 62 := ⟨by omega, by omega⟩
  show (if -(2 ^ 62 : Int) ≤ (n : Int) ∧ (n : Int) < 2 ^ 62 then R.ok (rng 0 (n : Int).toNat) st1 else .bad) = _
  rw [if_pos this, Int.toNat_natCast]
end DL

set_option maxHeartbeats 0

namespace T86
open PySem PySem.Spec PyProof.Rows L2 DL
def clsAll : List Str := ["WireError", "InvalidTable", "InvalidProcess", "InvalidIndex", "InvalidNumber", "InvalidCapacity", "InvalidCloses", "NoCalls", "NotCurable", "EmptyHistory", "InvalidProgram", "InvalidRedirection", "InvalidCalls", "InvalidText", "FailingWords", "NotPossible", "NotCalm", "Endless", "TooLarge"]
def isa (D : Str) : Str → Bool := fun c => c == D || D == "WireError"
def cls_process : List Str := ["InvalidProgram", "NotCalm"]
def cls_index : List Str := ["InvalidProgram", "InvalidRedirection", "InvalidCalls", "NotPossible"]
def cls_word : List Str := ["InvalidText"]
def cls_number : List Str := ["FailingWords"]
def cls_j : List Str := ["NotCalm"]
def cls_processes : List Str := ["Endless"]
def cls_limit : List Str := ["TooLarge"]
def ex (K : PySem.W.Frag) : Bool := (clsAll.all fun x => xcB K (He.ga K x)) && (clsAll.all fun x => clsAll.all fun y => kiB K x y (isa y x)) && (clsAll.all fun x => kiT K x "ValueError" true) && (cls_process.all fun x => He.eqO (PySem.W.findIn K (.ref (He.ga K x)) "process") (some none)) && (cls_index.all fun x => He.eqO (PySem.W.findIn K (.ref (He.ga K x)) "index") (some none)) && (cls_word.all fun x => He.eqO (PySem.W.findIn K (.ref (He.ga K x)) "word") (some none)) && (cls_number.all fun x => He.eqO (PySem.W.findIn K (.ref (He.ga K x)) "number") (some none)) && (cls_j.all fun x => He.eqO (PySem.W.findIn K (.ref (He.ga K x)) "j") (some none)) && (cls_processes.all fun x => He.eqO (PySem.W.findIn K (.ref (He.ga K x)) "processes") (some none)) && (cls_limit.all fun x => He.eqO (PySem.W.findIn K (.ref (He.ga K x)) "limit") (some none)) && (plB K "WireError") && (plB K "InvalidTable") && (plB K "InvalidProcess") && (plB K "InvalidIndex") && (plB K "InvalidNumber") && (plB K "InvalidCapacity") && (plB K "InvalidCloses") && (plB K "NoCalls") && (plB K "NotCurable") && (plB K "EmptyHistory")
/-! ### the text -/
def top (i : Nat) : Stmt := PySem.Challenge.pw_fdwires_k86_errors_are_distinct.main.body.getD i (.Pass ⟨0, 0, 0, 0⟩)
def inCls (s : Stmt) (j : Nat) : Stmt := match s with | .ClassDef (body := b) .. => b.getD j (.Pass ⟨0, 0, 0, 0⟩) | _ => .Pass ⟨0, 0, 0, 0⟩
abbrev s__law_bag : Stmt := top 21
abbrev s__law_draw : Stmt := top 22
abbrev s__law_marks : Stmt := top 23
abbrev s__law_fields_right : Stmt := top 24
abbrev s__law_right : Stmt := top 25
abbrev s_law : Stmt := top 26
abbrev si_InvalidProgram : Stmt := inCls (top 11) 0
abbrev si_InvalidRedirection : Stmt := inCls (top 12) 0
abbrev si_InvalidCalls : Stmt := inCls (top 13) 0
abbrev si_InvalidText : Stmt := inCls (top 14) 0
abbrev si_FailingWords : Stmt := inCls (top 15) 0
abbrev si_NotPossible : Stmt := inCls (top 16) 0
abbrev si_NotCalm : Stmt := inCls (top 17) 0
abbrev si_Endless : Stmt := inCls (top 18) 0
abbrev si_TooLarge : Stmt := inCls (top 19) 0
def d__law_bag : He.DefD := ⟨("_law_bag", none), "_law_bag", "_law_bag", defArgs s__law_bag, defBody s__law_bag, defScope s__law_bag, [], []⟩
def d__law_draw : He.DefD := ⟨("_law_draw", none), "_law_draw", "_law_draw", defArgs s__law_draw, defBody s__law_draw, defScope s__law_draw, [], []⟩
def d__law_marks : He.DefD := ⟨("_law_marks", none), "_law_marks", "_law_marks", defArgs s__law_marks, defBody s__law_marks, defScope s__law_marks, [], []⟩
def d__law_fields_right : He.DefD := ⟨("_law_fields_right", none), "_law_fields_right", "_law_fields_right", defArgs s__law_fields_right, defBody s__law_fields_right, defScope s__law_fields_right, [], []⟩
def d__law_right : He.DefD := ⟨("_law_right", none), "_law_right", "_law_right", defArgs s__law_right, defBody s__law_right, defScope s__law_right, [], []⟩
def d_law : He.DefD := ⟨("law", none), "law", "law", defArgs s_law, defBody s_law, defScope s_law, [], []⟩
def i_InvalidProgram : InD := ⟨"InvalidProgram", defArgs si_InvalidProgram, defBody si_InvalidProgram, defScope si_InvalidProgram, ["process", "index"]⟩
def i_InvalidRedirection : InD := ⟨"InvalidRedirection", defArgs si_InvalidRedirection, defBody si_InvalidRedirection, defScope si_InvalidRedirection, ["index"]⟩
def i_InvalidCalls : InD := ⟨"InvalidCalls", defArgs si_InvalidCalls, defBody si_InvalidCalls, defScope si_InvalidCalls, ["index"]⟩
def i_InvalidText : InD := ⟨"InvalidText", defArgs si_InvalidText, defBody si_InvalidText, defScope si_InvalidText, ["word"]⟩
def i_FailingWords : InD := ⟨"FailingWords", defArgs si_FailingWords, defBody si_FailingWords, defScope si_FailingWords, ["number"]⟩
def i_NotPossible : InD := ⟨"NotPossible", defArgs si_NotPossible, defBody si_NotPossible, defScope si_NotPossible, ["index"]⟩
def i_NotCalm : InD := ⟨"NotCalm", defArgs si_NotCalm, defBody si_NotCalm, defScope si_NotCalm, ["process", "j"]⟩
def i_Endless : InD := ⟨"Endless", defArgs si_Endless, defBody si_Endless, defScope si_Endless, ["processes"]⟩
def i_TooLarge : InD := ⟨"TooLarge", defArgs si_TooLarge, defBody si_TooLarge, defScope si_TooLarge, ["limit"]⟩
def fn : List He.DefD := [d__law_bag, d__law_draw, d__law_marks, d__law_fields_right, d__law_right, d_law]
def ins : List InD := [i_InvalidProgram, i_InvalidRedirection, i_InvalidCalls, i_InvalidText, i_FailingWords, i_NotPossible, i_NotCalm, i_Endless, i_TooLarge]
def fa : List He.Fa := [.glo "_law_bag", .glo "_law_draw", .glo "_law_marks", .glo "_law_fields_right", .glo "_law_right", .glo "law", .glo "WireError", .glo "InvalidTable", .glo "InvalidProcess", .glo "InvalidIndex", .glo "InvalidNumber", .glo "InvalidCapacity", .glo "InvalidCloses", .glo "NoCalls", .glo "NotCurable", .glo "EmptyHistory", .glo "InvalidProgram", .glo "InvalidRedirection", .glo "InvalidCalls", .glo "InvalidText", .glo "FailingWords", .glo "NotPossible", .glo "NotCalm", .glo "Endless", .glo "TooLarge", .keep "WireError", .keep "InvalidTable", .keep "InvalidProcess", .keep "InvalidIndex", .keep "InvalidNumber", .keep "InvalidCapacity", .keep "InvalidCloses", .keep "NoCalls", .keep "NotCurable", .keep "EmptyHistory", .keep "InvalidProgram", .keep "InvalidRedirection", .keep "InvalidCalls", .keep "InvalidText", .keep "FailingWords", .keep "NotPossible", .keep "NotCalm", .keep "Endless", .keep "TooLarge", .free "isinstance", .free "len", .free "int", .free "range", .free "super", .free "ValueError", .exc "WireError", .exc "InvalidTable", .exc "InvalidProcess", .exc "InvalidIndex", .exc "InvalidNumber", .exc "InvalidCapacity", .exc "InvalidCloses", .exc "NoCalls", .exc "NotCurable", .exc "EmptyHistory"]
def tabs : List He.Tab := []
def loose0 : List Str := ["_law_bag", "_law_draw", "_law_marks", "_law_fields_right", "_law_right", "WireError", "InvalidTable", "InvalidProcess", "InvalidIndex", "InvalidNumber", "InvalidCapacity", "InvalidCloses", "NoCalls", "NotCurable", "EmptyHistory", "InvalidProgram", "InvalidRedirection", "InvalidCalls", "InvalidText", "FailingWords", "NotPossible", "NotCalm", "Endless", "TooLarge"]
def loose : List Str := loose0
abbrev Rr : PySem.W.OpenRow := PySem.W.OpenLaw.row PySem.Challenge.rw_fdwires_k86_errors_are_distinct
def file : Str := PySem.Challenge.pw_fdwires_k86_errors_are_distinct.main.file
abbrev hk : PySem.W.Hook := hookZ file 5 fa fn tabs ins ex
def ob (s : PySem.W.SharedT) : AlZ := obsZ file 5 fa fn tabs ins ex (HandSHeadRun.getT s)
theorem ob_eq (s : PySem.W.SharedT) : ob s = hk.obs s.abs := obsZ_eq (HandSHeadRun.getT_eq s)
structure Fx (P : Program) (w : World) (K : PySem.W.Frag) (mg : Str → Option Value) (base : Heap) : Prop where
  n_isinstance : mg "isinstance" = none
  n_len : mg "len" = none
  n_int : mg "int" = none
  n_range : mg "range" = none
  n_super : mg "super" = none
  n_ValueError : mg "ValueError" = none
  d__law_bag : ∃ f fd, FunD K "_law_bag" "_law_bag" (defArgs s__law_bag) (defBody s__law_bag) (defScope s__law_bag) [] [] f fd ∧ mg "_law_bag" = some (.ref f)
  d__law_draw : ∃ f fd, FunD K "_law_draw" "_law_draw" (defArgs s__law_draw) (defBody s__law_draw) (defScope s__law_draw) [] [] f fd ∧ mg "_law_draw" = some (.ref f)
  d__law_marks : ∃ f fd, FunD K "_law_marks" "_law_marks" (defArgs s__law_marks) (defBody s__law_marks) (defScope s__law_marks) [] [] f fd ∧ mg "_law_marks" = some (.ref f)
  d__law_fields_right : ∃ f fd, FunD K "_law_fields_right" "_law_fields_right" (defArgs s__law_fields_right) (defBody s__law_fields_right) (defScope s__law_fields_right) [] [] f fd ∧ mg "_law_fields_right" = some (.ref f)
  d__law_right : ∃ f fd, FunD K "_law_right" "_law_right" (defArgs s__law_right) (defBody s__law_right) (defScope s__law_right) [] [] f fd ∧ mg "_law_right" = some (.ref f)
  d_law : ∃ f fd, FunD K "law" "law" (defArgs s_law) (defBody s_law) (defScope s_law) [] [] f fd ∧ mg "law" = some (.ref f)
  m_WireError : mg "WireError" = some (.ref (He.ga K "WireError"))
  p_WireError : plB K "WireError" = true
  m_InvalidTable : mg "InvalidTable" = some (.ref (He.ga K "InvalidTable"))
  p_InvalidTable : plB K "InvalidTable" = true
  m_InvalidProcess : mg "InvalidProcess" = some (.ref (He.ga K "InvalidProcess"))
  p_InvalidProcess : plB K "InvalidProcess" = true
  m_InvalidIndex : mg "InvalidIndex" = some (.ref (He.ga K "InvalidIndex"))
  p_InvalidIndex : plB K "InvalidIndex" = true
  m_InvalidNumber : mg "InvalidNumber" = some (.ref (He.ga K "InvalidNumber"))
  p_InvalidNumber : plB K "InvalidNumber" = true
  m_InvalidCapacity : mg "InvalidCapacity" = some (.ref (He.ga K "InvalidCapacity"))
  p_InvalidCapacity : plB K "InvalidCapacity" = true
  m_InvalidCloses : mg "InvalidCloses" = some (.ref (He.ga K "InvalidCloses"))
  p_InvalidCloses : plB K "InvalidCloses" = true
  m_NoCalls : mg "NoCalls" = some (.ref (He.ga K "NoCalls"))
  p_NoCalls : plB K "NoCalls" = true
  m_NotCurable : mg "NotCurable" = some (.ref (He.ga K "NotCurable"))
  p_NotCurable : plB K "NotCurable" = true
  m_EmptyHistory : mg "EmptyHistory" = some (.ref (He.ga K "EmptyHistory"))
  p_EmptyHistory : plB K "EmptyHistory" = true
  m_InvalidProgram : mg "InvalidProgram" = some (.ref (He.ga K "InvalidProgram"))
  r_InvalidProgram : RaiseG P w K mg base "InvalidProgram" ["process", "index"]
  m_InvalidRedirection : mg "InvalidRedirection" = some (.ref (He.ga K "InvalidRedirection"))
  r_InvalidRedirection : RaiseG P w K mg base "InvalidRedirection" ["index"]
  m_InvalidCalls : mg "InvalidCalls" = some (.ref (He.ga K "InvalidCalls"))
  r_InvalidCalls : RaiseG P w K mg base "InvalidCalls" ["index"]
  m_InvalidText : mg "InvalidText" = some (.ref (He.ga K "InvalidText"))
  r_InvalidText : RaiseG P w K mg base "InvalidText" ["word"]
  m_FailingWords : mg "FailingWords" = some (.ref (He.ga K "FailingWords"))
  r_FailingWords : RaiseG P w K mg base "FailingWords" ["number"]
  m_NotPossible : mg "NotPossible" = some (.ref (He.ga K "NotPossible"))
  r_NotPossible : RaiseG P w K mg base "NotPossible" ["index"]
  m_NotCalm : mg "NotCalm" = some (.ref (He.ga K "NotCalm"))
  r_NotCalm : RaiseG P w K mg base "NotCalm" ["process", "j"]
  m_Endless : mg "Endless" = some (.ref (He.ga K "Endless"))
  r_Endless : RaiseG P w K mg base "Endless" ["processes"]
  m_TooLarge : mg "TooLarge" = some (.ref (He.ga K "TooLarge"))
  r_TooLarge : RaiseG P w K mg base "TooLarge" ["limit"]
  ki_WireError : ∀ z ∈ clsAll, XcK K (He.ga K z) ∧ PySem.W.kitOne K (.ref (He.ga K z)) (.ref (He.ga K "WireError")) = some (isa "WireError" z)
  ki_InvalidTable : ∀ z ∈ clsAll, XcK K (He.ga K z) ∧ PySem.W.kitOne K (.ref (He.ga K z)) (.ref (He.ga K "InvalidTable")) = some (isa "InvalidTable" z)
  ki_InvalidProcess : ∀ z ∈ clsAll, XcK K (He.ga K z) ∧ PySem.W.kitOne K (.ref (He.ga K z)) (.ref (He.ga K "InvalidProcess")) = some (isa "InvalidProcess" z)
  ki_InvalidIndex : ∀ z ∈ clsAll, XcK K (He.ga K z) ∧ PySem.W.kitOne K (.ref (He.ga K z)) (.ref (He.ga K "InvalidIndex")) = some (isa "InvalidIndex" z)
  ki_InvalidNumber : ∀ z ∈ clsAll, XcK K (He.ga K z) ∧ PySem.W.kitOne K (.ref (He.ga K z)) (.ref (He.ga K "InvalidNumber")) = some (isa "InvalidNumber" z)
  ki_InvalidCapacity : ∀ z ∈ clsAll, XcK K (He.ga K z) ∧ PySem.W.kitOne K (.ref (He.ga K z)) (.ref (He.ga K "InvalidCapacity")) = some (isa "InvalidCapacity" z)
  ki_InvalidCloses : ∀ z ∈ clsAll, XcK K (He.ga K z) ∧ PySem.W.kitOne K (.ref (He.ga K z)) (.ref (He.ga K "InvalidCloses")) = some (isa "InvalidCloses" z)
  ki_NoCalls : ∀ z ∈ clsAll, XcK K (He.ga K z) ∧ PySem.W.kitOne K (.ref (He.ga K z)) (.ref (He.ga K "NoCalls")) = some (isa "NoCalls" z)
  ki_NotCurable : ∀ z ∈ clsAll, XcK K (He.ga K z) ∧ PySem.W.kitOne K (.ref (He.ga K z)) (.ref (He.ga K "NotCurable")) = some (isa "NotCurable" z)
  ki_EmptyHistory : ∀ z ∈ clsAll, XcK K (He.ga K z) ∧ PySem.W.kitOne K (.ref (He.ga K z)) (.ref (He.ga K "EmptyHistory")) = some (isa "EmptyHistory" z)
  ki_InvalidProgram : ∀ z ∈ clsAll, XcK K (He.ga K z) ∧ PySem.W.kitOne K (.ref (He.ga K z)) (.ref (He.ga K "InvalidProgram")) = some (isa "InvalidProgram" z)
  ki_InvalidRedirection : ∀ z ∈ clsAll, XcK K (He.ga K z) ∧ PySem.W.kitOne K (.ref (He.ga K z)) (.ref (He.ga K "InvalidRedirection")) = some (isa "InvalidRedirection" z)
  ki_InvalidCalls : ∀ z ∈ clsAll, XcK K (He.ga K z) ∧ PySem.W.kitOne K (.ref (He.ga K z)) (.ref (He.ga K "InvalidCalls")) = some (isa "InvalidCalls" z)
  ki_InvalidText : ∀ z ∈ clsAll, XcK K (He.ga K z) ∧ PySem.W.kitOne K (.ref (He.ga K z)) (.ref (He.ga K "InvalidText")) = some (isa "InvalidText" z)
  ki_FailingWords : ∀ z ∈ clsAll, XcK K (He.ga K z) ∧ PySem.W.kitOne K (.ref (He.ga K z)) (.ref (He.ga K "FailingWords")) = some (isa "FailingWords" z)
  ki_NotPossible : ∀ z ∈ clsAll, XcK K (He.ga K z) ∧ PySem.W.kitOne K (.ref (He.ga K z)) (.ref (He.ga K "NotPossible")) = some (isa "NotPossible" z)
  ki_NotCalm : ∀ z ∈ clsAll, XcK K (He.ga K z) ∧ PySem.W.kitOne K (.ref (He.ga K z)) (.ref (He.ga K "NotCalm")) = some (isa "NotCalm" z)
  ki_Endless : ∀ z ∈ clsAll, XcK K (He.ga K z) ∧ PySem.W.kitOne K (.ref (He.ga K z)) (.ref (He.ga K "Endless")) = some (isa "Endless" z)
  ki_TooLarge : ∀ z ∈ clsAll, XcK K (He.ga K z) ∧ PySem.W.kitOne K (.ref (He.ga K z)) (.ref (He.ga K "TooLarge")) = some (isa "TooLarge" z)
  ki_ValueError : ∀ z ∈ clsAll, XcK K (He.ga K z) ∧ PySem.W.kitOne K (.ref (He.ga K z)) (.type "ValueError") = some true
  fld_process : ∀ z ∈ cls_process, XcK K (He.ga K z) ∧ PySem.W.findIn K (.ref (He.ga K z)) "process" = some none
  fld_index : ∀ z ∈ cls_index, XcK K (He.ga K z) ∧ PySem.W.findIn K (.ref (He.ga K z)) "index" = some none
  fld_word : ∀ z ∈ cls_word, XcK K (He.ga K z) ∧ PySem.W.findIn K (.ref (He.ga K z)) "word" = some none
  fld_number : ∀ z ∈ cls_number, XcK K (He.ga K z) ∧ PySem.W.findIn K (.ref (He.ga K z)) "number" = some none
  fld_j : ∀ z ∈ cls_j, XcK K (He.ga K z) ∧ PySem.W.findIn K (.ref (He.ga K z)) "j" = some none
  fld_processes : ∀ z ∈ cls_processes, XcK K (He.ga K z) ∧ PySem.W.findIn K (.ref (He.ga K z)) "processes" = some none
  fld_limit : ∀ z ∈ cls_limit, XcK K (He.ga K z) ∧ PySem.W.findIn K (.ref (He.ga K z)) "limit" = some none
def t__law_bag_a_0 : SV := (sIf (tVal (eBin (sop ltD) (eV 0) (eK (.int 0))))
    (sRet (eNew (aCons (eNeg (eV 0)) (aCons (eBin (dop addD) (eBin (dop mulD) (eK (.int 37)) (eV 1)) (eK (.int 18))) aNil))))
    sNil)
def t__law_bag_a_1 : SV := (sRet (eNew (aCons (eV 0) (aCons (eBin (dop mulD) (eK (.int 37)) (eV 1)) aNil))))
def m__law_bag : SV := (sSeq t__law_bag_a_0
    t__law_bag_a_1)
def F__law_bag : Fn := fnOf 2 0 m__law_bag
def t__law_draw_a_0 : SV := (sPutI (dop addI) (eV 0) (eK (.int 1)) (eK (.int 1)))
def t__law_draw_a_1 : SV := (sIf (tVal (eBin (sop geD) (eBin ixO (eV 0) (eK (.int 0))) (eBin (dop powD) (eK (.int 10)) (eK (.int 18)))))
    (sSeq (sSet (.n 2) (eBin (dop modD) (eBin ixO (eV 0) (eK (.int 0))) (eV 1)))
    (sSeq (sPut (eV 0) (eK (.int 0)) (eBin (dop fdivD) (eBin ixO (eV 0) (eK (.int 0))) (eV 1)))
    (sRet (eV 2))))
    sNil)
def t__law_draw_a_2 : SV := (sSet (.n 3) (eBin (dop modD) (eBin (dop addD) (eBin (dop addD) (eBin (dop modD) (eBin ixO (eV 0) (eK (.int 0))) (eK (.int 2147483629))) (eBin (dop mulD) (eK (.int 104729)) (eBin ixO (eV 0) (eK (.int 1))))) (eK (.int 1))) (eK (.int 2147483587))))
def t__law_draw_a_3 : SV := (sSet (.n 3) (eBin (dop modD) (eBin (dop mulD) (eV 3) (eV 3)) (eK (.int 2147483587))))
def t__law_draw_a_4 : SV := (sSet (.n 3) (eBin (dop modD) (eBin (dop addD) (eV 3) (eBin (dop mulD) (eK (.int 40692)) (eBin ixO (eV 0) (eK (.int 1))))) (eK (.int 2147483563))))
def t__law_draw_a_5 : SV := (sSet (.n 3) (eBin (dop modD) (eBin (dop mulD) (eV 3) (eV 3)) (eK (.int 2147483563))))
def t__law_draw_a_6 : SV := (sRet (eBin (dop modD) (eBin (dop fdivD) (eV 3) (eK (.int 8))) (eV 1)))
def m__law_draw : SV := (sSeq t__law_draw_a_0
    (sSeq t__law_draw_a_1
    (sSeq t__law_draw_a_2
    (sSeq t__law_draw_a_3
    (sSeq t__law_draw_a_4
    (sSeq t__law_draw_a_5
    t__law_draw_a_6))))))
def F__law_draw : Fn := fnOf 2 2 m__law_draw
def t__law_marks_a_0 : SV := (sSet (.n 1) (eLst aNil))
def t__law_marks_a_1 : SV := (sSet (.n 1) (eBin (dop addD) (eV 1) (eLst (aCons (eIsX clsAll (isa "EmptyHistory") (eV 0)) (aCons (eIsX clsAll (isa "Endless") (eV 0)) aNil)))))
def t__law_marks_a_2 : SV := (sSet (.n 1) (eBin (dop addD) (eV 1) (eLst (aCons (eIsX clsAll (isa "FailingWords") (eV 0)) (aCons (eIsX clsAll (isa "InvalidCalls") (eV 0)) aNil)))))
def t__law_marks_a_3 : SV := (sSet (.n 1) (eBin (dop addD) (eV 1) (eLst (aCons (eIsX clsAll (isa "InvalidCapacity") (eV 0)) (aCons (eIsX clsAll (isa "InvalidCloses") (eV 0)) aNil)))))
def t__law_marks_a_4 : SV := (sSet (.n 1) (eBin (dop addD) (eV 1) (eLst (aCons (eIsX clsAll (isa "InvalidIndex") (eV 0)) (aCons (eIsX clsAll (isa "InvalidNumber") (eV 0)) aNil)))))
def t__law_marks_a_5 : SV := (sSet (.n 1) (eBin (dop addD) (eV 1) (eLst (aCons (eIsX clsAll (isa "InvalidProcess") (eV 0)) (aCons (eIsX clsAll (isa "InvalidProgram") (eV 0)) aNil)))))
def t__law_marks_a_6 : SV := (sSet (.n 1) (eBin (dop addD) (eV 1) (eLst (aCons (eIsX clsAll (isa "InvalidRedirection") (eV 0)) (aCons (eIsX clsAll (isa "InvalidTable") (eV 0)) aNil)))))
def t__law_marks_a_7 : SV := (sSet (.n 1) (eBin (dop addD) (eV 1) (eLst (aCons (eIsX clsAll (isa "InvalidText") (eV 0)) (aCons (eIsX clsAll (isa "NoCalls") (eV 0)) aNil)))))
def t__law_marks_a_8 : SV := (sSet (.n 1) (eBin (dop addD) (eV 1) (eLst (aCons (eIsX clsAll (isa "NotCalm") (eV 0)) (aCons (eIsX clsAll (isa "NotCurable") (eV 0)) aNil)))))
def t__law_marks_a_9 : SV := (sSet (.n 1) (eBin (dop addD) (eV 1) (eLst (aCons (eIsX clsAll (isa "NotPossible") (eV 0)) (aCons (eIsX clsAll (isa "TooLarge") (eV 0)) aNil)))))
def t__law_marks_a_10 : SV := (sRet (eV 1))
def m__law_marks : SV := (sSeq t__law_marks_a_0
    (sSeq t__law_marks_a_1
    (sSeq t__law_marks_a_2
    (sSeq t__law_marks_a_3
    (sSeq t__law_marks_a_4
    (sSeq t__law_marks_a_5
    (sSeq t__law_marks_a_6
    (sSeq t__law_marks_a_7
    (sSeq t__law_marks_a_8
    (sSeq t__law_marks_a_9
    t__law_marks_a_10))))))))))
def F__law_marks : Fn := fnOf 1 1 m__law_marks
def t__law_fields_right_a_0 : SV := (sSet (.n 1) (eLst aNil))
def t__law_fields_right_a_1 : SV := (sSet (.n 2) (eLst aNil))
def t__law_fields_right_a_2 : SV := (sSet (.n 3) (eTup (aCons (eBin (dop modD) (eCall (call1 intD) (aCons (eV 0) aNil)) (eK (.int 3))) aNil)))
def t__law_fields_right_a_3 : SV := (sPar [4, 5] (aCons (eMkX "InvalidProgram" ["process", "index"] (aCons (eV 3) (aCons (eV 0) aNil))) (aCons (eMkX "InvalidProgram" ["process", "index"] (aCons (eV 3) (aCons (eV 0) aNil))) aNil)))
def t__law_fields_right_a_4 : SV := (sSet (.n 1) (eBin (dop addD) (eV 1) (eLst (aCons (eFldX cls_process "process" (eV 4)) (aCons (eFldX cls_process "process" (eV 5)) (aCons (eFldX cls_index "index" (eV 4)) (aCons (eFldX cls_index "index" (eV 5)) aNil)))))))
def t__law_fields_right_a_5 : SV := (sSet (.n 2) (eBin (dop addD) (eBin (dop addD) (eV 2) (eBin (dop mulD) (eLst (aCons (eV 3) aNil)) (eK (.int 2)))) (eBin (dop mulD) (eLst (aCons (eV 0) aNil)) (eK (.int 2)))))
def t__law_fields_right_a_6 : SV := (sSet (.n 1) (eBin (dop addD) (eV 1) (eLst (aCons (eFldX cls_index "index" (eMkX "InvalidRedirection" ["index"] (aCons (eV 0) aNil))) (aCons (eFldX cls_index "index" (eMkX "InvalidRedirection" ["index"] (aCons (eV 0) aNil))) aNil)))))
def t__law_fields_right_a_7 : SV := (sSet (.n 2) (eBin (dop addD) (eV 2) (eBin (dop mulD) (eLst (aCons (eV 0) aNil)) (eK (.int 2)))))
def t__law_fields_right_a_8 : SV := (sSet (.n 1) (eBin (dop addD) (eV 1) (eLst (aCons (eFldX cls_index "index" (eMkX "InvalidCalls" ["index"] (aCons (eV 0) aNil))) (aCons (eFldX cls_index "index" (eMkX "InvalidCalls" ["index"] (aCons (eV 0) aNil))) aNil)))))
def t__law_fields_right_a_9 : SV := (sSet (.n 2) (eBin (dop addD) (eV 2) (eBin (dop mulD) (eLst (aCons (eV 0) aNil)) (eK (.int 2)))))
def t__law_fields_right_a_10 : SV := (sSet (.n 1) (eBin (dop addD) (eV 1) (eLst (aCons (eFldX cls_word "word" (eMkX "InvalidText" ["word"] (aCons (eV 0) aNil))) (aCons (eFldX cls_word "word" (eMkX "InvalidText" ["word"] (aCons (eV 0) aNil))) aNil)))))
def t__law_fields_right_a_11 : SV := (sSet (.n 2) (eBin (dop addD) (eV 2) (eBin (dop mulD) (eLst (aCons (eV 0) aNil)) (eK (.int 2)))))
def t__law_fields_right_a_12 : SV := (sSet (.n 6) (eBin (dop modD) (eCall (call1 intD) (aCons (eV 0) aNil)) (eK (.int 10))))
def t__law_fields_right_a_13 : SV := (sSet (.n 1) (eBin (dop addD) (eV 1) (eLst (aCons (eFldX cls_number "number" (eMkX "FailingWords" ["number"] (aCons (eV 6) aNil))) (aCons (eFldX cls_number "number" (eMkX "FailingWords" ["number"] (aCons (eV 6) aNil))) aNil)))))
def t__law_fields_right_a_14 : SV := (sSet (.n 2) (eBin (dop addD) (eV 2) (eBin (dop mulD) (eLst (aCons (eV 6) aNil)) (eK (.int 2)))))
def t__law_fields_right_a_15 : SV := (sSet (.n 1) (eBin (dop addD) (eV 1) (eLst (aCons (eFldX cls_index "index" (eMkX "NotPossible" ["index"] (aCons (eV 0) aNil))) (aCons (eFldX cls_index "index" (eMkX "NotPossible" ["index"] (aCons (eV 0) aNil))) aNil)))))
def t__law_fields_right_a_16 : SV := (sSet (.n 2) (eBin (dop addD) (eV 2) (eBin (dop mulD) (eLst (aCons (eV 0) aNil)) (eK (.int 2)))))
def t__law_fields_right_a_17 : SV := (sPar [4, 5] (aCons (eMkX "NotCalm" ["process", "j"] (aCons (eV 3) (aCons (eV 0) aNil))) (aCons (eMkX "NotCalm" ["process", "j"] (aCons (eV 3) (aCons (eV 0) aNil))) aNil)))
def t__law_fields_right_a_18 : SV := (sSet (.n 1) (eBin (dop addD) (eV 1) (eLst (aCons (eFldX cls_process "process" (eV 4)) (aCons (eFldX cls_process "process" (eV 5)) (aCons (eFldX cls_j "j" (eV 4)) (aCons (eFldX cls_j "j" (eV 5)) aNil)))))))
def t__law_fields_right_a_19 : SV := (sSet (.n 2) (eBin (dop addD) (eBin (dop addD) (eV 2) (eBin (dop mulD) (eLst (aCons (eV 3) aNil)) (eK (.int 2)))) (eBin (dop mulD) (eLst (aCons (eV 0) aNil)) (eK (.int 2)))))
def t__law_fields_right_a_20 : SV := (sSet (.n 1) (eBin (dop addD) (eV 1) (eLst (aCons (eFldX cls_processes "processes" (eMkX "Endless" ["processes"] (aCons (eTup (aCons (eV 3) aNil)) aNil))) (aCons (eFldX cls_processes "processes" (eMkX "Endless" ["processes"] (aCons (eTup (aCons (eV 3) aNil)) aNil))) aNil)))))
def t__law_fields_right_a_21 : SV := (sSet (.n 2) (eBin (dop addD) (eV 2) (eBin (dop mulD) (eLst (aCons (eTup (aCons (eV 3) aNil)) aNil)) (eK (.int 2)))))
def t__law_fields_right_a_22 : SV := (sSet (.n 1) (eBin (dop addD) (eV 1) (eLst (aCons (eFldX cls_limit "limit" (eMkX "TooLarge" ["limit"] (aCons (eV 0) aNil))) (aCons (eFldX cls_limit "limit" (eMkX "TooLarge" ["limit"] (aCons (eV 0) aNil))) aNil)))))
def t__law_fields_right_a_23 : SV := (sSet (.n 2) (eBin (dop addD) (eV 2) (eBin (dop mulD) (eLst (aCons (eV 0) aNil)) (eK (.int 2)))))
def t__law_fields_right_a_24 : SV := (sRet (eBin (sop eqD) (eV 1) (eV 2)))
def m__law_fields_right : SV := (sSeq t__law_fields_right_a_0
    (sSeq t__law_fields_right_a_1
    (sSeq t__law_fields_right_a_2
    (sSeq t__law_fields_right_a_3
    (sSeq t__law_fields_right_a_4
    (sSeq t__law_fields_right_a_5
    (sSeq t__law_fields_right_a_6
    (sSeq t__law_fields_right_a_7
    (sSeq t__law_fields_right_a_8
    (sSeq t__law_fields_right_a_9
    (sSeq t__law_fields_right_a_10
    (sSeq t__law_fields_right_a_11
    (sSeq t__law_fields_right_a_12
    (sSeq t__law_fields_right_a_13
    (sSeq t__law_fields_right_a_14
    (sSeq t__law_fields_right_a_15
    (sSeq t__law_fields_right_a_16
    (sSeq t__law_fields_right_a_17
    (sSeq t__law_fields_right_a_18
    (sSeq t__law_fields_right_a_19
    (sSeq t__law_fields_right_a_20
    (sSeq t__law_fields_right_a_21
    (sSeq t__law_fields_right_a_22
    (sSeq t__law_fields_right_a_23
    t__law_fields_right_a_24))))))))))))))))))))))))
def F__law_fields_right : Fn := fnOf 1 6 m__law_fields_right
def t__law_right_a_0 : SV := (sSet (.n 2) (eNew aNil))
def t__law_right_a_1 : SV := (sSet (.n 2) (eBin addC (eV 2) (eNew (aCons (eMkX0 "EmptyHistory" (aCons (eV 0) aNil)) (aCons (eMkX "Endless" ["processes"] (aCons (eTup (aCons (eTup aNil) aNil)) aNil)) (aCons (eMkX "FailingWords" ["number"] (aCons (eK (.int 7)) aNil)) aNil))))))
def t__law_right_a_2 : SV := (sSet (.n 2) (eBin addC (eV 2) (eNew (aCons (eMkX "InvalidCalls" ["index"] (aCons (eV 1) aNil)) (aCons (eMkX0 "InvalidCapacity" (aCons (eV 0) aNil)) (aCons (eMkX0 "InvalidCloses" (aCons (eV 0) aNil)) aNil))))))
def t__law_right_a_3 : SV := (sSet (.n 2) (eBin addC (eV 2) (eNew (aCons (eMkX0 "InvalidIndex" (aCons (eV 0) aNil)) (aCons (eMkX0 "InvalidNumber" (aCons (eV 0) aNil)) (aCons (eMkX0 "InvalidProcess" (aCons (eV 0) aNil)) aNil))))))
def t__law_right_a_4 : SV := (sSet (.n 2) (eBin addC (eV 2) (eNew (aCons (eMkX "InvalidProgram" ["process", "index"] (aCons (eTup (aCons (eV 1) aNil)) (aCons (eV 1) aNil))) (aCons (eMkX "InvalidRedirection" ["index"] (aCons (eV 1) aNil)) (aCons (eMkX0 "InvalidTable" (aCons (eV 0) aNil)) aNil))))))
def t__law_right_a_5 : SV := (sSet (.n 2) (eBin addC (eV 2) (eNew (aCons (eMkX "InvalidText" ["word"] (aCons (eV 1) aNil)) (aCons (eMkX0 "NoCalls" (aCons (eV 0) aNil)) (aCons (eMkX "NotCalm" ["process", "j"] (aCons (eTup aNil) (aCons (eV 1) aNil))) aNil))))))
def t__law_right_a_6 : SV := (sSet (.n 2) (eBin addC (eV 2) (eNew (aCons (eMkX0 "NotCurable" (aCons (eV 0) aNil)) (aCons (eMkX "NotPossible" ["index"] (aCons (eV 1) aNil)) (aCons (eMkX "TooLarge" ["limit"] (aCons (eV 1) aNil)) aNil))))))
def b__law_right_a_7 : SV := (sSeq (sIf (tVal (eBin (sop neD) (eFnP F__law_marks (aCons (eBin ixO (eV 2) (eV 3)) aNil)) (eLc (iRng1 (aCons (eK (.int 18)) aNil)) [4] (.n 4) tTrue (eBin (sop eqD) (eV 4) (eV 3)))))
    (sRet (eK (.bool false)))
    sNil)
    (sIf (tOr (tNot (tVal (eIsX clsAll (isa "WireError") (eBin ixO (eV 2) (eV 3))))) (tNot (tVal (eIsX clsAll (fun _ => true) (eBin ixO (eV 2) (eV 3))))))
    (sRet (eK (.bool false)))
    sNil))
def t__law_right_a_7 : SV := (sFor (iRng1 (aCons (eK (.int 18)) aNil)) (.n 3)
    b__law_right_a_7)
def t__law_right_a_8 : SV := (sRet (eAnd (eFnP F__law_fields_right (aCons (eV 1) aNil)) (eBin (sop notInD) (eK (.bool true)) (eFnP F__law_marks (aCons (eMkX0 "WireError" (aCons (eV 0) aNil)) aNil)))))
def m__law_right : SV := (sSeq t__law_right_a_0
    (sSeq t__law_right_a_1
    (sSeq t__law_right_a_2
    (sSeq t__law_right_a_3
    (sSeq t__law_right_a_4
    (sSeq t__law_right_a_5
    (sSeq t__law_right_a_6
    (sSeq t__law_right_a_7
    t__law_right_a_8))))))))
def F__law_right : Fn := fnOf 2 3 m__law_right
def t_law_a_0 : SV := (sSet (.n 1) (eBin (dop addD) (eSl (eV 0) pNone (pSome (eK (.int 12)))) (eBin (dop mulD) (eLst (aCons (eK (.int 0)) aNil)) (eCall (call1 intD) (aCons (eBin (sop eqD) (eV 0) (eLst aNil)) aNil)))))
def b_law_a_1 : SV := (sSeq (sSet (.n 3) (eFn F__law_bag (aCons (eBin ixO (eV 1) (eV 2)) (aCons (eV 2) aNil))))
    (sSeq (sSet (.n 4) (eBin (dop mulD) (eBin ixO (eK (.str "a| ~")) (eFn F__law_draw (aCons (eV 3) (aCons (eK (.int 4)) aNil)))) (eFn F__law_draw (aCons (eV 3) (aCons (eK (.int 60)) aNil)))))
    (sIf (tNot (tVal (eFnP F__law_right (aCons (eV 4) (aCons (eFn F__law_draw (aCons (eV 3) (aCons (eBin (dop powD) (eK (.int 10)) (eK (.int 9))) aNil))) aNil)))))
    (sRet (eK (.bool false)))
    sNil)))
def t_law_a_1 : SV := (sFor (iRng1 (aCons (eCall lenO (aCons (eV 1) aNil)) aNil)) (.n 2)
    b_law_a_1)
def t_law_a_2 : SV := (sRet (eK (.bool true)))
def m_law : SV := (sSeq t_law_a_0
    (sSeq t_law_a_1
    t_law_a_2))
def F_law : Fn := fnOf 1 4 m_law
section
variable {P : Program} {w : World} {K : PySem.W.Frag} {mg : Str → Option Value} {base : Heap}
theorem w__law_bag (G : Fx P w K mg base) : CalG P w K mg base 1 "_law_bag" 2 F__law_bag := by
  obtain ⟨f, fd, D, hm⟩ := G.d__law_bag
  have ndN : (["cell", "k"] : List Str).Nodup := by decide +kernel
  refine calG (N := ["cell", "k"]) (ps := ["cell", "k"]) (m := 0) D hm ⟨rfl, rfl, rfl, ndN, rfl, by decide +kernel, by decide +kernel⟩ rfl (fun kV doc pm an cdv ct us hl => match us, hl with | [_, _], _ => rfl) (fun cdv A outer s H E hr => ?_)
  exact (bv_cons (sv_if (tv_cmp o_lt (ev_v 0) ev_int)
    (bv_one (sv_ret (ev_new (av_cons (ev_neg (ev_v 0)) (av_cons (ev_bin o_add (ev_bin o_mul ev_int (ev_v 1)) ev_int) av_nil)))))
    bv_nil)
    (bv_one (sv_ret (ev_new (av_cons (ev_v 0) (av_cons (ev_bin o_mul ev_int (ev_v 1)) av_nil))))))
theorem w__law_draw (G : Fx P w K mg base) : CalG P w K mg base 1 "_law_draw" 2 F__law_draw := by
  obtain ⟨f, fd, D, hm⟩ := G.d__law_draw
  have ndN : (["bag", "many", "digit", "one"] : List Str).Nodup := by decide +kernel
  refine calG (N := ["bag", "many", "digit", "one"]) (ps := ["bag", "many"]) (m := 2) D hm ⟨rfl, rfl, rfl, ndN, rfl, by decide +kernel, by decide +kernel⟩ rfl (fun kV doc pm an cdv ct us hl => match us, hl with | [_, _], _ => rfl) (fun cdv A outer s H E hr => ?_)
  exact (bv_cons (sv_putI i_add (ev_v 0) ev_int ev_int)
    (bv_cons (sv_if (tv_cmp o_ge (ev_ix (ev_v 0) ev_int) (ev_bin o_pow ev_int ev_int))
    (bv_cons (sv_set ndN (ev_bin o_mod (ev_ix (ev_v 0) ev_int) (ev_v 1)))
    (bv_cons (sv_put (ev_bin o_fdiv (ev_ix (ev_v 0) ev_int) (ev_v 1)) (pg_sub (Ev.pe (ev_v 0)) (Ev.pe ev_int) set_list))
    (bv_one (sv_ret (ev_v 2)))))
    bv_nil)
    (bv_cons (sv_set ndN (ev_bin o_mod (ev_bin o_add (ev_bin o_add (ev_bin o_mod (ev_ix (ev_v 0) ev_int) ev_int) (ev_bin o_mul ev_int (ev_ix (ev_v 0) ev_int))) ev_int) ev_int))
    (bv_cons (sv_set ndN (ev_bin o_mod (ev_bin o_mul (ev_v 3) (ev_v 3)) ev_int))
    (bv_cons (sv_set ndN (ev_bin o_mod (ev_bin o_add (ev_v 3) (ev_bin o_mul ev_int (ev_ix (ev_v 0) ev_int))) ev_int))
    (bv_cons (sv_set ndN (ev_bin o_mod (ev_bin o_mul (ev_v 3) (ev_v 3)) ev_int))
    (bv_one (sv_ret (ev_bin o_mod (ev_bin o_fdiv (ev_v 3) ev_int) (ev_v 1))))))))))
theorem w__law_marks (G : Fx P w K mg base) : CalG P w K mg base 1 "_law_marks" 1 F__law_marks := by
  obtain ⟨f, fd, D, hm⟩ := G.d__law_marks
  have ndN : (["e", "marks"] : List Str).Nodup := by decide +kernel
  refine calG (N := ["e", "marks"]) (ps := ["e"]) (m := 1) D hm ⟨rfl, rfl, rfl, ndN, rfl, by decide +kernel, by decide +kernel⟩ rfl (fun kV doc pm an cdv ct us hl => match us, hl with | [_], _ => rfl) (fun cdv A outer s H E hr => ?_)
  exact (bv_cons (sv_set ndN (ev_lst av_nil))
    (bv_cons (sv_set ndN (ev_bin o_add (ev_v 1) (ev_lst (av_cons (ev_isXc (xs := clsAll) (fun z hz => G.ki_EmptyHistory z hz) G.n_isinstance G.m_EmptyHistory (ev_v 0)) (av_cons (ev_isXc (xs := clsAll) (fun z hz => G.ki_Endless z hz) G.n_isinstance G.m_Endless (ev_v 0)) av_nil)))))
    (bv_cons (sv_set ndN (ev_bin o_add (ev_v 1) (ev_lst (av_cons (ev_isXc (xs := clsAll) (fun z hz => G.ki_FailingWords z hz) G.n_isinstance G.m_FailingWords (ev_v 0)) (av_cons (ev_isXc (xs := clsAll) (fun z hz => G.ki_InvalidCalls z hz) G.n_isinstance G.m_InvalidCalls (ev_v 0)) av_nil)))))
    (bv_cons (sv_set ndN (ev_bin o_add (ev_v 1) (ev_lst (av_cons (ev_isXc (xs := clsAll) (fun z hz => G.ki_InvalidCapacity z hz) G.n_isinstance G.m_InvalidCapacity (ev_v 0)) (av_cons (ev_isXc (xs := clsAll) (fun z hz => G.ki_InvalidCloses z hz) G.n_isinstance G.m_InvalidCloses (ev_v 0)) av_nil)))))
    (bv_cons (sv_set ndN (ev_bin o_add (ev_v 1) (ev_lst (av_cons (ev_isXc (xs := clsAll) (fun z hz => G.ki_InvalidIndex z hz) G.n_isinstance G.m_InvalidIndex (ev_v 0)) (av_cons (ev_isXc (xs := clsAll) (fun z hz => G.ki_InvalidNumber z hz) G.n_isinstance G.m_InvalidNumber (ev_v 0)) av_nil)))))
    (bv_cons (sv_set ndN (ev_bin o_add (ev_v 1) (ev_lst (av_cons (ev_isXc (xs := clsAll) (fun z hz => G.ki_InvalidProcess z hz) G.n_isinstance G.m_InvalidProcess (ev_v 0)) (av_cons (ev_isXc (xs := clsAll) (fun z hz => G.ki_InvalidProgram z hz) G.n_isinstance G.m_InvalidProgram (ev_v 0)) av_nil)))))
    (bv_cons (sv_set ndN (ev_bin o_add (ev_v 1) (ev_lst (av_cons (ev_isXc (xs := clsAll) (fun z hz => G.ki_InvalidRedirection z hz) G.n_isinstance G.m_InvalidRedirection (ev_v 0)) (av_cons (ev_isXc (xs := clsAll) (fun z hz => G.ki_InvalidTable z hz) G.n_isinstance G.m_InvalidTable (ev_v 0)) av_nil)))))
    (bv_cons (sv_set ndN (ev_bin o_add (ev_v 1) (ev_lst (av_cons (ev_isXc (xs := clsAll) (fun z hz => G.ki_InvalidText z hz) G.n_isinstance G.m_InvalidText (ev_v 0)) (av_cons (ev_isXc (xs := clsAll) (fun z hz => G.ki_NoCalls z hz) G.n_isinstance G.m_NoCalls (ev_v 0)) av_nil)))))
    (bv_cons (sv_set ndN (ev_bin o_add (ev_v 1) (ev_lst (av_cons (ev_isXc (xs := clsAll) (fun z hz => G.ki_NotCalm z hz) G.n_isinstance G.m_NotCalm (ev_v 0)) (av_cons (ev_isXc (xs := clsAll) (fun z hz => G.ki_NotCurable z hz) G.n_isinstance G.m_NotCurable (ev_v 0)) av_nil)))))
    (bv_cons (sv_set ndN (ev_bin o_add (ev_v 1) (ev_lst (av_cons (ev_isXc (xs := clsAll) (fun z hz => G.ki_NotPossible z hz) G.n_isinstance G.m_NotPossible (ev_v 0)) (av_cons (ev_isXc (xs := clsAll) (fun z hz => G.ki_TooLarge z hz) G.n_isinstance G.m_TooLarge (ev_v 0)) av_nil)))))
    (bv_one (sv_ret (ev_v 1)))))))))))))
theorem w__law_fields_right (G : Fx P w K mg base) : CalG P w K mg base 3 "_law_fields_right" 1 F__law_fields_right := by
  obtain ⟨f, fd, D, hm⟩ := G.d__law_fields_right
  have ndN : (["amount", "values", "due", "where", "one", "two", "digit"] : List Str).Nodup := by decide +kernel
  refine calG (N := ["amount", "values", "due", "where", "one", "two", "digit"]) (ps := ["amount"]) (m := 6) D hm ⟨rfl, rfl, rfl, ndN, rfl, by decide +kernel, by decide +kernel⟩ rfl (fun kV doc pm an cdv ct us hl => match us, hl with | [_], _ => rfl) (fun cdv A outer s H E hr => ?_)
  exact (bv_cons (sv_set ndN (ev_lst av_nil))
    (bv_cons (sv_set ndN (ev_lst av_nil))
    (bv_cons (sv_set ndN (ev_tup (av_cons (ev_bin o_mod (ev_callT c_int rfl G.n_int PyProof.Rows.Boot.«int» (av_cons (ev_v 0) av_nil)) ev_int) av_nil)))
    (bv_cons (sv_par2 rfl ndN (av_cons (ev_mkX G.r_InvalidProgram (by decide) (hr.mono (by decide)) takes_cx (av_cons (ev_v 3) (av_cons (ev_v 0) av_nil))) (av_cons (ev_mkXk G.r_InvalidProgram (by decide) (hr.mono (by decide)) takes_cx (kv_cons (ev_v 3) (kv_cons (ev_v 0) kv_nil))) av_nil)))
    (bv_cons (sv_set ndN (ev_bin o_add (ev_v 1) (ev_lst (av_cons (ev_fldX (xs := cls_process) (fun z hz => G.fld_process z hz) (ev_v 4)) (av_cons (ev_fldX (xs := cls_process) (fun z hz => G.fld_process z hz) (ev_v 5)) (av_cons (ev_fldX (xs := cls_index) (fun z hz => G.fld_index z hz) (ev_v 4)) (av_cons (ev_fldX (xs := cls_index) (fun z hz => G.fld_index z hz) (ev_v 5)) av_nil)))))))
    (bv_cons (sv_set ndN (ev_bin o_add (ev_bin o_add (ev_v 2) (ev_bin o_mul (ev_lst (av_cons (ev_v 3) av_nil)) ev_int)) (ev_bin o_mul (ev_lst (av_cons (ev_v 0) av_nil)) ev_int)))
    (bv_cons (sv_set ndN (ev_bin o_add (ev_v 1) (ev_lst (av_cons (ev_fldX (xs := cls_index) (fun z hz => G.fld_index z hz) (ev_mkX G.r_InvalidRedirection (by decide) (hr.mono (by decide)) takes_cx (av_cons (ev_v 0) av_nil))) (av_cons (ev_fldX (xs := cls_index) (fun z hz => G.fld_index z hz) (ev_mkXk G.r_InvalidRedirection (by decide) (hr.mono (by decide)) takes_cx (kv_cons (ev_v 0) kv_nil))) av_nil)))))
    (bv_cons (sv_set ndN (ev_bin o_add (ev_v 2) (ev_bin o_mul (ev_lst (av_cons (ev_v 0) av_nil)) ev_int)))
    (bv_cons (sv_set ndN (ev_bin o_add (ev_v 1) (ev_lst (av_cons (ev_fldX (xs := cls_index) (fun z hz => G.fld_index z hz) (ev_mkX G.r_InvalidCalls (by decide) (hr.mono (by decide)) takes_cx (av_cons (ev_v 0) av_nil))) (av_cons (ev_fldX (xs := cls_index) (fun z hz => G.fld_index z hz) (ev_mkXk G.r_InvalidCalls (by decide) (hr.mono (by decide)) takes_cx (kv_cons (ev_v 0) kv_nil))) av_nil)))))
    (bv_cons (sv_set ndN (ev_bin o_add (ev_v 2) (ev_bin o_mul (ev_lst (av_cons (ev_v 0) av_nil)) ev_int)))
    (bv_cons (sv_set ndN (ev_bin o_add (ev_v 1) (ev_lst (av_cons (ev_fldX (xs := cls_word) (fun z hz => G.fld_word z hz) (ev_mkX G.r_InvalidText (by decide) (hr.mono (by decide)) takes_cx (av_cons (ev_v 0) av_nil))) (av_cons (ev_fldX (xs := cls_word) (fun z hz => G.fld_word z hz) (ev_mkXk G.r_InvalidText (by decide) (hr.mono (by decide)) takes_cx (kv_cons (ev_v 0) kv_nil))) av_nil)))))
    (bv_cons (sv_set ndN (ev_bin o_add (ev_v 2) (ev_bin o_mul (ev_lst (av_cons (ev_v 0) av_nil)) ev_int)))
    (bv_cons (sv_set ndN (ev_bin o_mod (ev_callT c_int rfl G.n_int PyProof.Rows.Boot.«int» (av_cons (ev_v 0) av_nil)) ev_int))
    (bv_cons (sv_set ndN (ev_bin o_add (ev_v 1) (ev_lst (av_cons (ev_fldX (xs := cls_number) (fun z hz => G.fld_number z hz) (ev_mkX G.r_FailingWords (by decide) (hr.mono (by decide)) takes_cx (av_cons (ev_v 6) av_nil))) (av_cons (ev_fldX (xs := cls_number) (fun z hz => G.fld_number z hz) (ev_mkXk G.r_FailingWords (by decide) (hr.mono (by decide)) takes_cx (kv_cons (ev_v 6) kv_nil))) av_nil)))))
    (bv_cons (sv_set ndN (ev_bin o_add (ev_v 2) (ev_bin o_mul (ev_lst (av_cons (ev_v 6) av_nil)) ev_int)))
    (bv_cons (sv_set ndN (ev_bin o_add (ev_v 1) (ev_lst (av_cons (ev_fldX (xs := cls_index) (fun z hz => G.fld_index z hz) (ev_mkX G.r_NotPossible (by decide) (hr.mono (by decide)) takes_cx (av_cons (ev_v 0) av_nil))) (av_cons (ev_fldX (xs := cls_index) (fun z hz => G.fld_index z hz) (ev_mkXk G.r_NotPossible (by decide) (hr.mono (by decide)) takes_cx (kv_cons (ev_v 0) kv_nil))) av_nil)))))
    (bv_cons (sv_set ndN (ev_bin o_add (ev_v 2) (ev_bin o_mul (ev_lst (av_cons (ev_v 0) av_nil)) ev_int)))
    (bv_cons (sv_par2 rfl ndN (av_cons (ev_mkX G.r_NotCalm (by decide) (hr.mono (by decide)) takes_cx (av_cons (ev_v 3) (av_cons (ev_v 0) av_nil))) (av_cons (ev_mkXk G.r_NotCalm (by decide) (hr.mono (by decide)) takes_cx (kv_cons (ev_v 3) (kv_cons (ev_v 0) kv_nil))) av_nil)))
    (bv_cons (sv_set ndN (ev_bin o_add (ev_v 1) (ev_lst (av_cons (ev_fldX (xs := cls_process) (fun z hz => G.fld_process z hz) (ev_v 4)) (av_cons (ev_fldX (xs := cls_process) (fun z hz => G.fld_process z hz) (ev_v 5)) (av_cons (ev_fldX (xs := cls_j) (fun z hz => G.fld_j z hz) (ev_v 4)) (av_cons (ev_fldX (xs := cls_j) (fun z hz => G.fld_j z hz) (ev_v 5)) av_nil)))))))
    (bv_cons (sv_set ndN (ev_bin o_add (ev_bin o_add (ev_v 2) (ev_bin o_mul (ev_lst (av_cons (ev_v 3) av_nil)) ev_int)) (ev_bin o_mul (ev_lst (av_cons (ev_v 0) av_nil)) ev_int)))
    (bv_cons (sv_set ndN (ev_bin o_add (ev_v 1) (ev_lst (av_cons (ev_fldX (xs := cls_processes) (fun z hz => G.fld_processes z hz) (ev_mkX G.r_Endless (by decide) (hr.mono (by decide)) takes_cx (av_cons (ev_tup (av_cons (ev_v 3) av_nil)) av_nil))) (av_cons (ev_fldX (xs := cls_processes) (fun z hz => G.fld_processes z hz) (ev_mkXk G.r_Endless (by decide) (hr.mono (by decide)) takes_cx (kv_cons (ev_tup (av_cons (ev_v 3) av_nil)) kv_nil))) av_nil)))))
    (bv_cons (sv_set ndN (ev_bin o_add (ev_v 2) (ev_bin o_mul (ev_lst (av_cons (ev_tup (av_cons (ev_v 3) av_nil)) av_nil)) ev_int)))
    (bv_cons (sv_set ndN (ev_bin o_add (ev_v 1) (ev_lst (av_cons (ev_fldX (xs := cls_limit) (fun z hz => G.fld_limit z hz) (ev_mkX G.r_TooLarge (by decide) (hr.mono (by decide)) takes_cx (av_cons (ev_v 0) av_nil))) (av_cons (ev_fldX (xs := cls_limit) (fun z hz => G.fld_limit z hz) (ev_mkXk G.r_TooLarge (by decide) (hr.mono (by decide)) takes_cx (kv_cons (ev_v 0) kv_nil))) av_nil)))))
    (bv_cons (sv_set ndN (ev_bin o_add (ev_v 2) (ev_bin o_mul (ev_lst (av_cons (ev_v 0) av_nil)) ev_int)))
    (bv_one (sv_ret (ev_cmp (o_eq hr.hu) (ev_v 1) (ev_v 2))))))))))))))))))))))))))))
theorem w__law_right (G : Fx P w K mg base) : CalG P w K mg base 4 "_law_right" 2 F__law_right := by
  obtain ⟨f, fd, D, hm⟩ := G.d__law_right
  have c__law_marks := w__law_marks G
  have c__law_fields_right := w__law_fields_right G
  have ndN : (["message", "amount", "some", "k", "other"] : List Str).Nodup := by decide +kernel
  refine calG (N := ["message", "amount", "some", "k", "other"]) (ps := ["message", "amount"]) (m := 3) D hm ⟨rfl, rfl, rfl, ndN, rfl, by decide +kernel, by decide +kernel⟩ rfl (fun kV doc pm an cdv ct us hl => match us, hl with | [_, _], _ => rfl) (fun cdv A outer s H E hr => ?_)
  exact (bv_cons (sv_set ndN (ev_new av_nil))
    (bv_cons (sv_set ndN (ev_bin o_addC (ev_v 2) (ev_new (av_cons (ev_mkX0 (K := K) G.p_EmptyHistory G.m_EmptyHistory (av_cons (ev_v 0) av_nil)) (av_cons (ev_mkX G.r_Endless (by decide) (hr.mono (by decide)) takes_cx (av_cons (ev_tup (av_cons (ev_tup av_nil) av_nil)) av_nil)) (av_cons (ev_mkX G.r_FailingWords (by decide) (hr.mono (by decide)) takes_cx (av_cons ev_int av_nil)) av_nil))))))
    (bv_cons (sv_set ndN (ev_bin o_addC (ev_v 2) (ev_new (av_cons (ev_mkX G.r_InvalidCalls (by decide) (hr.mono (by decide)) takes_cx (av_cons (ev_v 1) av_nil)) (av_cons (ev_mkX0 (K := K) G.p_InvalidCapacity G.m_InvalidCapacity (av_cons (ev_v 0) av_nil)) (av_cons (ev_mkX0 (K := K) G.p_InvalidCloses G.m_InvalidCloses (av_cons (ev_v 0) av_nil)) av_nil))))))
    (bv_cons (sv_set ndN (ev_bin o_addC (ev_v 2) (ev_new (av_cons (ev_mkX0 (K := K) G.p_InvalidIndex G.m_InvalidIndex (av_cons (ev_v 0) av_nil)) (av_cons (ev_mkX0 (K := K) G.p_InvalidNumber G.m_InvalidNumber (av_cons (ev_v 0) av_nil)) (av_cons (ev_mkX0 (K := K) G.p_InvalidProcess G.m_InvalidProcess (av_cons (ev_v 0) av_nil)) av_nil))))))
    (bv_cons (sv_set ndN (ev_bin o_addC (ev_v 2) (ev_new (av_cons (ev_mkX G.r_InvalidProgram (by decide) (hr.mono (by decide)) takes_cx (av_cons (ev_tup (av_cons (ev_v 1) av_nil)) (av_cons (ev_v 1) av_nil))) (av_cons (ev_mkX G.r_InvalidRedirection (by decide) (hr.mono (by decide)) takes_cx (av_cons (ev_v 1) av_nil)) (av_cons (ev_mkX0 (K := K) G.p_InvalidTable G.m_InvalidTable (av_cons (ev_v 0) av_nil)) av_nil))))))
    (bv_cons (sv_set ndN (ev_bin o_addC (ev_v 2) (ev_new (av_cons (ev_mkX G.r_InvalidText (by decide) (hr.mono (by decide)) takes_cx (av_cons (ev_v 1) av_nil)) (av_cons (ev_mkX0 (K := K) G.p_NoCalls G.m_NoCalls (av_cons (ev_v 0) av_nil)) (av_cons (ev_mkX G.r_NotCalm (by decide) (hr.mono (by decide)) takes_cx (av_cons (ev_tup av_nil) (av_cons (ev_v 1) av_nil))) av_nil))))))
    (bv_cons (sv_set ndN (ev_bin o_addC (ev_v 2) (ev_new (av_cons (ev_mkX0 (K := K) G.p_NotCurable G.m_NotCurable (av_cons (ev_v 0) av_nil)) (av_cons (ev_mkX G.r_NotPossible (by decide) (hr.mono (by decide)) takes_cx (av_cons (ev_v 1) av_nil)) (av_cons (ev_mkX G.r_TooLarge (by decide) (hr.mono (by decide)) takes_cx (av_cons (ev_v 1) av_nil)) av_nil))))))
    (bv_cons (sv_for passes_cx rfl (iv_rng1 rfl G.n_range (av_cons ev_int av_nil)) (gv_n 3 ndN)
    (bv_cons (sv_if (tv_cmp (o_ne hr.hu) (ev_callP c__law_marks (hr.mono (by decide)) takes_cx (av_cons (ev_ix (ev_v 2) (ev_v 3)) av_nil)) (ev_lc (own := [("other", 4)]) rfl ndN (iv_rng1 rfl G.n_range (av_cons ev_int av_nil)) (blkOk_by (by kernel_rfl)) (fun _ _ _ _ _ => (gv_n 4 ndN)) (fun _ _ _ _ _ => ts_nil) (fun _ _ _ _ _ => (ev_cmp (o_eq hr.hu) (ev_v 4) (ev_v 3)))))
    (bv_one (sv_ret ev_bool))
    bv_nil)
    (bv_one (sv_if (wv_pt (wv_or (tv_not (tv_val (ev_isXc (xs := clsAll) (fun z hz => G.ki_WireError z hz) G.n_isinstance G.m_WireError (ev_ix (ev_v 2) (ev_v 3))))) (wv_or1 (tv_not (tv_val (ev_isXt (xs := clsAll) (fun z hz => G.ki_ValueError z hz) G.n_isinstance G.n_ValueError PyProof.Rows.Boot.«ValueError» (ev_ix (ev_v 2) (ev_v 3))))))))
    (bv_one (sv_ret ev_bool))
    bv_nil))))
    (bv_one (sv_ret (ev_and (ev_callP c__law_fields_right (hr.mono (by decide)) takes_cx (av_cons (ev_v 1) av_nil)) (ev_one (ev_cmp (o_notin hr.hu) ev_bool (ev_callP c__law_marks (hr.mono (by decide)) takes_cx (av_cons (ev_mkX0 (K := K) G.p_WireError G.m_WireError (av_cons (ev_v 0) av_nil)) av_nil)))))))))))))))
theorem g_law {f : Addr} {fd : FuncData} (G : Fx P w K mg base) (D : FunD K "law" "law" (defArgs s_law) (defBody s_law) (defScope s_law) [] [] f fd) : FnG P w K mg base 5 f fd ["script"] (spD K mg 1 F_law) := by
  have c__law_bag := w__law_bag G
  have c__law_draw := w__law_draw G
  have c__law_right := w__law_right G
  have ndN : (["script", "cells", "k", "bag", "message"] : List Str).Nodup := by decide +kernel
  refine fnG_of (N := ["script", "cells", "k", "bag", "message"]) (ps := ["script"]) (m := 4) D ⟨rfl, rfl, rfl, ndN, rfl, by decide +kernel, by decide +kernel⟩ rfl (fun cdv A outer s H E hr => ?_)
  exact (bv_cons (sv_set ndN (ev_bin o_add (ev_sl (ev_v 0) pv_none (pv_some ev_int)) (ev_bin o_mul (ev_lst (av_cons ev_int av_nil)) (ev_callT c_int rfl G.n_int PyProof.Rows.Boot.«int» (av_cons (ev_cmp (o_eq hr.hu) (ev_v 0) (ev_lst av_nil)) av_nil)))))
    (bv_cons (sv_for passes_cx rfl (iv_rng1 rfl G.n_range (av_cons (ev_callB c_len rfl G.n_len PyProof.Rows.Boot.«len» (av_cons (ev_v 1) av_nil)) av_nil)) (gv_n 2 ndN)
    (bv_cons (sv_set ndN (ev_call c__law_bag (hr.mono (by decide)) takes_cx (av_cons (ev_ix (ev_v 1) (ev_v 2)) (av_cons (ev_v 2) av_nil))))
    (bv_cons (sv_set ndN (ev_bin o_mul (ev_ix ev_str (ev_call c__law_draw (hr.mono (by decide)) takes_cx (av_cons (ev_v 3) (av_cons ev_int av_nil)))) (ev_call c__law_draw (hr.mono (by decide)) takes_cx (av_cons (ev_v 3) (av_cons ev_int av_nil)))))
    (bv_one (sv_if (tv_not (tv_val (ev_callP c__law_right (hr.mono (by decide)) takes_cx (av_cons (ev_v 4) (av_cons (ev_call c__law_draw (hr.mono (by decide)) takes_cx (av_cons (ev_v 3) (av_cons (ev_bin o_pow ev_int ev_int) av_nil))) av_nil)))))
    (bv_one (sv_ret ev_bool))
    bv_nil)))))
    (bv_one (sv_ret ev_bool))))
end
theorem facts_of {w : World} {K : PySem.W.Frag} {mg : Str → Option Value} {base h : Heap} (c : SaysZ file fa fn tabs ins ex w K) (X : K.In h) (G : h.Ns mainGlobals mg) : Fx PySem.Challenge.pw_fdwires_k86_errors_are_distinct w K mg base := by
  have more := c.more
  unfold ex at more
  simp only [Bool.and_eq_true, List.all_eq_true] at more
  obtain ⟨⟨⟨⟨⟨⟨⟨⟨⟨⟨⟨⟨⟨⟨⟨⟨⟨⟨⟨x0, x1⟩, x2⟩, x3⟩, x4⟩, x5⟩, x6⟩, x7⟩, x8⟩, x9⟩, x10⟩, x11⟩, x12⟩, x13⟩, x14⟩, x15⟩, x16⟩, x17⟩, x18⟩, x19⟩ := more
  have hs : mg "super" = none := He.free_ok X G (c.t.d.fact 48 (f := .free "super") rfl)
  exact {
    n_isinstance := He.free_ok X G (c.t.d.fact 44 (f := .free "isinstance") rfl)
    n_len := He.free_ok X G (c.t.d.fact 45 (f := .free "len") rfl)
    n_int := He.free_ok X G (c.t.d.fact 46 (f := .free "int") rfl)
    n_range := He.free_ok X G (c.t.d.fact 47 (f := .free "range") rfl)
    n_super := He.free_ok X G (c.t.d.fact 48 (f := .free "super") rfl)
    n_ValueError := He.free_ok X G (c.t.d.fact 49 (f := .free "ValueError") rfl)
    d__law_bag := (by obtain ⟨fd, D⟩ := c.t.d.def_ 0 (d := d__law_bag) rfl; exact ⟨_, fd, D, He.glo_ok X G (c.t.d.fact 0 (f := .glo "_law_bag") rfl)⟩)
    d__law_draw := (by obtain ⟨fd, D⟩ := c.t.d.def_ 1 (d := d__law_draw) rfl; exact ⟨_, fd, D, He.glo_ok X G (c.t.d.fact 1 (f := .glo "_law_draw") rfl)⟩)
    d__law_marks := (by obtain ⟨fd, D⟩ := c.t.d.def_ 2 (d := d__law_marks) rfl; exact ⟨_, fd, D, He.glo_ok X G (c.t.d.fact 2 (f := .glo "_law_marks") rfl)⟩)
    d__law_fields_right := (by obtain ⟨fd, D⟩ := c.t.d.def_ 3 (d := d__law_fields_right) rfl; exact ⟨_, fd, D, He.glo_ok X G (c.t.d.fact 3 (f := .glo "_law_fields_right") rfl)⟩)
    d__law_right := (by obtain ⟨fd, D⟩ := c.t.d.def_ 4 (d := d__law_right) rfl; exact ⟨_, fd, D, He.glo_ok X G (c.t.d.fact 4 (f := .glo "_law_right") rfl)⟩)
    d_law := (by obtain ⟨fd, D⟩ := c.t.d.def_ 5 (d := d_law) rfl; exact ⟨_, fd, D, He.glo_ok X G (c.t.d.fact 5 (f := .glo "law") rfl)⟩)
    m_WireError := He.glo_ok X G (c.t.d.fact 6 (f := .glo "WireError") rfl)
    p_WireError := x10
    m_InvalidTable := He.glo_ok X G (c.t.d.fact 7 (f := .glo "InvalidTable") rfl)
    p_InvalidTable := x11
    m_InvalidProcess := He.glo_ok X G (c.t.d.fact 8 (f := .glo "InvalidProcess") rfl)
    p_InvalidProcess := x12
    m_InvalidIndex := He.glo_ok X G (c.t.d.fact 9 (f := .glo "InvalidIndex") rfl)
    p_InvalidIndex := x13
    m_InvalidNumber := He.glo_ok X G (c.t.d.fact 10 (f := .glo "InvalidNumber") rfl)
    p_InvalidNumber := x14
    m_InvalidCapacity := He.glo_ok X G (c.t.d.fact 11 (f := .glo "InvalidCapacity") rfl)
    p_InvalidCapacity := x15
    m_InvalidCloses := He.glo_ok X G (c.t.d.fact 12 (f := .glo "InvalidCloses") rfl)
    p_InvalidCloses := x16
    m_NoCalls := He.glo_ok X G (c.t.d.fact 13 (f := .glo "NoCalls") rfl)
    p_NoCalls := x17
    m_NotCurable := He.glo_ok X G (c.t.d.fact 14 (f := .glo "NotCurable") rfl)
    p_NotCurable := x18
    m_EmptyHistory := He.glo_ok X G (c.t.d.fact 15 (f := .glo "EmptyHistory") rfl)
    p_EmptyHistory := x19
    m_InvalidProgram := He.glo_ok X G (c.t.d.fact 16 (f := .glo "InvalidProgram") rfl)
    r_InvalidProgram := (init2 (d := i_InvalidProgram) (excI_of c X G rfl hs (by decide +kernel) 0 rfl) rfl rfl (fun _ => ⟨_, rfl⟩) ⟨rfl, rfl, rfl, by decide +kernel, by decide +kernel, by decide +kernel, by decide +kernel, rfl, rfl⟩ rfl (by decide) (by decide) (by decide) (by decide) (fun _ _ _ _ _ _ _ us hl => match us, hl with | [_, _, _], _ => rfl) (fun _ _ _ _ _ _ _ _ us hl => match us, hl with | [_, _], _ => rfl))
    m_InvalidRedirection := He.glo_ok X G (c.t.d.fact 17 (f := .glo "InvalidRedirection") rfl)
    r_InvalidRedirection := (init1 (d := i_InvalidRedirection) (excI_of c X G rfl hs (by decide +kernel) 1 rfl) rfl rfl (fun _ => ⟨_, rfl⟩) ⟨rfl, rfl, rfl, by decide +kernel, by decide +kernel, by decide +kernel, by decide +kernel, rfl, rfl⟩ rfl (by decide) (by decide) (fun _ _ _ _ _ _ _ us hl => match us, hl with | [_, _], _ => rfl) (fun _ _ _ _ _ _ _ _ us hl => match us, hl with | [_], _ => rfl))
    m_InvalidCalls := He.glo_ok X G (c.t.d.fact 18 (f := .glo "InvalidCalls") rfl)
    r_InvalidCalls := (init1 (d := i_InvalidCalls) (excI_of c X G rfl hs (by decide +kernel) 2 rfl) rfl rfl (fun _ => ⟨_, rfl⟩) ⟨rfl, rfl, rfl, by decide +kernel, by decide +kernel, by decide +kernel, by decide +kernel, rfl, rfl⟩ rfl (by decide) (by decide) (fun _ _ _ _ _ _ _ us hl => match us, hl with | [_, _], _ => rfl) (fun _ _ _ _ _ _ _ _ us hl => match us, hl with | [_], _ => rfl))
    m_InvalidText := He.glo_ok X G (c.t.d.fact 19 (f := .glo "InvalidText") rfl)
    r_InvalidText := (init1 (d := i_InvalidText) (excI_of c X G rfl hs (by decide +kernel) 3 rfl) rfl rfl (fun _ => ⟨_, rfl⟩) ⟨rfl, rfl, rfl, by decide +kernel, by decide +kernel, by decide +kernel, by decide +kernel, rfl, rfl⟩ rfl (by decide) (by decide) (fun _ _ _ _ _ _ _ us hl => match us, hl with | [_, _], _ => rfl) (fun _ _ _ _ _ _ _ _ us hl => match us, hl with | [_], _ => rfl))
    m_FailingWords := He.glo_ok X G (c.t.d.fact 20 (f := .glo "FailingWords") rfl)
    r_FailingWords := (init1 (d := i_FailingWords) (excI_of c X G rfl hs (by decide +kernel) 4 rfl) rfl rfl (fun _ => ⟨_, rfl⟩) ⟨rfl, rfl, rfl, by decide +kernel, by decide +kernel, by decide +kernel, by decide +kernel, rfl, rfl⟩ rfl (by decide) (by decide) (fun _ _ _ _ _ _ _ us hl => match us, hl with | [_, _], _ => rfl) (fun _ _ _ _ _ _ _ _ us hl => match us, hl with | [_], _ => rfl))
    m_NotPossible := He.glo_ok X G (c.t.d.fact 21 (f := .glo "NotPossible") rfl)
    r_NotPossible := (init1 (d := i_NotPossible) (excI_of c X G rfl hs (by decide +kernel) 5 rfl) rfl rfl (fun _ => ⟨_, rfl⟩) ⟨rfl, rfl, rfl, by decide +kernel, by decide +kernel, by decide +kernel, by decide +kernel, rfl, rfl⟩ rfl (by decide) (by decide) (fun _ _ _ _ _ _ _ us hl => match us, hl with | [_, _], _ => rfl) (fun _ _ _ _ _ _ _ _ us hl => match us, hl with | [_], _ => rfl))
    m_NotCalm := He.glo_ok X G (c.t.d.fact 22 (f := .glo "NotCalm") rfl)
    r_NotCalm := (init2 (d := i_NotCalm) (excI_of c X G rfl hs (by decide +kernel) 6 rfl) rfl rfl (fun _ => ⟨_, rfl⟩) ⟨rfl, rfl, rfl, by decide +kernel, by decide +kernel, by decide +kernel, by decide +kernel, rfl, rfl⟩ rfl (by decide) (by decide) (by decide) (by decide) (fun _ _ _ _ _ _ _ us hl => match us, hl with | [_, _, _], _ => rfl) (fun _ _ _ _ _ _ _ _ us hl => match us, hl with | [_, _], _ => rfl))
    m_Endless := He.glo_ok X G (c.t.d.fact 23 (f := .glo "Endless") rfl)
    r_Endless := (init1 (d := i_Endless) (excI_of c X G rfl hs (by decide +kernel) 7 rfl) rfl rfl (fun _ => ⟨_, rfl⟩) ⟨rfl, rfl, rfl, by decide +kernel, by decide +kernel, by decide +kernel, by decide +kernel, rfl, rfl⟩ rfl (by decide) (by decide) (fun _ _ _ _ _ _ _ us hl => match us, hl with | [_, _], _ => rfl) (fun _ _ _ _ _ _ _ _ us hl => match us, hl with | [_], _ => rfl))
    m_TooLarge := He.glo_ok X G (c.t.d.fact 24 (f := .glo "TooLarge") rfl)
    r_TooLarge := (init1 (d := i_TooLarge) (excI_of c X G rfl hs (by decide +kernel) 8 rfl) rfl rfl (fun _ => ⟨_, rfl⟩) ⟨rfl, rfl, rfl, by decide +kernel, by decide +kernel, by decide +kernel, by decide +kernel, rfl, rfl⟩ rfl (by decide) (by decide) (fun _ _ _ _ _ _ _ us hl => match us, hl with | [_, _], _ => rfl) (fun _ _ _ _ _ _ _ _ us hl => match us, hl with | [_], _ => rfl))
    ki_WireError := (fun z hz => ⟨xcB_ok (x0 z hz), of_decide_eq_true (x1 z hz "WireError" (by decide +kernel))⟩)
    ki_InvalidTable := (fun z hz => ⟨xcB_ok (x0 z hz), of_decide_eq_true (x1 z hz "InvalidTable" (by decide +kernel))⟩)
    ki_InvalidProcess := (fun z hz => ⟨xcB_ok (x0 z hz), of_decide_eq_true (x1 z hz "InvalidProcess" (by decide +kernel))⟩)
    ki_InvalidIndex := (fun z hz => ⟨xcB_ok (x0 z hz), of_decide_eq_true (x1 z hz "InvalidIndex" (by decide +kernel))⟩)
    ki_InvalidNumber := (fun z hz => ⟨xcB_ok (x0 z hz), of_decide_eq_true (x1 z hz "InvalidNumber" (by decide +kernel))⟩)
    ki_InvalidCapacity := (fun z hz => ⟨xcB_ok (x0 z hz), of_decide_eq_true (x1 z hz "InvalidCapacity" (by decide +kernel))⟩)
    ki_InvalidCloses := (fun z hz => ⟨xcB_ok (x0 z hz), of_decide_eq_true (x1 z hz "InvalidCloses" (by decide +kernel))⟩)
    ki_NoCalls := (fun z hz => ⟨xcB_ok (x0 z hz), of_decide_eq_true (x1 z hz "NoCalls" (by decide +kernel))⟩)
    ki_NotCurable := (fun z hz => ⟨xcB_ok (x0 z hz), of_decide_eq_true (x1 z hz "NotCurable" (by decide +kernel))⟩)
    ki_EmptyHistory := (fun z hz => ⟨xcB_ok (x0 z hz), of_decide_eq_true (x1 z hz "EmptyHistory" (by decide +kernel))⟩)
    ki_InvalidProgram := (fun z hz => ⟨xcB_ok (x0 z hz), of_decide_eq_true (x1 z hz "InvalidProgram" (by decide +kernel))⟩)
    ki_InvalidRedirection := (fun z hz => ⟨xcB_ok (x0 z hz), of_decide_eq_true (x1 z hz "InvalidRedirection" (by decide +kernel))⟩)
    ki_InvalidCalls := (fun z hz => ⟨xcB_ok (x0 z hz), of_decide_eq_true (x1 z hz "InvalidCalls" (by decide +kernel))⟩)
    ki_InvalidText := (fun z hz => ⟨xcB_ok (x0 z hz), of_decide_eq_true (x1 z hz "InvalidText" (by decide +kernel))⟩)
    ki_FailingWords := (fun z hz => ⟨xcB_ok (x0 z hz), of_decide_eq_true (x1 z hz "FailingWords" (by decide +kernel))⟩)
    ki_NotPossible := (fun z hz => ⟨xcB_ok (x0 z hz), of_decide_eq_true (x1 z hz "NotPossible" (by decide +kernel))⟩)
    ki_NotCalm := (fun z hz => ⟨xcB_ok (x0 z hz), of_decide_eq_true (x1 z hz "NotCalm" (by decide +kernel))⟩)
    ki_Endless := (fun z hz => ⟨xcB_ok (x0 z hz), of_decide_eq_true (x1 z hz "Endless" (by decide +kernel))⟩)
    ki_TooLarge := (fun z hz => ⟨xcB_ok (x0 z hz), of_decide_eq_true (x1 z hz "TooLarge" (by decide +kernel))⟩)
    ki_ValueError := (fun z hz => ⟨xcB_ok (x0 z hz), of_decide_eq_true (x2 z hz)⟩)
    fld_process := (fun z hz => ⟨xcB_ok (x0 z (by revert z; decide +kernel)), He.eqO_ok (x3 z hz)⟩)
    fld_index := (fun z hz => ⟨xcB_ok (x0 z (by revert z; decide +kernel)), He.eqO_ok (x4 z hz)⟩)
    fld_word := (fun z hz => ⟨xcB_ok (x0 z (by revert z; decide +kernel)), He.eqO_ok (x5 z hz)⟩)
    fld_number := (fun z hz => ⟨xcB_ok (x0 z (by revert z; decide +kernel)), He.eqO_ok (x6 z hz)⟩)
    fld_j := (fun z hz => ⟨xcB_ok (x0 z (by revert z; decide +kernel)), He.eqO_ok (x7 z hz)⟩)
    fld_processes := (fun z hz => ⟨xcB_ok (x0 z (by revert z; decide +kernel)), He.eqO_ok (x8 z hz)⟩)
    fld_limit := (fun z hz => ⟨xcB_ok (x0 z (by revert z; decide +kernel)), He.eqO_ok (x9 z hz)⟩)
  }
end T86
namespace T86
open PySem PySem.Spec PyProof.Rows L2 DL
theorem bag_eq (c k : Int) (st : Store) : F__law_bag [.d (.int c), .d (.int k)] st = .ok (.c st.length) (st ++ [.lst [.d (.int (if c < 0 then -c else c)), .d (.int (if c < 0 then 37 * k + 18 else 37 * k))]]) := by
  have h : (2 : Nat) ≤ sizeLine := by rw [sizeLine_eq]; omega
  unfold F__law_bag m__law_bag t__law_bag_a_0 t__law_bag_a_1
  by_cases hc : c < 0 <;> simp [fnOf, hc, h, mulD_l]
theorem draw_eq (n : Nat) (st : Store) (a b m : Int) (hs : st[n]? = some (.lst [.d (.int a), .d (.int b)])) (hm : 0 < m) (hm2 : m < 2 ^ 200) (ha : 0 ≤ a) :
    ∃ v a', 0 ≤ v ∧ v < m ∧ 0 ≤ a' ∧ F__law_draw [.c n, .d (.int m)] st = .ok (.d (.int v)) (st.set n (.lst [.d (.int a'), .d (.int (b + 1))])) := by
  have hn : n < st.length := (List.getElem?_eq_some_iff.mp hs).1
  have g1 : ∀ c : Cell, (st.set n c)[n]? = some c := fun c => List.getElem?_set_self hn
  have p18 : powD (.int 10) (.int 18) = some (.int 1000000000000000000) := powD_10 (by decide)
  have d0 := deref_c hs
  have d1 : ∀ ws, deref (st.set n (.lst ws)) (.c n) = .c n := fun ws => deref_c (g1 _)
  have f1 : fdivD (.int a) (.int m) = some (.int (a / m)) := fdivD_pos ⟨hm, hm2⟩
  unfold F__law_draw m__law_draw t__law_draw_a_0 t__law_draw_a_1 t__law_draw_a_2 t__law_draw_a_3 t__law_draw_a_4 t__law_draw_a_5 t__law_draw_a_6
  by_cases hbig : 1000000000000000000 ≤ a
  · refine ⟨a % m, a / m, Int.emod_nonneg _ (by omega), Int.emod_lt_of_pos _ hm, Int.ediv_nonneg ha (by omega), ?_⟩
    simp [fnOf, sPutI, getL, hs, atI, ixN, putO, g1, d0, d1, dop, p18, hbig, modD_pos hm, f1, sPut]
  · have q1 := Int.emod_nonneg (a % 2147483629 + 104729 * (b + 1) + 1) (show (2147483587 : Int) ≠ 0 by decide)
    have q2 := Int.emod_lt_of_pos (a % 2147483629 + 104729 * (b + 1) + 1) (show (0 : Int) < 2147483587 by decide)
    generalize e1 : (a % 2147483629 + 104729 * (b + 1) + 1) % 2147483587 = one at *
    have q3 := Int.emod_nonneg (one * one % 2147483587 + 40692 * (b + 1)) (show (2147483563 : Int) ≠ 0 by decide)
    have q4 := Int.emod_lt_of_pos (one * one % 2147483587 + 40692 * (b + 1)) (show (0 : Int) < 2147483563 by decide)
    generalize e2 : (one * one % 2147483587 + 40692 * (b + 1)) % 2147483563 = two at *
    have s1 : mulD (.int one) (.int one) = some (.int (one * one)) := mulD_l (by omega)
    have s2 : mulD (.int two) (.int two) = some (.int (two * two)) := mulD_l (by omega)
    refine ⟨two * two % 2147483563 / 8 % m, a, Int.emod_nonneg _ (by omega), Int.emod_lt_of_pos _ hm, ha, ?_⟩
    simp [fnOf, sPutI, getL, hs, atI, ixN, putO, g1, d0, d1, dop, p18, hbig, modD_pos, modD_pos hm, fdivD_pos, mulD_l, e1, e2, s1, s2]
end T86

namespace T86
open PySem PySem.Spec PyProof.Rows L2 DL
def slOf : RS → Sl
  | .nx sl _ => sl
  | _ => []
def stOf : RS → Store
  | .nx _ st => st
  | _ => []
theorem seq_assoc {a b c : SV} : sSeq (sSeq a b) c = sSeq a (sSeq b c) := by
  funext sl st
  simp only [sSeq_run]
  cases a sl st <;> rfl
def pre : SV := sSeq t__law_right_a_0 (sSeq t__law_right_a_1 (sSeq t__law_right_a_2 (sSeq t__law_right_a_3 (sSeq t__law_right_a_4 (sSeq t__law_right_a_5 (sSeq t__law_right_a_6 t__law_right_a_7))))))
theorem m_pre : m__law_right = sSeq pre t__law_right_a_8 := by
  unfold pre m__law_right
  simp only [seq_assoc]
theorem pre_run (x : Str) (am : Int) : pre [some (.d (.str x)), some (.d (.int am)), none, none, none] [] = .nx [some (.d (.str x)), some (.d (.int am)), some (.c 12), some (.d (.int 17)), none] (stOf (pre [some (.d (.str x)), some (.d (.int am)), none, none, none] [])) := by
  kernel_rfl
def preF : SV := (sSeq t__law_fields_right_a_0 (sSeq t__law_fields_right_a_1 (sSeq t__law_fields_right_a_2 (sSeq t__law_fields_right_a_3 (sSeq t__law_fields_right_a_4 (sSeq t__law_fields_right_a_5 (sSeq t__law_fields_right_a_6 (sSeq t__law_fields_right_a_7 (sSeq t__law_fields_right_a_8 (sSeq t__law_fields_right_a_9 (sSeq t__law_fields_right_a_10 (sSeq t__law_fields_right_a_11 (sSeq t__law_fields_right_a_12 (sSeq t__law_fields_right_a_13 (sSeq t__law_fields_right_a_14 (sSeq t__law_fields_right_a_15 (sSeq t__law_fields_right_a_16 (sSeq t__law_fields_right_a_17 (sSeq t__law_fields_right_a_18 (sSeq t__law_fields_right_a_19 (sSeq t__law_fields_right_a_20 (sSeq t__law_fields_right_a_21 (sSeq t__law_fields_right_a_22 t__law_fields_right_a_23)))))))))))))))))))))))
theorem m_preF : m__law_fields_right = sSeq preF t__law_fields_right_a_24 := by
  unfold preF m__law_fields_right
  simp only [seq_assoc]
def valAt (i : Nat) (r : RS) : PyData := match (slOf r)[i]? with
  | some (some (.d x)) => x
  | _ => .none
abbrev slF (am : Int) : Sl := [some (.d (.int am)), none, none, none, none, none, none]
theorem preF_run (am : Int) : preF (slF am) [] = .nx (slOf (preF (slF am) [])) (stOf (preF (slF am) [])) := by kernel_rfl
theorem preF_1 (am : Int) : (slOf (preF (slF am) []))[1]? = some (some (.d (valAt 1 (preF (slF am) [])))) := by kernel_rfl
theorem preF_2 (am : Int) : (slOf (preF (slF am) []))[2]? = some (some (.d (valAt 1 (preF (slF am) [])))) := by kernel_rfl
theorem preF_s (am : Int) : SeqAt.shaped (valAt 1 (preF (slF am) [])) = true := by kernel_rfl
theorem fields_ok (am : Int) : ∃ st, F__law_fields_right [.d (.int am)] [] = .ok (.d (.bool true)) st := by
  have e1 := preF_run am
  have e2 := preF_1 am
  have e3 := preF_2 am
  have e4 := preF_s am
  have e5 := SeqAt.eqv_refl _ (SeqAt.canLay_of_shaped e4)
  have e6 : eqD (valAt 1 (preF (slF am) [])) (valAt 1 (preF (slF am) [])) = some (.bool true) := by
    unfold eqD
    rw [if_pos ⟨e4, e4⟩, e5]
  generalize slOf (preF (slF am) []) = sl1 at *
  generalize stOf (preF (slF am) []) = st1 at *
  generalize valAt 1 (preF (slF am) []) = V at *
  refine ⟨st1, ?_⟩
  have e7 : m__law_fields_right (slF am) [] = .rt (.d (.bool true)) sl1 st1 := by
    rw [m_preF, sSeq_run, e1, next_nx]
    unfold t__law_fields_right_a_24
    simp [e2, e3, e6]
  exact fnOf_rt rfl e7
theorem marksW : ∃ l st, F__law_marks [.x ⟨"WireError", []⟩] [] = .ok (.d (.list l)) st ∧ notInD (.bool true) (.list l) = some (.bool true) :=
  ⟨List.replicate 18 (.bool false), [], by kernel_rfl, by kernel_rfl⟩
theorem right_ok (x : Str) (am : Int) : ∃ st, F__law_right [.d (.str x), .d (.int am)] [] = .ok (.d (.bool true)) st := by
  obtain ⟨stF, hF⟩ := fields_ok am
  obtain ⟨l, stM, hM, hN⟩ := marksW
  have e1 := pre_run x am
  generalize stOf (pre [some (.d (.str x)), some (.d (.int am)), none, none, none] []) = st1 at *
  have e2 : m__law_right [some (.d (.str x)), some (.d (.int am)), none, none, none] [] = .rt (.d (.bool true)) [some (.d (.str x)), some (.d (.int am)), some (.c 12), some (.d (.int 17)), none] st1 := by
    rw [m_pre, sSeq_run, e1, next_nx]
    unfold t__law_right_a_8
    simp [eAnd, eMkX0, hF, hM, hN]
  exact ⟨st1, fnOf_rt rfl e2⟩
end T86

namespace T86
open PySem PySem.Spec PyProof.Rows L2 DL
theorem canLay_ints : ∀ ns : List Int, PyData.canLayAll0 (ns.map PyData.int) = true
  | [] => by simp [PyData.canLayAll0]
  | n :: ns => by simp [PyData.canLayAll0, PyData.canLay0, canLay_ints ns]
theorem depth_ints : ∀ ns : List Int, PyData.depthAll (ns.map PyData.int) = 0
  | [] => by simp [PyData.depthAll]
  | n :: ns => by simp [PyData.depthAll, PyData.depth, depth_ints ns]
theorem shaped_ints (ns : List Int) : SeqAt.shaped (.list (ns.map PyData.int)) = true := by
  unfold SeqAt.shaped
  rw [PyData.canLay0, canLay_ints, PyData.depth, depth_ints]
  rfl
theorem forL_inv {p : Pat} {b : SV} (Inv : Sl → Store → Prop) : ∀ (ws : List W) (sl : Sl) (st : Store), Inv sl st → (∀ w ∈ ws, ∀ sl st, Inv sl st → ∃ sl1 sl2 st2, bindP p w sl = some sl1 ∧ b sl1 st = .nx sl2 st2 ∧ Inv sl2 st2) → ∃ sl' st', forL p b ws sl st = .nx sl' st' ∧ Inv sl' st'
  | [], sl, st, h, _ => ⟨sl, st, rfl, h⟩
  | w :: ws, sl, st, h, hs => by
    obtain ⟨sl1, sl2, st2, h1, h2, h3⟩ := hs w List.mem_cons_self sl st h
    obtain ⟨sl', st', h4, h5⟩ := forL_inv Inv ws sl2 st2 h3 fun w hw => hs w (List.mem_cons_of_mem _ hw)
    refine ⟨sl', st', ?_, h5⟩
    show (match bindP p w sl with
    | none => RS.bad
    | some sl1 => match b sl1 st with
      | .nx sl2 st2 => forL p b ws sl2 st2
      | .ct sl2 st2 => forL p b ws sl2 st2
      | .bk sl2 st2 => .nx sl2 st2
      | r => r) = _
    rw [h1]
    show (match b sl1 st with
      | .nx sl2 st2 => forL p b ws sl2 st2
      | .ct sl2 st2 => forL p b ws sl2 st2
      | .bk sl2 st2 => .nx sl2 st2
      | r => r) = _
    rw [h2]
    exact h4
/-- the cells that the law walks -/
def cells (ns : List Int) : List Int := if ns = [] then [0] else ns.take 12
theorem cells_len (ns : List Int) : (cells ns).length ≤ 12 := by
  unfold cells
  split
  · simp
  · simp; omega
theorem body_ok (ns cs : List Int) (k : Nat) (c : Int) (hk : cs[k]? = some c) (x y : Option W) (st : Store) : ∃ m n st', b_law_a_1 [some (.s ns), some (.d (.list (cs.map .int))), some (.d (.int k)), x, y] st = .nx [some (.s ns), some (.d (.list (cs.map .int))), some (.d (.int k)), m, n] st' := by
  have hkl : k < cs.length := (List.getElem?_eq_some_iff.mp hk).1
  have i1 : ixP (.list (cs.map .int)) (k : Int) = some (.int c) := by
    simp [ixP, atI, ixN, hkl]
    exact (List.getElem?_eq_some_iff.mp hk).2
  have bg := bag_eq c k st
  generalize h0 : (if c < 0 then -c else c) = a0 at *
  have a0p : 0 ≤ a0 := by rw [← h0]; split <;> omega
  generalize (if c < 0 then 37 * (k : Int) + 18 else 37 * (k : Int)) = b0 at *
  have g0 : (st ++ [Cell.lst [.d (.int a0), .d (.int b0)]])[st.length]? = some (.lst [.d (.int a0), .d (.int b0)]) := by simp
  obtain ⟨v1, a1, p1, p2, p3, e1⟩ := draw_eq _ _ _ _ 4 g0 (by decide) (by decide) a0p
  have n1 : st.length < (st ++ [Cell.lst [.d (.int a0), .d (.int b0)]]).length := by simp
  generalize st ++ [Cell.lst [.d (.int a0), .d (.int b0)]] = st1 at *
  generalize st.length = n at *
  have g1 : (st1.set n (.lst [.d (.int a1), .d (.int (b0 + 1))]))[n]? = some (.lst [.d (.int a1), .d (.int (b0 + 1))]) := List.getElem?_set_self n1
  obtain ⟨v2, a2, p4, p5, p6, e2⟩ := draw_eq _ _ _ _ 60 g1 (by decide) (by decide) p3
  have n2 : n < (st1.set n (.lst [.d (.int a1), .d (.int (b0 + 1))])).length := by simpa using n1
  have d1 := deref_c g0
  generalize st1.set n (.lst [.d (.int a1), .d (.int (b0 + 1))]) = st2 at *
  have g2 : (st2.set n (.lst [.d (.int a2), .d (.int (b0 + 1 + 1))]))[n]? = some (.lst [.d (.int a2), .d (.int (b0 + 1 + 1))]) := List.getElem?_set_self n2
  have d2 := deref_c g1
  have d3 := deref_c g2
  obtain ⟨v3, a3, p7, p8, p9, e3⟩ := draw_eq _ _ _ _ 1000000000 g2 (by decide) (by decide) p6
  generalize st2.set n (.lst [.d (.int a2), .d (.int (b0 + 1 + 1))]) = st3 at *
  generalize st3.set n (.lst [.d (.int a3), .d (.int (b0 + 1 + 1 + 1))]) = st4 at *
  have i2 : ∃ z : Str, ixP (.str "a| ~") v1 = some (.str z) ∧ z.length ≤ 1000 := by
    have h4 : v1 = 0 ∨ v1 = 1 ∨ v1 = 2 ∨ v1 = 3 := by omega
    rcases h4 with rfl | rfl | rfl | rfl
    · exact ⟨"a", by kernel_rfl, by decide +kernel⟩
    · exact ⟨"|", by kernel_rfl, by decide +kernel⟩
    · exact ⟨" ", by kernel_rfl, by decide +kernel⟩
    · exact ⟨"~", by kernel_rfl, by decide +kernel⟩
  obtain ⟨z, i2, hz⟩ := i2
  have i3 : mulD (.str z) (.int v2) = some (.str (Txt.mul z v2)) := if_pos ⟨p4, by omega, hz⟩
  obtain ⟨stR, hR⟩ := right_ok (Txt.mul z v2) v3
  have p9' : powD (.int 10) (.int 9) = some (.int 1000000000) := powD_10 (by decide)
  refine ⟨some (.c n), some (.d (.str (Txt.mul z v2))), st4, ?_⟩
  unfold b_law_a_1
  simp [i1, bg, d1, d2, d3, e1, e2, i2, i3, p9', e3, hR]
theorem law_e0 (ns : List Int) (hn : ns.length ≤ 63) : t_law_a_0 [some (.s ns), none, none, none, none] [] = .nx [some (.s ns), some (.d (.list ((cells ns).map .int))), none, none, none] [] := by
  have hsz : ∀ n : Nat, n ≤ 200 → n ≤ sizeLine := fun n h => by rw [sizeLine_eq]; omega
  have q1 : slP (.list (ns.map .int)) none (some 12) = some (.list ((ns.take 12).map .int)) := by
    have : HT.sIx ns.length ns.length (some 12) = min 12 ns.length := HT.sIx_nat ns.length ns.length 12
    simp only [slP, DL.cutD, HT.sIx_none, List.length_map, this, List.drop_zero, Nat.sub_zero]
    congr 2
    rw [← List.map_take]
    congr 1
    rcases Nat.le_total ns.length 12 with h | h
    · rw [Nat.min_eq_right h, List.take_length, List.take_of_length_le h]
    · rw [Nat.min_eq_left h]
  have q2 : eqD (.list (ns.map .int)) (.list []) = some (.bool (decide (ns = []))) := by
    unfold eqD
    rw [if_pos ⟨shaped_ints ns, shaped_ints []⟩]
    cases ns <;> simp [PyData.eqv, PyData.eqvAll]
  have q4 : mulD (.list [.int 0]) (.int (if ns = [] then 1 else 0)) = some (.list (if ns = [] then [.int 0] else [])) := by
    by_cases h : ns = []
    · simp [mulD, h, hsz]
    · simp [mulD, h]
  have q3 : addD (.list ((ns.take 12).map .int)) (.list (if ns = [] then [.int 0] else [])) = some (.list ((cells ns).map .int)) := by
    unfold cells
    have := hsz (min 12 ns.length + 1) (by omega)
    by_cases h : ns = []
    · simp [addD, h, hsz]
    · simp [addD, h]
      omega
  rw [List.map_take] at q1 q3
  unfold t_law_a_0
  simp [eSl, pNone, pSome, q1, q2, call1, DL.intD, q3, q4, hsz]
theorem law_step (ns : List Int) (w : W) (hw : w ∈ rng 0 (cells ns).length) (sl : Sl) (st : Store) (h : ∃ a b c, sl = [some (.s ns), some (.d (.list ((cells ns).map .int))), a, b, c]) :
    ∃ sl1 sl2 st2, bindP (.n 2) w sl = some sl1 ∧ b_law_a_1 sl1 st = .nx sl2 st2 ∧ ∃ a b c, sl2 = [some (.s ns), some (.d (.list ((cells ns).map .int))), a, b, c] := by
  obtain ⟨a, b, c, rfl⟩ := h
  obtain ⟨i, hi, rfl⟩ := List.mem_map.mp hw
  have hi := List.mem_range.mp hi
  obtain ⟨m, n, st', h⟩ := body_ok ns (cells ns) i (cells ns)[i] (by simp [hi]) b c st
  rw [Int.zero_add]
  refine ⟨[some (.s ns), some (.d (.list ((cells ns).map .int))), some (.d (.int i)), b, c], _, st', ?_, h, _, _, _, rfl⟩
  rw [bindP_n]
  simp
theorem law_src (ns : List Int) : iRng1 (aCons (eCall lenO (aCons (eV 1) aNil)) aNil) [some (.s ns), some (.d (.list ((cells ns).map .int))), none, none, none] [] = .ok (rng 0 (cells ns).length) [] := by
  refine iRng1_ok ?_ (by have := cells_len ns; omega)
  simp [lenO, call1, lenD]
theorem law_e1 (ns : List Int) : ∃ a b c st, t_law_a_1 [some (.s ns), some (.d (.list ((cells ns).map .int))), none, none, none] [] = .nx [some (.s ns), some (.d (.list ((cells ns).map .int))), a, b, c] st := by
  obtain ⟨sl', st', h1, a, b, c, h2⟩ := forL_inv (p := .n 2) (b := b_law_a_1) (fun sl st => ∃ a b c, sl = [some (.s ns), some (.d (.list ((cells ns).map .int))), a, b, c]) (rng 0 (cells ns).length) [some (.s ns), some (.d (.list ((cells ns).map .int))), none, none, none] [] ⟨_, _, _, rfl⟩ (law_step ns)
  refine ⟨a, b, c, st', ?_⟩
  rw [← h2, ← h1]
  unfold t_law_a_1 sFor
  rw [law_src, R_thn_ok]
theorem law_ok (ns : List Int) (hn : ns.length ≤ 63) : ∃ st, F_law [.s ns] [] = .ok (.d (.bool true)) st := by
  obtain ⟨a, b, c, st, e1⟩ := law_e1 ns
  have e0 := law_e0 ns hn
  have e2 : m_law [some (.s ns), none, none, none, none] [] = .rt (.d (.bool true)) [some (.s ns), some (.d (.list ((cells ns).map .int))), a, b, c] st := by
    unfold m_law
    rw [sSeq_run, e0, next_nx, sSeq_run, e1, next_nx]
    unfold t_law_a_2
    rfl
  exact ⟨st, fnOf_rt rfl e2⟩
end T86

namespace T86
open PySem PySem.Spec PyProof.Rows L2 DL
theorem run1 (b : Bool) (w : World) : HandSHeadRun.RunEq Rr (PySem.W.view Rr.prog [26]) hk ob 20000 loose (w.withFollow "special-get-raises" b) := by
  intro os
  cases b <;> kernel_rfl
theorem run (w : World) : HandSHeadRun.RunEq Rr (PySem.W.view Rr.prog [26]) hk ob 20000 loose w := PySem.W.byRow2 "special-get-raises" (run1 false) (run1 true) w
theorem end_ {w : World} {mg : Str → Option Value} {fa0 : Addr} {h : Heap} (Y : hk.says w h) (G : h.Ns mainGlobals mg) (hmg : mg "law" = some (.ref fa0)) :
    ∃ (K : PySem.W.Frag) (fd : FuncData) (F : Fn), K.In h ∧ (∀ (s : Shared) (u : Value), BindsTo s fd ⟨[u], []⟩ [("script", u)]) ∧ (∀ ns : List Int, ns.length ≤ 63 → ∃ st, F [.s ns] [] = .ok (.d (.bool true)) st) ∧
      ∀ base : Heap, K.In base → base.Ns mainGlobals mg → FnG (PySem.W.OpenLaw.prog PySem.Challenge.rw_fdwires_k86_errors_are_distinct) w K mg base 5 fa0 fd ["script"] (spD K mg 1 F) := by
  obtain ⟨K, X, c⟩ := Y
  obtain ⟨fd, D⟩ := c.t.d.def_ 5 (d := d_law) rfl
  have e : mg "law" = some (.ref (He.ga K "law")) := He.glo_ok X G (c.t.d.fact 5 (f := .glo "law") rfl)
  rw [hmg] at e
  cases e
  have b := FunD.bindsA (ps := ["script"]) D fun _ _ _ _ _ _ us hl => match us, hl with | [_], _ => rfl
  exact ⟨K, fd, F_law, X, fun s u => b s [u] rfl, law_ok, fun base _ _ => g_law (facts_of c X G) D⟩
end T86
open PySem PySem.W PySem.Calls PyProof.Rows
theorem PySem.Challenge.cw_fdwires_k86_errors_are_distinct_holds : PySem.Challenge.rw_fdwires_k86_errors_are_distinct.Holds := by
  w_on; o_law
  refine HandSHeadRun.head_any (r := OpenLaw.row PySem.Challenge.rw_fdwires_k86_errors_are_distinct) (q := view (OpenLaw.row PySem.Challenge.rw_fdwires_k86_errors_are_distinct).prog [26]) (H := T86.hk) (ob := T86.ob) (M := 20000) (loose := T86.loose) (d := HandSHeadRun.topDef (OpenLaw.row PySem.Challenge.rw_fdwires_k86_errors_are_distinct).prog 26) (kwd := []) T86.ob_eq
    (by kernel_rfl) (fun s => by kernel_rfl) T86.run (by kernel_rfl) (by kernel_rfl) (by kernel_rfl) (by rfl) (by first | assumption | decide +kernel) (by decide +kernel) ⟨rfl, rfl, rfl, rfl, rfl, by decide +kernel⟩ ?hw ?hc
  case hw => w_witness2
  case hc =>
    refine DL.walk_ofG (l := PySem.Challenge.rw_fdwires_k86_errors_are_distinct) (n := 63) (k := 5) (x := "script") rfl (by rw [sizeLine_eq]; omega) (by kernel_rfl) ⟨⟨rfl, by decide, by decide⟩, rfl⟩ fun w mg fa0 h Y G hmg0 => ?_
    have hmg : mg ("law" : PySem.Str) = some (.ref fa0) := by
      have e : (HandSHeadRun.topDef (OpenLaw.row PySem.Challenge.rw_fdwires_k86_errors_are_distinct).prog 26).name = ("law" : PySem.Str) := by kernel_rfl
      rw [← e]
      exact hmg0
    exact T86.end_ Y G hmg

