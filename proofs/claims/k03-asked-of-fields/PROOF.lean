import PyProof.Rows.All
import HandS.List
import HandS.Comp
import HandS.Iter
import HandS.Exc
import HandS.TryOnly
import HandS.ExcOwn
import HandS.Words
import HandS.Ends
import HandS.Lambda
import PyProof.ReprReads
import PyProof.EqLayable
import PyProof.Rows.RuleB_pow
import HandS.IsInst
import PyProof.ReprRoads
import PyProof.CallFns
import HandS.TupAny
import HandS.TupMul
import HandS.EndTab
import KE.KTryMore
import HandS.ExcIs
import HandS.Dict
import HandS.Style
import PyProof.Rows.RegStrFacts
import HandS.ExcInit
import HandS.ExcField
import HandS.Defaults
import KE.KExcIs
import HandS.Zip
import KE.KUnpackStar
import KE.GoesMore
import PyProof.P3Eq
import PyProof.Rows.IntBool
import PySem.PyData
import HandS.Deep
import PySem.Builtin.Range.Common
import KE.KTupSum
import PySem.Challenge.RW_hollowrise_k03_asked_of_fields
import KE.KLam
import KE.KNestM
set_option Elab.async false
set_option linter.all false
set_option autoImplicit false
set_option maxRecDepth 100000
set_option maxHeartbeats 4000000
/-! D3: readings of data. Values are plain data (PyData) where HandS speaks of addresses. -/
namespace D3
open PySem PySem.Spec PyProof.Rows L2

/-! ### what never changes -/
inductive Fz : HO → Prop where
  | tup (xs : List V) : Fz (.tup xs)
  | frz (o : Obj) (u : HO) : Fz (.frz o u)
  | ext (φ : Heap → Prop) : Fz (.ext φ)
  | xd (fs : List (Str × V)) : Fz (.xd fs)
def Mono (H H' : Hp) : Prop := ∀ b o, Fz o → H b = some o → H' b = some o
theorem Mono.rfl {H : Hp} : Mono H H := fun _ _ _ h => h
theorem Mono.tr {H H1 H2 : Hp} (a : Mono H H1) (b : Mono H1 H2) : Mono H H2 := fun c o z h => b c o z (a c o z h)
theorem Mono.new {H : Hp} {p : Addr} {o : HO} (h : H p = none) : Mono H (upd H p o) := fun b u _ e => by
  rw [upd_ne (ne_of_none e h)]
  exact e
theorem Mono.at_ {H : Hp} {p : Addr} {o u : HO} (h : H p = some u) (n : ¬ Fz u) : Mono H (upd H p o) := fun b v z e => by
  have hb : b ≠ p := fun q => by
    subst q
    have r := e.symm.trans h
    exact n (Option.some.inj r ▸ z)
  rw [upd_ne hb]
  exact e
theorem nfz_lst {xs : List V} : ¬ Fz (.lst xs) := fun z => nomatch z

/-! ### data in the heap: lists frozen (or written by the top), tuples -/
def FzL (K : PySem.W.Frag) (H : Hp) (a : Addr) (xs : List V) : Prop := (∃ o, H a = some (.frz o (.lst xs))) ∨
  ∃ (its : Array Value) (n : Nat), K.lookup a = some { cls := .type "list", data := .seq its n } ∧ its.size ≤ sizeLine ∧ Vals xs its.toList
theorem FzL.sq {K : PySem.W.Frag} {H : Hp} {a : Addr} {xs : List V} (h : FzL K H a xs) : SqL K H a xs := by
  rcases h with h | ⟨its, n, h1, h2, h3⟩
  · exact .inl (.inr h)
  · exact .inr ⟨_, its, n, h1, rfl, rfl, rfl, h2, h3⟩
theorem FzL.mono {K : PySem.W.Frag} {H H' : Hp} (m : Mono H H') {a : Addr} {xs : List V} (h : FzL K H a xs) : FzL K H' a xs := by
  rcases h with ⟨o, h⟩ | h
  · exact .inl ⟨o, m _ _ (.frz _ _) h⟩
  · exact .inr h
theorem FzL.at_ {X : Cx} {pins : List (Addr × Obj)} {s : Shared} {σ : L2.St} {H : Hp} {a : Addr} {vs : List V} (I : Inv X pins σ H s) (h : FzL X.K H a vs) :
    vs.length ≤ sizeLine ∧ ∃ (its : List Value) (n : Nat), Vals vs its ∧ s.heap.get? a = some { cls := .type "list", data := .seq its.toArray n } := by
  rcases h with ⟨o, h⟩ | ⟨its, n, h1, h2, h3⟩
  · obtain ⟨_, z, its, n, r, e⟩ := I.hok a _ h
    exact ⟨z, its, n, r, e⟩
  · have l := h3.length
    simp only [Array.length_toList] at l
    exact ⟨by omega, its.toList, n, h3, I.kIn a _ h1⟩
mutual
inductive Dz (K : PySem.W.Frag) (H : Hp) : V → PyData → Prop
  | non : Dz K H .non .none
  | bl (b : Bool) : Dz K H (.bl b) (.bool b)
  | int (i : Int) : Dz K H (.int i) (.int i)
  | str (x : Str) : Dz K H (.str x) (.str x)
  | lst {a : Addr} {xs : List V} {ds : List PyData} : FzL K H a xs → DzA K H xs ds → Dz K H (.ref a) (.list ds)
  | tup {a : Addr} {xs : List V} {ds : List PyData} : SqT K H a xs → DzA K H xs ds → Dz K H (.ref a) (.tuple ds)
  | dct0 {a : Addr} {o : Obj} : H a = some (.frz o (.dK [])) → Dz K H (.ref a) (.dict [])
inductive DzA (K : PySem.W.Frag) (H : Hp) : List V → List PyData → Prop
  | nil : DzA K H [] []
  | cons {v : V} {vs : List V} {d : PyData} {ds : List PyData} : Dz K H v d → DzA K H vs ds → DzA K H (v :: vs) (d :: ds)
end
section
variable {K : PySem.W.Frag} {H H' : Hp}
theorem sqT_mono (m : Mono H H') {a : Addr} {xs : List V} (h : SqT K H a xs) : SqT K H' a xs := by
  rcases h with (h | ⟨o, h⟩) | h
  · exact .inl (.inl (m _ _ (.tup _) h))
  · exact .inl (.inr ⟨o, m _ _ (.frz _ _) h⟩)
  · exact .inr h
mutual
theorem Dz.mono (m : Mono H H') : ∀ (d : PyData) (v : V), Dz K H v d → Dz K H' v d
  | .none, _, h => by cases h; exact .non
  | .bool b, _, h => by cases h; exact .bl b
  | .int i, _, h => by cases h; exact .int i
  | .str x, _, h => by cases h; exact .str x
  | .list ds, _, h => by
    cases h with
    | lst h1 h2 => exact .lst (h1.mono m) (DzA.mono m ds _ h2)
  | .tuple ds, _, h => by
    cases h with
    | tup h1 h2 => exact .tup (sqT_mono m h1) (DzA.mono m ds _ h2)
  | .dict _, _, h => by
    cases h with
    | dct0 h1 => exact .dct0 (m _ _ (.frz _ _) h1)
theorem DzA.mono (m : Mono H H') : ∀ (ds : List PyData) (vs : List V), DzA K H vs ds → DzA K H' vs ds
  | [], _, h => by cases h; exact .nil
  | d :: ds, _, h => by
    cases h with
    | cons h1 h2 => exact .cons (Dz.mono m d _ h1) (DzA.mono m ds _ h2)
end
mutual
theorem lay_noDict : ∀ d : PyData, d.canLay0 = true → d.hasDict = false
  | .none, _ => by simp [PyData.hasDict]
  | .bool _, _ => by simp [PyData.hasDict]
  | .int _, _ => by simp [PyData.hasDict]
  | .str _, _ => by simp [PyData.hasDict]
  | .list ds, h => by
    have z := lay_noDictAll ds (by simpa [PyData.canLay0] using h)
    simpa [PyData.hasDict] using z
  | .tuple ds, h => by
    have z := lay_noDictAll ds (by simpa [PyData.canLay0] using h)
    simpa [PyData.hasDict] using z
  | .dict _, h => by simp [PyData.canLay0] at h
theorem lay_noDictAll : ∀ ds : List PyData, PyData.canLayAll0 ds = true → PyData.hasDictAll ds = false
  | [], _ => by simp [PyData.hasDictAll]
  | d :: ds, h => by
    have z : d.canLay0 = true ∧ PyData.canLayAll0 ds = true := by simpa [PyData.canLayAll0] using h
    simp [PyData.hasDictAll, lay_noDict d z.1, lay_noDictAll ds z.2]
end
mutual
theorem Dz.dp : ∀ (d : PyData) (v : V), d.hasDict = false → Dz K H v d → Dp K H v d
  | .none, _, _, h => by cases h; exact .non
  | .bool b, _, _, h => by cases h; exact .bl b
  | .int i, _, _, h => by cases h; exact .int i
  | .str x, _, _, h => by cases h; exact .str x
  | .list ds, _, n, h => by
    cases h with
    | lst h1 h2 => exact .lst h1.sq (DzA.dp ds _ (by simpa [PyData.hasDict] using n) h2)
  | .tuple ds, _, n, h => by
    cases h with
    | tup h1 h2 => exact .tup h1 (DzA.dp ds _ (by simpa [PyData.hasDict] using n) h2)
  | .dict _, _, n, h => by simp [PyData.hasDict] at n
theorem DzA.dp : ∀ (ds : List PyData) (vs : List V), PyData.hasDictAll ds = false → DzA K H vs ds → DpAll K H vs ds
  | [], _, _, h => by cases h; exact .nil
  | d :: ds, _, n, h => by
    have z : d.hasDict = false ∧ PyData.hasDictAll ds = false := by simpa [PyData.hasDictAll] using n
    cases h with
    | cons h1 h2 => exact .cons (Dz.dp d _ z.1 h1) (DzA.dp ds _ z.2 h2)
end
theorem DzA.len : ∀ {vs : List V} {ds : List PyData}, DzA K H vs ds → vs.length = ds.length
  | _, _, .nil => rfl
  | _, _, .cons _ h => by rw [List.length_cons, List.length_cons, DzA.len h]
theorem DzA.get : ∀ {vs : List V} {ds : List PyData} {i : Nat} {d : PyData}, DzA K H vs ds → ds[i]? = some d → ∃ v, vs[i]? = some v ∧ Dz K H v d
  | _, _, i, d, .nil, e => by simp at e
  | _, _, 0, d, .cons h _, e => by
    simp only [List.getElem?_cons_zero, Option.some.injEq] at e
    subst e
    exact ⟨_, by simp, h⟩
  | _, _, i + 1, d, .cons _ h, e => by
    obtain ⟨v, h1, h2⟩ := DzA.get (i := i) (d := d) h (by simpa using e)
    exact ⟨v, by simpa using h1, h2⟩
theorem DzA.getV : ∀ {vs : List V} {ds : List PyData} {i : Nat} {v : V}, DzA K H vs ds → vs[i]? = some v → ∃ d, ds[i]? = some d ∧ Dz K H v d
  | _, _, i, d, .nil, e => by simp at e
  | _, _, 0, d, .cons h _, e => by
    simp only [List.getElem?_cons_zero, Option.some.injEq] at e
    subst e
    exact ⟨_, by simp, h⟩
  | _, _, i + 1, d, .cons _ h, e => by
    obtain ⟨v, h1, h2⟩ := DzA.getV (i := i) (v := d) h (by simpa using e)
    exact ⟨v, by simpa using h1, h2⟩
theorem DzA.app : ∀ {vs ws : List V} {ds es : List PyData}, DzA K H vs ds → DzA K H ws es → DzA K H (vs ++ ws) (ds ++ es)
  | _, _, _, _, .nil, h => h
  | _, _, _, _, .cons a b, h => .cons a (DzA.app b h)
theorem DzA.drop : ∀ {vs : List V} {ds : List PyData} (n : Nat), DzA K H vs ds → DzA K H (vs.drop n) (ds.drop n)
  | _, _, 0, h => h
  | _, _, _ + 1, .nil => .nil
  | _, _, n + 1, .cons _ h => DzA.drop n h
theorem DzA.take : ∀ {vs : List V} {ds : List PyData} (n : Nat), DzA K H vs ds → DzA K H (vs.take n) (ds.take n)
  | _, _, 0, _ => .nil
  | _, _, _ + 1, .nil => .nil
  | _, _, n + 1, .cons a h => .cons a (DzA.take n h)
theorem DzA.set : ∀ {vs : List V} {ds : List PyData} (n : Nat) {v : V} {d : PyData}, DzA K H vs ds → Dz K H v d → DzA K H (vs.set n v) (ds.set n d)
  | _, _, _, _, _, .nil, _ => .nil
  | _, _, 0, _, _, .cons _ h, z => .cons z h
  | _, _, n + 1, _, _, .cons a h, z => .cons a (DzA.set n h z)
theorem DzA.one {v : V} {d : PyData} (h : Dz K H v d) : DzA K H [v] [d] := .cons h .nil
theorem DzA.ints : ∀ {vs : List V} {ns : List Int}, DzA K H vs (ns.map .int) → vs = ns.map .int
  | _, [], h => by cases h; rfl
  | _, n :: ns, h => by
    cases h with
    | cons h1 h2 =>
      cases h1
      rw [DzA.ints h2]
      rfl
end

/-! ### the state -/
inductive SV where
  | d (x : PyData)
  | own (xs : List PyData)
  | cell (n : Nat)
  | raw (v : V)
  | exc (C : Addr) (fs : List (Str × PyData))
  | thk (f c : Addr) (q : Str) (H : Hp) (ms : List Addr)
structure S3 where
  G : List (Option SV)
  C : List (List PyData)
/-- the entry's heap, the cells -/
structure B3 where
  H0 : Hp
  ms : List Addr
/-- an exception that a name holds: its class, its fields -/
def ExcAt (K : PySem.W.Frag) (H : Hp) (a C : Addr) (fs : List (Str × PyData)) : Prop :=
  ∃ (d : Option Addr), H a = some (.ext fun h => ∃ oe, h.get? a = some oe ∧ (oe.cls = .ref C ∧ oe.dict = d) ∧ ∃ vs, oe.data = .fields vs) ∧
    (fs = [] → d = none) ∧ (fs ≠ [] → ∃ dd vs, d = some dd ∧ H dd = some (.xd vs) ∧ ∀ f x, fs.lookup f = some x → ∃ v, vs.lookup f = some v ∧ Dz K H v x)
def SR (K : PySem.W.Frag) (B : B3) (H : Hp) : SV → V → Prop
  | .d x, v => Dz K H v x
  | .own xs, v => ∃ a vs, v = .ref a ∧ H a = some (.lst vs) ∧ DzA K H vs xs ∧ B.H0 a = none ∧ a ∉ B.ms
  | .cell n, v => ∃ a, B.ms[n]? = some a ∧ v = .ref a
  | .raw u, v => v = u
  | .exc C fs, v => ∃ a, v = .ref a ∧ ExcAt K H a C fs
  | .thk f c q H1 ms, v => v = .ref f ∧ H c = some (LamX.CodeO c q) ∧ B.ms = ms ∧ Mono H1 H
/-- what an expression gives: no list of its own -/
def RR (K : PySem.W.Frag) (B : B3) (H : Hp) : SV → V → Prop
  | .own _, _ => False
  | r, v => SR K B H r v
/-- the tables of code objects that lambdas are made from -/
class Tb where
  T : List (Addr × Str)
/-- an object stays, or it is a table -/
def Kp (o o' : HO) : Prop := o' = o ∨ ∃ p q, o = .tbl p ∧ o' = .tbl q
theorem Kp.rfl {o : HO} : Kp o o := .inl _root_.rfl
theorem Kp.tr {a b c : HO} (h : Kp a b) (k : Kp b c) : Kp a c := by
  rcases h with h | ⟨p, q, h1, h2⟩
  · rw [← h]
    exact k
  · rcases k with k | ⟨p', q', k1, k2⟩
    · rw [k]
      exact .inr ⟨p, q, h1, h2⟩
    · exact .inr ⟨p, q', h1, k2⟩
theorem Kp.eq {o o' : HO} (h : Kp o o') (n : ∀ p, o ≠ .tbl p) : o' = o := h.elim id fun ⟨p, _, e, _⟩ => absurd e (n p)
theorem Fz.ntbl {o : HO} (h : Fz o) (p : Array Value) : o ≠ .tbl p := fun e => by
  subst e
  cases h
theorem tabs_new {T : List (Addr × Str)} {H : Hp} {p : Addr} {o : HO} (t : LamX.Tabs T H) (hp : H p = none) : LamX.Tabs T (upd H p o) := t.ext fun b u e => by
  rw [upd_ne (ne_of_none e hp)]
  exact e
/-- a list is written or frozen: the tables stay -/
theorem tabs_at {T : List (Addr × Str)} {H : Hp} {p : Addr} {o : HO} {vs : List V} (t : LamX.Tabs T H) (hp : H p = some (.lst vs)) : LamX.Tabs T (upd H p o) := fun q hq => by
  obtain ⟨ps, h1, h2, h3⟩ := t q hq
  have n1 : q.1 ≠ p := fun z => by
    rw [z, hp] at h1
    cases h1
  refine ⟨ps, by rw [upd_ne n1]; exact h1, h2, fun pos cv hc => ?_⟩
  obtain ⟨c, e1, e2⟩ := h3 pos cv hc
  have n2 : c ≠ p := fun z => by
    rw [z, hp] at e2
    unfold LamX.CodeO at e2
    cases e2
  exact ⟨c, e1, by rw [upd_ne n2]; exact e2⟩
section
variable [Tb]
structure RS (K : PySem.W.Frag) (B : B3) (σ : L2.St) (H : Hp) (S : S3) : Prop where
  slot : ∀ (i : Nat) (r : SV), S.G[i]? = some (some r) → ∃ v, σ[i]? = some (some v) ∧ SR K B H r v
  sep : ∀ (i j : Nat) (xs ys : List PyData) (v : V), i ≠ j → S.G[i]? = some (some (.own xs)) → S.G[j]? = some (some (.own ys)) → σ[i]? = some (some v) → σ[j]? = some (some v) → False
  cn : B.ms.length = S.C.length
  nd : B.ms.Nodup
  cell : ∀ (n : Nat) (a : Addr) (xs : List PyData), B.ms[n]? = some a → S.C[n]? = some xs → ∃ vs, H a = some (.lst vs) ∧ DzA K H vs xs
  keep : ∀ b o, B.H0 b = some o → b ∉ B.ms → ∃ o', H b = some o' ∧ Kp o o'
  len : S.G.length = σ.length
  tabs : LamX.Tabs Tb.T H
end
theorem SR.mono {K : PySem.W.Frag} {B : B3} {H H' : Hp} (m : Mono H H') : ∀ {r : SV} {v : V}, SR K B H r v → (∀ xs, r ≠ .own xs) → SR K B H' r v
  | .d x, v, h, _ => Dz.mono m x v h
  | .own xs, _, _, n => absurd rfl (n xs)
  | .cell _, _, h, _ => h
  | .raw _, _, h, _ => h
  | .thk _ _ _ _ _, _, ⟨h1, h2, h3, h4⟩, _ => ⟨h1, m _ _ (.ext _) h2, h3, h4.tr m⟩
  | .exc C fs, v, ⟨a, e, d, h1, h2, h3⟩, _ => ⟨a, e, d, m _ _ (.ext _) h1, h2, fun hn => by
      obtain ⟨dd, vs, e1, e2, e3⟩ := h3 hn
      exact ⟨dd, vs, e1, m _ _ (.xd _) e2, fun f x hx => let ⟨v, a, b⟩ := e3 f x hx; ⟨v, a, Dz.mono m _ _ b⟩⟩⟩
theorem RR.sr {K : PySem.W.Frag} {B : B3} {H : Hp} : ∀ {r : SV} {v : V}, RR K B H r v → SR K B H r v
  | .d _, _, h => h
  | .own _, _, h => h.elim
  | .cell _, _, h => h
  | .raw _, _, h => h
  | .exc _ _, _, h => h
  | .thk _ _ _ _ _, _, h => h
theorem RR.of {K : PySem.W.Frag} {B : B3} {H : Hp} : ∀ {r : SV} {v : V}, SR K B H r v → (∀ xs, r ≠ .own xs) → RR K B H r v
  | .d _, _, h, _ => h
  | .own xs, _, _, n => absurd rfl (n xs)
  | .cell _, _, h, _ => h
  | .raw _, _, h, _ => h
  | .exc _ _, _, h, _ => h
  | .thk _ _ _ _ _, _, h, _ => h
theorem RR.no {K : PySem.W.Frag} {B : B3} {H : Hp} {r : SV} {v : V} (h : RR K B H r v) : ∀ xs, r ≠ .own xs := fun xs e => by
  subst e
  exact h
theorem RR.mono {K : PySem.W.Frag} {B : B3} {H H' : Hp} (m : Mono H H') {r : SV} {v : V} (h : RR K B H r v) : RR K B H' r v := .of (.mono m h.sr h.no) h.no
section
variable [Tb] {K : PySem.W.Frag} {B : B3} {σ : L2.St} {H : Hp} {S : S3}
/-- a new object -/
theorem RS.new (R : RS K B σ H S) {p : Addr} {o : HO} (hp : H p = none) : RS K B σ (upd H p o) S := by
  have m : Mono H (upd H p o) := .new hp
  refine ⟨fun i r e => ?_, R.sep, R.cn, R.nd, fun n a xs e1 e2 => ?_, fun b u e1 e2 => ?_, R.len, tabs_new R.tabs hp⟩
  · obtain ⟨v, h1, h2⟩ := R.slot i r e
    refine ⟨v, h1, ?_⟩
    cases r with
    | own xs =>
      obtain ⟨a, vs, q1, q2, q3, q4⟩ := h2
      exact ⟨a, vs, q1, by rw [upd_ne (ne_of_none q2 hp)]; exact q2, q3.mono m, q4⟩
    | _ => exact h2.mono m (fun _ z => nomatch z)
  · obtain ⟨vs, q1, q2⟩ := R.cell n a xs e1 e2
    exact ⟨vs, by rw [upd_ne (ne_of_none q1 hp)]; exact q1, q2.mono m⟩
  · obtain ⟨u', q, z⟩ := R.keep b u e1 e2
    exact ⟨u', by rw [upd_ne (ne_of_none q hp)]; exact q, z⟩
/-- an address that is new to the entry -/
theorem RS.fresh0 (R : RS K B σ H S) {p : Addr} (hp : H p = none) : B.H0 p = none ∧ p ∉ B.ms := by
  have n : p ∉ B.ms := fun hm => by
    obtain ⟨n, e⟩ := List.getElem?_of_mem hm
    have hl : n < S.C.length := by
      rw [← R.cn]
      exact (List.getElem?_eq_some_iff.mp e).1
    obtain ⟨vs, q, _⟩ := R.cell n p _ e (List.getElem?_eq_getElem hl)
    rw [hp] at q
    cases q
  refine ⟨?_, n⟩
  cases e : B.H0 p with
  | none => rfl
  | some o =>
    obtain ⟨_, q, _⟩ := R.keep p o e n
    rw [hp] at q
    cases q
theorem set_get {α : Type} {l : List α} {i j : Nat} {x y : α} (h : (l.set i x)[j]? = some y) : (i = j ∧ y = x ∧ i < l.length) ∨ (i ≠ j ∧ l[j]? = some y) := by
  by_cases e : i = j
  · subst e
    by_cases hl : i < l.length
    · rw [List.getElem?_set_self hl] at h
      exact .inl ⟨rfl, (Option.some.inj h).symm, hl⟩
    · rw [List.getElem?_eq_none (by rw [List.length_set]; omega)] at h
      cases h
  · rw [List.getElem?_set_ne e] at h
    exact .inr ⟨e, h⟩
/-- a slot is set to a value that is no list of its own -/
theorem RS.setD (R : RS K B σ H S) {i : Nat} {r : SV} {v : V} (h : RR K B H r v) : RS K B (σ.set i (some v)) H { S with G := S.G.set i (some r) } := by
  refine ⟨fun j q e => ?_, fun j k xs ys u ne e1 e2 e3 e4 => ?_, R.cn, R.nd, R.cell, R.keep, by simp [R.len], R.tabs⟩
  · rcases set_get e with ⟨rfl, e, hl⟩ | ⟨ne, e⟩
    · cases e
      exact ⟨v, by rw [List.getElem?_set_self (by rw [← R.len]; exact hl)], h.sr⟩
    · obtain ⟨w, h1, h2⟩ := R.slot j q e
      exact ⟨w, by rw [List.getElem?_set_ne ne]; exact h1, h2⟩
  · rcases set_get e1 with ⟨_, e, _⟩ | ⟨n1, e1⟩
    · cases e
      exact h
    · rcases set_get e2 with ⟨_, e, _⟩ | ⟨n2, e2⟩
      · cases e
        exact h
      · rw [List.getElem?_set_ne n1] at e3
        rw [List.getElem?_set_ne n2] at e4
        exact R.sep j k xs ys u ne e1 e2 e3 e4
/-- a slot is forgotten -/
theorem RS.forget (R : RS K B σ H S) {i : Nat} {o : Option V} : RS K B (σ.set i o) H { S with G := S.G.set i none } := by
  refine ⟨fun j q e => ?_, fun j k xs ys u ne e1 e2 e3 e4 => ?_, R.cn, R.nd, R.cell, R.keep, by simp [R.len], R.tabs⟩
  · rcases set_get e with ⟨rfl, e, hl⟩ | ⟨ne, e⟩
    · cases e
    · obtain ⟨w, h1, h2⟩ := R.slot j q e
      exact ⟨w, by rw [List.getElem?_set_ne ne]; exact h1, h2⟩
  · rcases set_get e1 with ⟨_, e, _⟩ | ⟨n1, e1⟩
    · cases e
    · rcases set_get e2 with ⟨_, e, _⟩ | ⟨n2, e2⟩
      · cases e
      · rw [List.getElem?_set_ne n1] at e3
        rw [List.getElem?_set_ne n2] at e4
        exact R.sep j k xs ys u ne e1 e2 e3 e4
end
end D3
/-! D3b: the judgements over data; names, constants, operators, tests, tuples. -/
namespace D3
open PySem PySem.Spec PyProof.Rows L2
section
variable [Tb]

structure Xd where
  C : Addr
  fs : List (Str × PyData)
def XR (K : PySem.W.Frag) (H : Hp) (x : Xd) (cls : Value) (d : Option Addr) : Prop :=
  cls = .ref x.C ∧ (x.fs = [] → d = none) ∧ (x.fs ≠ [] → ∃ dd vs, d = some dd ∧ H dd = some (.xd vs) ∧ ∀ f y, x.fs.lookup f = some y → ∃ v, vs.lookup f = some v ∧ Dz K H v y)
abbrev ED := Xd → S3 → Prop
/-- readings over data -/
abbrev DTE := S3 → (SV → S3 → Prop) → ED → Prop
abbrev DTT := S3 → (Bool → S3 → Prop) → ED → Prop
abbrev DTA := S3 → (List SV → S3 → Prop) → ED → Prop
abbrev DTL := S3 → (List PyData → S3 → Prop) → ED → Prop
structure DEnds where
  nx : S3 → Prop
  rt : SV → S3 → Prop
  bk : S3 → Prop := fun _ => False
  ct : S3 → Prop := fun _ => False
abbrev DTS := DEnds → S3 → ED → Prop
/-- an exception of the data's reading reaches what is wanted -/
def HX (K : PySem.W.Frag) (W : WX) (B : B3) (e : ED) : Prop := ∀ x S' σ' cls d H', RS K B σ' H' S' → XR K H' x cls d → e x S' → W cls d σ' H'
/-- the wanted end of an expression -/
def KD (K : PySem.W.Frag) (B : B3) (σ : L2.St) (H : Hp) (k : SV → S3 → Prop) : VK := fun v H' => ∃ r S', RS K B σ H' S' ∧ Mono H H' ∧ RR K B H' r v ∧ k r S'
def KT (K : PySem.W.Frag) (B : B3) (σ : L2.St) (H : Hp) (k : Bool → S3 → Prop) : Bool → Hp → Prop := fun b H' => ∃ S', RS K B σ H' S' ∧ Mono H H' ∧ k b S'
def RRs (K : PySem.W.Frag) (B : B3) (H : Hp) : List SV → List V → Prop := Paired (RR K B H)
def KA (K : PySem.W.Frag) (B : B3) (σ : L2.St) (H : Hp) (k : List SV → S3 → Prop) : List V → Hp → Prop := fun vs H' => ∃ rs S', RS K B σ H' S' ∧ Mono H H' ∧ RRs K B H' rs vs ∧ k rs S'
/-- a new list that nothing else holds -/
def RL (K : PySem.W.Frag) (B : B3) (σ : L2.St) (S : S3) (H : Hp) (xs : List PyData) (v : V) : Prop :=
  ∃ a vs, v = .ref a ∧ H a = some (.lst vs) ∧ DzA K H vs xs ∧ B.H0 a = none ∧ a ∉ B.ms ∧ ∀ (i : Nat) ys, S.G[i]? = some (some (.own ys)) → σ[i]? ≠ some (some (.ref a))
def KL (K : PySem.W.Frag) (B : B3) (σ : L2.St) (H : Hp) (k : List PyData → S3 → Prop) : VK := fun v H' => ∃ xs S', RS K B σ H' S' ∧ Mono H H' ∧ RL K B σ S' H' xs v ∧ k xs S'
def KS (K : PySem.W.Frag) (B : B3) (H : Hp) (D : DEnds) : Ends :=
  { nx := fun σ' H' => ∃ S', RS K B σ' H' S' ∧ Mono H H' ∧ D.nx S', rt := fun v H' => ∃ r S' σ', RS K B σ' H' S' ∧ RR K B H' r v ∧ D.rt r S', bk := fun σ' H' => ∃ S', RS K B σ' H' S' ∧ Mono H H' ∧ D.bk S', ct := fun σ' H' => ∃ S', RS K B σ' H' S' ∧ Mono H H' ∧ D.ct S' }
def liftE (K : PySem.W.Frag) (W : WX) (t : DTE) : TE := fun σ H Q => ∃ B S k e, RS K B σ H S ∧ t S k e ∧ HX K W B e ∧ ∀ v H', KD K B σ H k v H' → Q v H'
def liftT (K : PySem.W.Frag) (W : WX) (t : DTT) : TT := fun σ H Q => ∃ B S k e, RS K B σ H S ∧ t S k e ∧ HX K W B e ∧ ∀ v H', KT K B σ H k v H' → Q v H'
def liftA (K : PySem.W.Frag) (W : WX) (t : DTA) : TA := fun σ H Q => ∃ B S k e, RS K B σ H S ∧ t S k e ∧ HX K W B e ∧ ∀ v H', KA K B σ H k v H' → Q v H'
def liftL (K : PySem.W.Frag) (W : WX) (t : DTL) : TE := fun σ H Q => ∃ B S k e, RS K B σ H S ∧ t S k e ∧ HX K W B e ∧ ∀ v H', KL K B σ H k v H' → Q v H'
def liftS (K : PySem.W.Frag) (W : WX) (t : DTS) : TS := fun D σ H => ∃ B S DD e, RS K B σ H S ∧ t DD S e ∧ HX K W B e ∧
  (∀ σ' H', (KS K B H DD).nx σ' H' → D.nx σ' H') ∧ (∀ v H', (KS K B H DD).rt v H' → D.rt v H') ∧ (∀ σ' H', (KS K B H DD).bk σ' H' → D.bk σ' H') ∧ ∀ σ' H', (KS K B H DD).ct σ' H' → D.ct σ' H'
def DE (X : Cx) (W : WX) (e : Expr) (t : DTE) : Prop := PE X e (liftE X.K W t)
def DL (X : Cx) (W : WX) (e : Expr) (t : DTL) : Prop := PE X e (liftL X.K W t)
def DT (X : Cx) (W : WX) (e : Expr) (t : DTT) : Prop := PT X e (liftT X.K W t)
def DW (X : Cx) (W : WX) (e : Expr) (t : DTT) : Prop := PW X e (liftT X.K W t)
def DA (X : Cx) (W : WX) (es : List Expr) (t : DTA) : Prop := PA X es (liftA X.K W t)
def DS (X : Cx) (W : WX) (st : Stmt) (t : DTS) : Prop := PS X st (liftS X.K W t)
def DSs (X : Cx) (W : WX) (st : List Stmt) (t : DTS) : Prop := PSs X st (liftS X.K W t)
section
variable {X : Cx} {W : WX} {e : Expr} {pins : List (Addr × Obj)} {s : Shared} {σ : L2.St} {H : Hp} {B : B3} {S : S3}
theorem DE.go {t : DTE} (h : DE X W e t) (I : Inv X pins σ H s) (R : RS X.K B σ H S) {k : SV → S3 → Prop} {er : ED} (q : t S k er) (hx : HX X.K W B er) :
    wpAny (model X.prog X.w) X.A (eval e X.env) (EP X pins σ (KD X.K B σ H k)) X.xe s := h.run pins s σ H _ I ⟨B, S, k, er, R, q, hx, fun _ _ z => z⟩
theorem DE.mk {t : DTE} (h : ∀ pins s σ H B S k er, Inv X pins σ H s → RS X.K B σ H S → t S k er → HX X.K W B er → wpAny (model X.prog X.w) X.A (eval e X.env) (EP X pins σ (KD X.K B σ H k)) X.xe s) : DE X W e t :=
  ⟨fun pins s σ H Q I ⟨B, S, k, er, R, q, hx, f⟩ => thn (h pins s σ H B S k er I R q hx) fun u s1 ⟨v, H1, I1, r1, q1⟩ => ⟨v, H1, I1, r1, f v H1 q1⟩⟩
theorem DE.of {t : DTE} {t' : TE} (h : PE X e t') (f : ∀ σ H B S k er, RS X.K B σ H S → t S k er → HX X.K W B er → t' σ H (KD X.K B σ H k)) : DE X W e t :=
  .mk fun pins s σ H B S k er I R q hx => h.run pins s σ H _ I (f σ H B S k er R q hx)
theorem DL.go {t : DTL} (h : DL X W e t) (I : Inv X pins σ H s) (R : RS X.K B σ H S) {k : List PyData → S3 → Prop} {er : ED} (q : t S k er) (hx : HX X.K W B er) :
    wpAny (model X.prog X.w) X.A (eval e X.env) (EP X pins σ (KL X.K B σ H k)) X.xe s := h.run pins s σ H _ I ⟨B, S, k, er, R, q, hx, fun _ _ z => z⟩
theorem DL.mk {t : DTL} (h : ∀ pins s σ H B S k er, Inv X pins σ H s → RS X.K B σ H S → t S k er → HX X.K W B er → wpAny (model X.prog X.w) X.A (eval e X.env) (EP X pins σ (KL X.K B σ H k)) X.xe s) : DL X W e t :=
  ⟨fun pins s σ H Q I ⟨B, S, k, er, R, q, hx, f⟩ => thn (h pins s σ H B S k er I R q hx) fun u s1 ⟨v, H1, I1, r1, q1⟩ => ⟨v, H1, I1, r1, f v H1 q1⟩⟩
theorem DL.of {t : DTL} {t' : TE} (h : PE X e t') (f : ∀ σ H B S k er, RS X.K B σ H S → t S k er → HX X.K W B er → t' σ H (KL X.K B σ H k)) : DL X W e t :=
  .mk fun pins s σ H B S k er I R q hx => h.run pins s σ H _ I (f σ H B S k er R q hx)
theorem DT.go {t : DTT} (h : DT X W e t) (I : Inv X pins σ H s) (R : RS X.K B σ H S) {k : Bool → S3 → Prop} {er : ED} (q : t S k er) (hx : HX X.K W B er) :
    wpAny (model X.prog X.w) X.A (isTrue e X.env (eval e X.env)) (TP X pins σ (KT X.K B σ H k)) X.xe s := h.run pins s σ H _ I ⟨B, S, k, er, R, q, hx, fun _ _ z => z⟩
theorem DT.mk {t : DTT} (h : ∀ pins s σ H B S k er, Inv X pins σ H s → RS X.K B σ H S → t S k er → HX X.K W B er → wpAny (model X.prog X.w) X.A (isTrue e X.env (eval e X.env)) (TP X pins σ (KT X.K B σ H k)) X.xe s) : DT X W e t :=
  ⟨fun pins s σ H Q I ⟨B, S, k, er, R, q, hx, f⟩ => thn (h pins s σ H B S k er I R q hx) fun b s1 ⟨H1, I1, q1⟩ => ⟨H1, I1, f b H1 q1⟩⟩
theorem DT.of {t : DTT} {t' : TT} (h : PT X e t') (f : ∀ σ H B S k er, RS X.K B σ H S → t S k er → HX X.K W B er → t' σ H (KT X.K B σ H k)) : DT X W e t :=
  .mk fun pins s σ H B S k er I R q hx => h.run pins s σ H _ I (f σ H B S k er R q hx)
theorem DW.of {t : DTT} {t' : TT} (h : PW X e t') (f : ∀ σ H B S k er, RS X.K B σ H S → t S k er → HX X.K W B er → t' σ H (KT X.K B σ H k)) : DW X W e t :=
  ⟨fun wh pins s σ H Q I ⟨B, S, k, er, R, q, hx, g⟩ => thn (h.run wh pins s σ H _ I (f σ H B S k er R q hx)) fun b s1 ⟨H1, I1, q1⟩ => ⟨H1, I1, g b H1 q1⟩⟩
theorem DA.of {es : List Expr} {t : DTA} {t' : TA} (h : PA X es t') (f : ∀ σ H B S k er, RS X.K B σ H S → t S k er → HX X.K W B er → t' σ H (KA X.K B σ H k)) : DA X W es t :=
  ⟨fun pos pins s σ H Q I ⟨B, S, k, er, R, q, hx, g⟩ => thn (h.run pos pins s σ H _ I (f σ H B S k er R q hx)) fun us s1 ⟨vs, H1, I1, r1, q1⟩ => ⟨vs, H1, I1, r1, g vs H1 q1⟩⟩
theorem DA.go {es : List Expr} {t : DTA} (h : DA X W es t) {pos : Pos} (I : Inv X pins σ H s) (R : RS X.K B σ H S) {k : List SV → S3 → Prop} {er : ED} (q : t S k er) (hx : HX X.K W B er) :
    wpAny (model X.prog X.w) X.A (spliced (backTo pos (starEach es X.env))) (AP X pins σ (KA X.K B σ H k)) X.xe s := h.run pos pins s σ H _ I ⟨B, S, k, er, R, q, hx, fun _ _ z => z⟩
end
/-- within a rule's reading: what a part gives -/
theorem liftE.in {K : PySem.W.Frag} {W : WX} {t : DTE} {σ : L2.St} {H : Hp} {B : B3} {S : S3} (R : RS K B σ H S) {k : SV → S3 → Prop} {er : ED} (q : t S k er) (hx : HX K W B er) {Q : VK} (f : ∀ v H1 r S1, RS K B σ H1 S1 → Mono H H1 → RR K B H1 r v → k r S1 → Q v H1) : liftE K W t σ H Q :=
  ⟨B, S, k, er, R, q, hx, fun v H1 ⟨r, S1, a, b, c, d⟩ => f v H1 r S1 a b c d⟩
theorem liftT.in {K : PySem.W.Frag} {W : WX} {t : DTT} {σ : L2.St} {H : Hp} {B : B3} {S : S3} (R : RS K B σ H S) {k : Bool → S3 → Prop} {er : ED} (q : t S k er) (hx : HX K W B er) {Q : Bool → Hp → Prop} (f : ∀ b H1 S1, RS K B σ H1 S1 → Mono H H1 → k b S1 → Q b H1) : liftT K W t σ H Q :=
  ⟨B, S, k, er, R, q, hx, fun v H1 ⟨S1, a, b, d⟩ => f v H1 S1 a b d⟩
theorem liftA.in {K : PySem.W.Frag} {W : WX} {t : DTA} {σ : L2.St} {H : Hp} {B : B3} {S : S3} (R : RS K B σ H S) {k : List SV → S3 → Prop} {er : ED} (q : t S k er) (hx : HX K W B er) {Q : List V → Hp → Prop} (f : ∀ v H1 r S1, RS K B σ H1 S1 → Mono H H1 → RRs K B H1 r v → k r S1 → Q v H1) : liftA K W t σ H Q :=
  ⟨B, S, k, er, R, q, hx, fun v H1 ⟨r, S1, a, b, c, d⟩ => f v H1 r S1 a b c d⟩
theorem liftL.in {K : PySem.W.Frag} {W : WX} {t : DTL} {σ : L2.St} {H : Hp} {B : B3} {S : S3} (R : RS K B σ H S) {k : List PyData → S3 → Prop} {er : ED} (q : t S k er) (hx : HX K W B er) {Q : VK} (f : ∀ v H1 xs S1, RS K B σ H1 S1 → Mono H H1 → RL K B σ S1 H1 xs v → k xs S1 → Q v H1) : liftL K W t σ H Q :=
  ⟨B, S, k, er, R, q, hx, fun v H1 ⟨r, S1, a, b, c, d⟩ => f v H1 r S1 a b c d⟩
theorem KD.of {K : PySem.W.Frag} {B : B3} {σ : L2.St} {H H1 H2 : Hp} {k : SV → S3 → Prop} {v : V} (m : Mono H H1) (h : KD K B σ H1 k v H2) : KD K B σ H k v H2 := let ⟨r, S', a, b, c, d⟩ := h; ⟨r, S', a, m.tr b, c, d⟩
theorem KT.of {K : PySem.W.Frag} {B : B3} {σ : L2.St} {H H1 H2 : Hp} {k : Bool → S3 → Prop} {v : Bool} (m : Mono H H1) (h : KT K B σ H1 k v H2) : KT K B σ H k v H2 := let ⟨S', a, b, d⟩ := h; ⟨S', a, m.tr b, d⟩
theorem KL.of {K : PySem.W.Frag} {B : B3} {σ : L2.St} {H H1 H2 : Hp} {k : List PyData → S3 → Prop} {v : V} (m : Mono H H1) (h : KL K B σ H1 k v H2) : KL K B σ H k v H2 := let ⟨r, S', a, b, c, d⟩ := h; ⟨r, S', a, m.tr b, c, d⟩

/-! ### names and constants -/
def dC (r : SV) : DTE := fun S k _ => k r S
def dVar (i : Nat) : DTE := fun S k _ => match S.G[i]? with
  | some (some (.own xs)) => k (.d (.list xs)) { S with G := S.G.set i (some (.d (.list xs))) }
  | some (some r) => k r S
  | _ => False
/-- a slot's own list is frozen -/
theorem RS.freeze {K : PySem.W.Frag} {B : B3} {σ : L2.St} {H : Hp} {S : S3} {i : Nat} {xs : List PyData} {a : Addr} {vs : List V} {o : Obj} (R : RS K B σ H S) (e : S.G[i]? = some (some (.own xs))) (ea : σ[i]? = some (some (.ref a))) (h : H a = some (.lst vs)) (hd : DzA K H vs xs) (h0 : B.H0 a = none) (hm : a ∉ B.ms) :
    RS K B σ (upd H a (.frz o (.lst vs))) { S with G := S.G.set i (some (.d (.list xs))) } ∧ Mono H (upd H a (.frz o (.lst vs))) ∧ Dz K (upd H a (.frz o (.lst vs))) (.ref a) (.list xs) := by
  have m : Mono H (upd H a (.frz o (.lst vs))) := .at_ h nfz_lst
  have z : Dz K (upd H a (.frz o (.lst vs))) (.ref a) (.list xs) := .lst (.inl ⟨_, upd_same⟩) (hd.mono m)
  refine ⟨⟨fun j r q => ?_, fun j k ys zs v ne e1 e2 e3 e4 => ?_, R.cn, R.nd, fun n b ys e1 e2 => ?_, fun b u e1 e2 => ?_, by simp [R.len], tabs_at R.tabs h⟩, m, z⟩
  · rcases set_get q with ⟨rfl, q, _⟩ | ⟨ne, q⟩
    · cases q
      exact ⟨_, ea, z⟩
    · obtain ⟨v, h1, h2⟩ := R.slot j r q
      refine ⟨v, h1, ?_⟩
      cases r with
      | own ys =>
        obtain ⟨b, ws, q1, q2, q3, q4⟩ := h2
        have hb : b ≠ a := fun z => by
          subst z
          exact R.sep i j _ _ _ ne e q ea (by rw [h1, q1])
        exact ⟨b, ws, q1, by rw [upd_ne hb]; exact q2, q3.mono m, q4⟩
      | _ => exact h2.mono m (fun _ z => nomatch z)
  · rcases set_get e1 with ⟨_, q, _⟩ | ⟨n1, e1⟩
    · cases q
    · rcases set_get e2 with ⟨_, q, _⟩ | ⟨n2, e2⟩
      · cases q
      · exact R.sep j k ys zs v ne e1 e2 e3 e4
  · obtain ⟨ws, q1, q2⟩ := R.cell n b ys e1 e2
    have hb : b ≠ a := fun z => hm (by rw [← z]; exact List.mem_of_getElem? e1)
    exact ⟨ws, by rw [upd_ne hb]; exact q1, q2.mono m⟩
  · have hb : b ≠ a := fun z => by
      subst z
      rw [h0] at e1
      cases e1
    rw [upd_ne hb]
    exact R.keep b u e1 e2
section
variable {X : Cx} {W : WX}
theorem d_var {i : Nat} {x : Str} {pos : Pos} (hN : X.N[i]? = some x) (hv : Vis X.env.scope x) (hd : (x == ("__debug__" : Str)) = false := by decide) (hcd : (x == ("__classdict__" : Str)) = false := by decide) : DE X W (.Name x pos) (dVar i) := by
  refine .mk fun pins s σ H B S k er I R q hx => ?_
  have run := (pe_var (pos := pos) (i := i) hN hv hd hcd).run pins s σ H
  unfold dVar at q
  split at q
  · rename_i xs e
    obtain ⟨v, hσ, a, vs, rfl, h1, h2, h3, h4⟩ := R.slot i _ e
    refine thn (run (fun u H' => u = .ref a ∧ H' = H) I ⟨_, hσ, rfl, rfl⟩) fun u s1 ⟨v, H1, I1, r1, ev, eH⟩ => ?_
    subst ev eH
    obtain ⟨od, I2⟩ := I1.lock h1 trivial
    obtain ⟨R2, m, z⟩ := R.freeze (o := od) e hσ h1 h2 h3 h4
    exact ⟨.ref a, _, I2, r1, .d (.list xs), _, R2, m, z, q⟩
  · rename_i r hn e
    obtain ⟨v, hσ, h1⟩ := R.slot i _ e
    exact run _ I ⟨v, hσ, r, S, R, .rfl, .of h1 (fun xs z => hn xs (by rw [z])), q⟩
  · exact q.elim
theorem d_int {i : Int} {j : Nat} {pos : Pos} : DE X W (.Constant (.int i) j pos) (dC (.d (.int i))) := .of pe_int fun σ H B S k er R q hx => ⟨.d (.int i), S, R, .rfl, Dz.int i, q⟩
theorem d_bl {b : Bool} {j : Nat} {pos : Pos} : DE X W (.Constant (.bool b) j pos) (dC (.d (.bool b))) := .of pe_bl fun σ H B S k er R q hx => ⟨.d (.bool b), S, R, .rfl, Dz.bl b, q⟩
theorem d_non {j : Nat} {pos : Pos} : DE X W (.Constant .none j pos) (dC (.d .none)) := .of pe_non fun σ H B S k er R q hx => ⟨.d .none, S, R, .rfl, Dz.non, q⟩
theorem d_str {x : Str} {j : Nat} {pos : Pos} : DE X W (.Constant (.str x) j pos) (dC (.d (.str x))) := .of pe_str fun σ H B S k er R q hx => ⟨.d (.str x), S, R, .rfl, Dz.str x, q⟩
/-- a module's name -/
theorem d_glob {x : Str} {r : SV} {v : V} {u : Value} {pos : Pos} (hg : Gl X x) (hm : X.mg x = some u) (rv : RelV v u) (hr : ∀ B H, RR X.K B H r v) (hd : (x == ("__debug__" : Str)) = false := by decide) : DE X W (.Name x pos) (dC r) :=
  .of (pe_glob hg hm rv hd) fun σ H B S k er R q hx => ⟨r, S, R, .rfl, hr B H, q⟩
theorem d_bltn {x : Str} {v : V} {u : Value} {pos : Pos} (hg : Gl X x) (hm : X.mg x = none) (hv : bootBuiltins x = some u) (rv : RelV v u) (hn : x ≠ "__name__" := by decide) (hd : (x == ("__debug__" : Str)) = false := by decide) : DE X W (.Name x pos) (dC (.raw v)) :=
  .of (pe_bltn hg hm hv rv hn hd) fun σ H B S k er R q hx => ⟨.raw v, S, R, .rfl, (rfl : v = v), q⟩

/-! ### two operands -/
def dBin (g : SV → SV → (SV → Prop) → Prop) (ta tb : DTE) : DTE := fun S k e => ta S (fun x S1 => tb S1 (fun y S2 => g x y fun r => k r S2) e) e
/-- an operation by data -/
def OpD (X : Cx) (f : Value → Value → Sem Value) (g : SV → SV → (SV → Prop) → Prop) : Prop :=
  ∀ pins s σ H B S (x y : SV) (vx vy : V) (v u : Value) (k : SV → Prop), Inv X pins σ H s → RS X.K B σ H S → RR X.K B H x vx → RelV vx v → RR X.K B H y vy → RelV vy u → g x y k →
    wpAny (model X.prog X.w) X.A (f v u) (EP X pins σ (KD X.K B σ H fun r S' => S' = S ∧ k r)) X.xe s
theorem OpD.of {f : Value → Value → Sem Value} {r : R2} {g : SV → SV → (SV → Prop) → Prop} (ho : OpR X f r)
    (h : ∀ σ H B S x y vx vy k, RS X.K B σ H S → RR X.K B H x vx → RR X.K B H y vy → g x y k → r vx vy H (KD X.K B σ H fun r S' => S' = S ∧ k r)) : OpD X f g :=
  fun pins s σ H B S x y vx vy v u k I R a b c d q => ho pins s σ H vx vy v u _ I b d (h σ H B S x y vx vy k R a c q)
theorem OpD.or {f : Value → Value → Sem Value} {g g' : SV → SV → (SV → Prop) → Prop} (h : OpD X f g) (h' : OpD X f g') : OpD X f (fun x y k => g x y k ∨ g' x y k) :=
  fun pins s σ H B S x y vx vy v u k I R a b c d q => q.elim (h pins s σ H B S x y vx vy v u k I R a b c d) (h' pins s σ H B S x y vx vy v u k I R a b c d)
theorem OpD.imp {f : Value → Value → Sem Value} {g g' : SV → SV → (SV → Prop) → Prop} (h : OpD X f g) (i : ∀ x y k, g' x y k → g x y k) : OpD X f g' :=
  fun pins s σ H B S x y vx vy v u k I R a b c d q => h pins s σ H B S x y vx vy v u k I R a b c d (i x y k q)
section
variable {a b : Expr} {ta tb : DTE} {pos : Pos}
theorem d_two (ha : DE X W a ta) (hb : DE X W b tb) {pins : List (Addr × Obj)} {s : Shared} {σ : L2.St} {H : Hp} {B : B3} {S : S3} (I : Inv X pins σ H s) (R : RS X.K B σ H S) {k2 : SV → SV → S3 → Prop} {er : ED}
    (q : ta S (fun x S1 => tb S1 (fun y S2 => k2 x y S2) er) er) (hx : HX X.K W B er) {α : Type} {Q : α → Shared → Prop} {f : Value → Value → Sem α}
    (hf : ∀ v u s2 x y vx vy H2 S2, Inv X pins σ H2 s2 → RS X.K B σ H2 S2 → Mono H H2 → RR X.K B H2 x vx → RelV vx v → RR X.K B H2 y vy → RelV vy u → k2 x y S2 → wpAny (model X.prog X.w) X.A (f v u) Q X.xe s2) :
    wpAny (model X.prog X.w) X.A (eval a X.env) (fun v s₁ => wpAny (model X.prog X.w) X.A (eval b X.env) (fun u s₂ => wpAny (model X.prog X.w) X.A (f v u) Q X.xe s₂) X.xe s₁) X.xe s := by
  refine thn (ha.go I R q hx) fun v s1 ⟨vx, H1, I1, r1, x, S1, R1, m1, x1, q1⟩ => ?_
  refine thn (hb.go I1 R1 q1 hx) fun u s2 ⟨vy, H2, I2, r2, y, S2, R2, m2, y2, q2⟩ => ?_
  exact hf v u s2 x y vx vy H2 S2 I2 R2 (m1.tr m2) (x1.mono m2) r1 y2 r2 q2
theorem EP.kd {pins : List (Addr × Obj)} {s : Shared} {σ : L2.St} {H H2 : Hp} {B : B3} {S2 : S3} {k : SV → S3 → Prop} {w : Value} (m : Mono H H2) (h : EP X pins σ (KD X.K B σ H2 fun r S' => S' = S2 ∧ k r S2) w s) : EP X pins σ (KD X.K B σ H k) w s := by
  obtain ⟨v, H3, I3, r3, r, S', R3, m3, rr, e, q⟩ := h
  subst e
  exact ⟨v, H3, I3, r3, r, _, R3, m.tr m3, rr, q⟩
theorem d_op {op : Operator} {g : SV → SV → (SV → Prop) → Prop} (ho : OpD X (binaryOp op) g) (ha : DE X W a ta) (hb : DE X W b tb) : DE X W (.BinOp a op b pos) (dBin g ta tb) := by
  refine .mk fun pins s σ H B S k er I R q hx => ?_
  exact wpAny_BinOp (d_two ha hb I R q hx fun v u s2 x y vx vy H2 S2 I2 R2 m a b c d q2 => thn (ho pins s2 σ H2 B S2 x y vx vy v u _ I2 R2 a b c d q2) fun w s3 h => EP.kd m h)
theorem d_cmp {op : CmpOp} {g : SV → SV → (SV → Prop) → Prop} (ho : OpD X (compareOp op) g) (ha : DE X W a ta) (hb : DE X W b tb) (hm : behindInMarks op b = false) : DE X W (.Compare a [op] [b] pos) (dBin g ta tb) := by
  refine .mk fun pins s σ H B S k er I R q hx => ?_
  exact wpAny_Compare1 (d_two ha hb I R q hx fun v u s2 x y vx vy H2 S2 I2 R2 m a b c d q2 => thn (ho pins s2 σ H2 B S2 x y vx vy v u _ I2 R2 a b c d q2) fun w s3 h => EP.kd m h) hm
/-- a comparison as a test -/
def dTst (t : DTE) : DTT := fun S k e => t S (fun r S1 => match r with | .d (.bool b) => k b S1 | _ => False) e
theorem RR.bool {K : PySem.W.Frag} {B : B3} {H : Hp} {b : Bool} {v : V} (h : RR K B H (.d (.bool b)) v) : v = .bl b := by
  cases (show Dz K H v (.bool b) from h)
  rfl
theorem d_cmpT {op : CmpOp} {g : SV → SV → (SV → Prop) → Prop} (ho : OpD X (compareOp op) g) (ha : DE X W a ta) (hb : DE X W b tb) (hm : behindInMarks op b = false) : DT X W (.Compare a [op] [b] pos) (dTst (dBin g ta tb)) := by
  refine .mk fun pins s σ H B S k er I R q hx => ?_
  refine wpAny_isTrue_Compare1 (d_two ha hb I R q hx fun v u s2 x y vx vy H2 S2 I2 R2 m a b c d q2 => thn (ho pins s2 σ H2 B S2 x y vx vy v u _ I2 R2 a b c d q2) fun w s3 h => ?_) hm
  obtain ⟨v, H3, I3, r3, r, S', R3, m3, rr, e, q3⟩ := h
  subst e
  match r, rr, q3 with
  | .d (.bool z), rr, q3 =>
    have e := RR.bool rr
    subst e
    cases r3
    exact wpAny_truthy_bool ⟨H3, I3, S', R3, m.tr m3, q3⟩
end

/-! ### ints -/
def gI (C : Int → Int → Prop) (f : Int → Int → PyData) : SV → SV → (SV → Prop) → Prop := fun x y k => match x, y with
  | .d (.int i), .d (.int j) => C i j ∧ k (.d (f i j))
  | _, _ => False
theorem opI_of {f : Value → Value → Sem Value} {C : Int → Int → Prop} {g : Int → Int → V} {d : Int → Int → PyData} (ho : OpR X f (rI C g)) (hd : ∀ i j K H, Dz K H (g i j) (d i j)) : OpD X f (gI C d) :=
  .of ho fun σ H B S x y vx vy k R a b q => by
    unfold gI at q
    split at q
    · cases (show Dz _ _ _ _ from a)
      cases (show Dz _ _ _ _ from b)
      exact ⟨_, _, rfl, rfl, q.1, .d _, S, R, .rfl, hd _ _ _ _, rfl, q.2⟩
    · exact q.elim
theorem rI0_rI {f : Value → Value → Sem Value} {g : Int → Int → V} (h : OpR X f (rI0 g)) : OpR X f (rI (fun _ _ => True) g) := by
  intro pins s σ H x y v u Q I rx ry q
  obtain ⟨i, j, e1, e2, _, q⟩ := q
  exact h pins s σ H x y v u Q I rx ry ⟨i, j, e1, e2, q⟩
def gAddI := gI (fun _ _ => True) fun i j => .int (i + j)
def gSubI := gI (fun _ _ => True) fun i j => .int (i - j)
theorem oAddI : OpD X (binaryOp .Add) gAddI := opI_of (rI0_rI op_add) fun _ _ _ _ => .int _
theorem oSub : OpD X (binaryOp .Sub) gSubI := opI_of (rI0_rI op_sub) fun _ _ _ _ => .int _
/-- both factors together below a million bits -/
def MulOk (i j : Int) : Prop := i.natAbs.log2 + j.natAbs.log2 < 1000000
theorem MulOk.ok {i j : Int} (h : MulOk i j) : IntMulOk i j := by
  have b : ∀ x : Int, Builtin.Int.intBits x ≤ x.natAbs.log2 + 1 := fun x => by
    unfold Builtin.Int.intBits
    split
    · omega
    · omega
  have h1 := b i
  have h2 := b j
  have h3 : i.natAbs.log2 + j.natAbs.log2 < 1000000 := h
  have e : bitsLine = 134217728 := by decide
  unfold IntMulOk
  intro z
  rw [Bool.and_eq_true] at z
  have z3 := of_decide_eq_true (show decide _ = true from z.2)
  rw [e] at z3
  omega
def gMulI := gI MulOk fun i j => .int (i * j)
theorem oMulI : OpD X (binaryOp .Mult) gMulI := opI_of (opI fun _ _ _ _ _ _ _ hc q => mul_int q (MulOk.ok hc)) fun _ _ _ _ => .int _
def DivOk (_ j : Int) : Prop := j ≠ 0 ∧ j.natAbs.log2 < 9000
def gDiv := gI DivOk fun i j => .int (i.fdiv j)
theorem oDiv : OpD X (binaryOp .FloorDiv) gDiv := opI_of (C := DivOk) (opI fun i j _ _ _ _ _ hc q => floordiv_int hc.1 q (.inl (PyProof.noPylong_of_log2 hc.2))) fun _ _ _ _ => .int _
def gMod := gI (fun _ j => j ≠ 0) fun i j => .int (i.fmod j)
theorem oMod : OpD X (binaryOp .Mod) gMod := opI_of op_modN fun _ _ _ _ => .int _
/-- a power below 2 ^ 27 bits -/
def PowOk (i j : Int) : Prop := 0 ≤ j ∧ ((i.natAbs.log2 + 1 : Nat) : Int) * j ≤ 134217728
def gPow := gI PowOk fun i j => .int (i ^ j.toNat)
theorem PowOk.bits {i j : Int} (h : PowOk i j) : (Builtin.Int.intBits i : Int) * j ≤ 2 ^ 27 := by
  have b : Builtin.Int.intBits i ≤ i.natAbs.log2 + 1 := by
    unfold Builtin.Int.intBits
    split
    · omega
    · omega
  have z : (Builtin.Int.intBits i : Int) * j ≤ ((i.natAbs.log2 + 1 : Nat) : Int) * j := Int.mul_le_mul_of_nonneg_right (by omega) h.1
  have e : (2 : Int) ^ 27 = 134217728 := by decide
  rw [e]
  exact Int.le_trans z h.2
theorem oPow : OpD X (binaryOp .Pow) gPow := opI_of (opI fun _ _ _ _ _ _ _ hc q => PyProof.Rows.pow_int hc.1 hc.bits q) fun _ _ _ _ => .int _
def gLt := gI (fun _ _ => True) fun i j => .bool (decide (i < j))
def gLe := gI (fun _ _ => True) fun i j => .bool (decide (i ≤ j))
def gGt := gI (fun _ _ => True) fun i j => .bool (decide (j < i))
def gGe := gI (fun _ _ => True) fun i j => .bool (decide (j ≤ i))
theorem oLt : OpD X (compareOp .Lt) gLt := opI_of (rI0_rI op_lt) fun _ _ _ _ => .bl _
theorem oLe : OpD X (compareOp .LtE) gLe := opI_of (rI0_rI op_le) fun _ _ _ _ => .bl _
theorem oGt : OpD X (compareOp .Gt) gGt := opI_of (rI0_rI op_gt) fun _ _ _ _ => .bl _
theorem oGe : OpD X (compareOp .GtE) gGe := opI_of (rI0_rI op_ge) fun _ _ _ _ => .bl _
/-- == of data -/
def gEq : SV → SV → (SV → Prop) → Prop := fun x y k => match x, y with
  | .d (.str a), .d (.str b) => k (.d (.bool (a == b)))
  | .d a, .d b => SeqAt.shaped a = true ∧ SeqAt.shaped b = true ∧ k (.d (.bool (PyData.eqv a b)))
  | _, _ => False
def gNe : SV → SV → (SV → Prop) → Prop := fun x y k => match x, y with
  | .d (.str a), .d (.str b) => k (.d (.bool (!(a == b))))
  | .d a, .d b => SeqAt.shaped a = true ∧ SeqAt.shaped b = true ∧ k (.d (.bool (!PyData.eqv a b)))
  | _, _ => False
theorem str_eq {a b : Str} : decide (V.str a = V.str b) = (a == b) := by
  by_cases h : a = b
  · subst h
    simp
  · rw [decide_eq_false (fun z => h (V.str.inj z)), beq_eq_false_iff_ne.mpr h]
theorem oEq (hu : X.A.units + 64 < cLine) : OpD X (compareOp .Eq) gEq := by
  intro pins s σ H B S x y vx vy v u k I R a rx b ry q
  unfold gEq at q
  split at q
  · rename_i p r
    cases (show Dz _ _ _ _ from a)
    cases (show Dz _ _ _ _ from b)
    refine op_eq pins s σ H _ _ v u _ I rx ry ⟨rfl, ?_⟩
    rw [str_eq]
    exact ⟨.d _, S, R, .rfl, Dz.bl _, rfl, q⟩
  · exact op_eqD hu pins s σ H _ _ v u _ I rx ry ⟨_, _, Dz.dp _ _ (lay_noDict _ (SeqAt.canLay_of_shaped q.1)) a, Dz.dp _ _ (lay_noDict _ (SeqAt.canLay_of_shaped q.2.1)) b, q.1, q.2.1, .d _, S, R, .rfl, Dz.bl _, rfl, q.2.2⟩
  · exact q.elim
theorem oNe (hu : X.A.units + 64 < cLine) : OpD X (compareOp .NotEq) gNe := by
  intro pins s σ H B S x y vx vy v u k I R a rx b ry q
  unfold gNe at q
  split at q
  · rename_i p r
    cases (show Dz _ _ _ _ from a)
    cases (show Dz _ _ _ _ from b)
    refine op_ne pins s σ H _ _ v u _ I rx ry ⟨rfl, ?_⟩
    rw [str_eq]
    exact ⟨.d _, S, R, .rfl, Dz.bl _, rfl, q⟩
  · exact op_neD hu pins s σ H _ _ v u _ I rx ry ⟨_, _, Dz.dp _ _ (lay_noDict _ (SeqAt.canLay_of_shaped q.1)) a, Dz.dp _ _ (lay_noDict _ (SeqAt.canLay_of_shaped q.2.1)) b, q.1, q.2.1, .d _, S, R, .rfl, Dz.bl _, rfl, q.2.2⟩
  · exact q.elim
/-- is None, is not None -/
def isNone : SV → Option Bool
  | .d .none => some true
  | .d _ => some false
  | .exc _ _ => some false
  | .cell _ => some false
  | _ => none
theorem isNone_v {K : PySem.W.Frag} {B : B3} {H : Hp} {x : SV} {v : V} {b : Bool} (h : RR K B H x v) (e : isNone x = some b) : decide (v = .non) = b := by
  cases x with
  | d x =>
    have h' : Dz K H v x := h
    cases x <;> cases h' <;> cases e <;> rfl
  | cell n =>
    obtain ⟨a, _, rfl⟩ := h
    cases e
    rfl
  | exc C fs =>
    obtain ⟨a, rfl, _⟩ := h
    cases e
    rfl
  | own _ => cases e
  | raw _ => cases e
  | thk _ _ _ _ _ => cases e
def gIs : SV → SV → (SV → Prop) → Prop := fun x y k => match y with
  | .d .none => ∃ b, isNone x = some b ∧ k (.d (.bool b))
  | _ => False
def gIsN : SV → SV → (SV → Prop) → Prop := fun x y k => match y with
  | .d .none => ∃ b, isNone x = some b ∧ k (.d (.bool (!b)))
  | _ => False
theorem oIs : OpD X (compareOp .Is) gIs := .of op_isN fun σ H B S x y vx vy k R a b q => by
  unfold gIs at q
  split at q
  · cases (show Dz _ _ _ _ from b)
    obtain ⟨z, e, q⟩ := q
    refine ⟨rfl, ?_⟩
    rw [isNone_v a e]
    exact ⟨.d _, S, R, .rfl, Dz.bl _, rfl, q⟩
  · exact q.elim
theorem oIsN : OpD X (compareOp .IsNot) gIsN := .of op_notN fun σ H B S x y vx vy k R a b q => by
  unfold gIsN at q
  split at q
  · cases (show Dz _ _ _ _ from b)
    obtain ⟨z, e, q⟩ := q
    refine ⟨rfl, ?_⟩
    rw [isNone_v a e]
    exact ⟨.d _, S, R, .rfl, Dz.bl _, rfl, q⟩
  · exact q.elim
end
end
end D3
/-! D3c: truth, displays, calls, statements, loops. -/
namespace D3
open PySem PySem.Spec PyProof.Rows L2
section
variable [Tb]

def iteB (b : Bool) (p q : Prop) : Prop := match b with
  | true => p
  | false => q
theorem iteB_true {p q : Prop} : iteB true p q = p := rfl
theorem iteB_false {p q : Prop} : iteB false p q = q := rfl
theorem iteB_of {b : Bool} {p q : Prop} (h1 : b = true → p) (h2 : b = false → q) : iteB b p q := by
  cases b
  · exact h2 rfl
  · exact h1 rfl
theorem iteB_if {b : Bool} {p q : Prop} (h : iteB b p q) : if b = true then p else q := by
  cases b
  · exact h
  · exact h

/-! ### truth -/
def truthD (x : PyData) (k : Bool → Prop) : Prop := match x with
  | .none => k false
  | .bool b => k b
  | .int i => k (i != 0)
  | .str s => s.length ≤ sizeLine ∧ k ((s.length : Int) != 0)
  | .list xs => k (!xs.isEmpty)
  | .tuple xs => k (!xs.isEmpty)
  | .dict _ => False
def dTruth (t : DTE) : DTT := fun S k e => t S (fun r S1 => match r with
  | .d x => truthD x fun b => k b S1
  | _ => False) e
theorem DzA.emp {K : PySem.W.Frag} {H : Hp} {vs : List V} {ds : List PyData} (h : DzA K H vs ds) : (!vs.isEmpty) = !ds.isEmpty := by
  cases h with
  | nil => rfl
  | cons _ _ => rfl
section
variable {X : Cx} {W : WX} {a b c e : Expr} {ta tb : DTE} {tA tB : DTT} {rest es : List Expr} {pos : Pos}
theorem d_truth (ha : DE X W a ta) (he : ∀ whole, isTrue a X.env whole = (do let v ← whole; standAt a.pos; holding [v] (truthy v)) := by intro _; rfl) : DT X W a (dTruth ta) :=
  .of (pt_truth ha he) fun σ H B S k er R q hx => liftE.in (t := ta) R q hx fun v H1 r S1 R1 m1 rr q1 => by
    match r, rr, q1 with
    | .d x, rr, q1 =>
      have rr : Dz X.K H1 v x := rr
      unfold truthD at q1
      cases x with
      | none => cases rr; exact ⟨_, rfl, S1, R1, m1, q1⟩
      | bool b => cases rr; exact ⟨_, rfl, S1, R1, m1, q1⟩
      | int i => cases rr; exact ⟨_, rfl, S1, R1, m1, q1⟩
      | str s => cases rr; exact ⟨_, ⟨q1.1, rfl⟩, S1, R1, m1, q1.2⟩
      | list xs =>
        cases rr with
        | lst h1 h2 => exact ⟨_, .inl ⟨_, h1.sq, rfl⟩, S1, R1, m1, by rw [h2.emp]; exact q1⟩
      | tuple xs =>
        cases rr with
        | tup h1 h2 => exact ⟨_, .inr (.inl ⟨_, h1, rfl⟩), S1, R1, m1, by rw [h2.emp]; exact q1⟩
      | dict _ => exact q1.elim
def dAnd (t u : DTT) : DTT := fun S k e => t S (fun b S1 => iteB b (u S1 k e) (k false S1)) e
def dOr (t u : DTT) : DTT := fun S k e => t S (fun b S1 => iteB b (k true S1) (u S1 k e)) e
def dNot (t : DTT) : DTT := fun S k e => t S (fun b S1 => k (!b) S1) e
theorem dw_and1 (ha : DT X W a tA) : DW X W (.BoolOp .And [a] pos) tA := pw_and1 ha
theorem dw_or1 (ha : DT X W a tA) : DW X W (.BoolOp .Or [a] pos) tA := pw_or1 ha
theorem dw_and (ha : DT X W a tA) (hb : DW X W (.BoolOp .And (b :: rest) pos) tB) : DW X W (.BoolOp .And (a :: b :: rest) pos) (dAnd tA tB) :=
  .of (pw_and ha hb) fun σ H B S k er R q hx => liftT.in (t := tA) R q hx fun z H1 S1 R1 m1 q1 => by
    cases z with
    | true => exact liftT.in (t := tB) R1 q1 hx fun z H2 S2 R2 m2 q2 => ⟨S2, R2, m1.tr m2, q2⟩
    | false => exact ⟨S1, R1, m1, q1⟩
theorem dw_or (ha : DT X W a tA) (hb : DW X W (.BoolOp .Or (b :: rest) pos) tB) : DW X W (.BoolOp .Or (a :: b :: rest) pos) (dOr tA tB) :=
  .of (pw_or ha hb) fun σ H B S k er R q hx => liftT.in (t := tA) R q hx fun z H1 S1 R1 m1 q1 => by
    cases z with
    | false => exact liftT.in (t := tB) R1 q1 hx fun z H2 S2 R2 m2 q2 => ⟨S2, R2, m1.tr m2, q2⟩
    | true => exact ⟨S1, R1, m1, q1⟩
theorem DW.dt (h : DW X W a tA) : DT X W a tA := PW.pt h
theorem d_not (ha : DT X W a tA) : DT X W (.UnaryOp .Not a pos) (dNot tA) :=
  .of (pt_not ha) fun σ H B S k er R q hx => liftT.in (t := tA) R q hx fun z H1 S1 R1 m1 q1 => ⟨S1, R1, m1, q1⟩
/-- as values: bools -/
def dAndV (t u : DTE) : DTE := fun S k e => t S (fun r S1 => match r with
  | .d (.bool true) => u S1 k e
  | .d (.bool false) => k (.d (.bool false)) S1
  | _ => False) e
def dOrV (t u : DTE) : DTE := fun S k e => t S (fun r S1 => match r with
  | .d (.bool true) => k (.d (.bool true)) S1
  | .d (.bool false) => u S1 k e
  | _ => False) e
def dNotV (t : DTE) : DTE := fun S k e => t S (fun r S1 => match r with
  | .d (.bool b) => k (.d (.bool (!b))) S1
  | _ => False) e
theorem d_one {op : BoolOp} (h : DE X W a ta) : DE X W (.BoolOp op [a] pos) ta := pe_one h
theorem d_andV (ha : DE X W a ta) (hb : DE X W (.BoolOp .And (b :: rest) pos) tb) : DE X W (.BoolOp .And (a :: b :: rest) pos) (dAndV ta tb) :=
  .of (pe_and ha hb) fun σ H B S k er R q hx => liftE.in (t := ta) R q hx fun v H1 r S1 R1 m1 rr q1 => by
    match r, rr, q1 with
    | .d (.bool true), rr, q1 =>
      have e := RR.bool rr
      subst e
      exact ⟨true, rfl, liftE.in (t := tb) R1 q1 hx fun v H2 r S2 R2 m2 rr q2 => ⟨r, S2, R2, m1.tr m2, rr, q2⟩⟩
    | .d (.bool false), rr, q1 =>
      have e := RR.bool rr
      subst e
      exact ⟨false, rfl, .d (.bool false), S1, R1, m1, Dz.bl _, q1⟩
theorem d_orV (ha : DE X W a ta) (hb : DE X W (.BoolOp .Or (b :: rest) pos) tb) : DE X W (.BoolOp .Or (a :: b :: rest) pos) (dOrV ta tb) :=
  .of (pe_or ha hb) fun σ H B S k er R q hx => liftE.in (t := ta) R q hx fun v H1 r S1 R1 m1 rr q1 => by
    match r, rr, q1 with
    | .d (.bool false), rr, q1 =>
      have e := RR.bool rr
      subst e
      exact ⟨false, rfl, liftE.in (t := tb) R1 q1 hx fun v H2 r S2 R2 m2 rr q2 => ⟨r, S2, R2, m1.tr m2, rr, q2⟩⟩
    | .d (.bool true), rr, q1 =>
      have e := RR.bool rr
      subst e
      exact ⟨true, rfl, .d (.bool true), S1, R1, m1, Dz.bl _, q1⟩
theorem d_notV (ha : DE X W a ta) : DE X W (.UnaryOp .Not a pos) (dNotV ta) :=
  .of (pe_not ha) fun σ H B S k er R q hx => liftE.in (t := ta) R q hx fun v H1 r S1 R1 m1 rr q1 => by
    match r, rr, q1 with
    | .d (.bool z), rr, q1 =>
      have e := RR.bool rr
      subst e
      exact ⟨z, rfl, .d (.bool !z), S1, R1, m1, Dz.bl _, q1⟩
def dIfE (c : DTT) (t u : DTE) : DTE := fun S k e => c S (fun b S1 => iteB b (t S1 k e) (u S1 k e)) e
theorem d_ifE (hc : DT X W c tA) (ha : DE X W a ta) (hb : DE X W b tb) : DE X W (.IfExp c a b pos) (dIfE tA ta tb) :=
  .of (pe_ifExp hc ha hb) fun σ H B S k er R q hx => liftT.in (t := tA) R q hx fun z H1 S1 R1 m1 q1 => by
    cases z with
    | true => exact liftE.in (t := ta) R1 q1 hx fun v H2 r S2 R2 m2 rr q2 => ⟨r, S2, R2, m1.tr m2, rr, q2⟩
    | false => exact liftE.in (t := tb) R1 q1 hx fun v H2 r S2 R2 m2 rr q2 => ⟨r, S2, R2, m1.tr m2, rr, q2⟩
/-- -a of an int -/
def dNeg (t : DTE) : DTE := fun S k e => t S (fun r S1 => match r with
  | .d (.int i) => k (.d (.int (-i))) S1
  | _ => False) e
theorem d_neg (ha : DE X W a ta) : DE X W (.UnaryOp .USub a pos) (dNeg ta) :=
  .of (pe_un un_neg ha) fun σ H B S k er R q hx => liftE.in (t := ta) R q hx fun v H1 r S1 R1 m1 rr q1 => by
    match r, rr, q1 with
    | .d (.int z), rr, q1 =>
      cases (show Dz _ _ _ _ from rr)
      exact ⟨z, rfl, .d (.int (-z)), S1, R1, m1, Dz.int _, q1⟩

/-! ### arguments, displays -/
def dNil : DTA := fun S k _ => k [] S
def dCons (t : DTE) (u : DTA) : DTA := fun S k e => t S (fun r S1 => u S1 (fun rs S2 => k (r :: rs) S2) e) e
theorem RRs.mono {K : PySem.W.Frag} {B : B3} {H H' : Hp} (m : Mono H H') {rs : List SV} {vs : List V} (h : RRs K B H rs vs) : RRs K B H' rs vs := Paired.mapP h fun _ _ z => z.mono m
theorem da_nil : DA X W [] dNil := .of pa_nil fun σ H B S k er R q hx => ⟨[], S, R, .rfl, .nil, q⟩
theorem da_cons {t : DTA} (ha : DE X W e ta) (hr : DA X W es t) (hs : starEach (e :: es) X.env = (false, eval e X.env) :: starEach es X.env := by rfl) : DA X W (e :: es) (dCons ta t) :=
  .of (pa_cons ha hr hs) fun σ H B S k er R q hx => liftE.in (t := ta) R q hx fun v H1 r S1 R1 m1 rr q1 =>
    liftA.in (t := t) R1 q1 hx fun vs H2 rs S2 R2 m2 rrs q2 => ⟨r :: rs, S2, R2, m1.tr m2, .cons (rr.mono m2) rrs, q2⟩
def allD : List SV → Option (List PyData)
  | [] => some []
  | .d x :: r => match allD r with
    | some xs => some (x :: xs)
    | none => none
  | _ :: _ => none
theorem allD_dz {K : PySem.W.Frag} {B : B3} {H : Hp} : ∀ {rs : List SV} {vs : List V} {ds : List PyData}, RRs K B H rs vs → allD rs = some ds → DzA K H vs ds
  | _, _, _, .nil, e => by
    cases e
    exact .nil
  | .d x :: rs, _, ds, .cons h t, e => by
    unfold allD at e
    split at e
    · rename_i xs e2
      cases e
      exact .cons h (allD_dz t e2)
    · cases e
  | .own _ :: _, _, _, .cons h _, _ => h.elim
  | .cell _ :: _, _, _, .cons _ _, e => nomatch e
  | .raw _ :: _, _, _, .cons _ _, e => nomatch e
  | .exc _ _ :: _, _, _, .cons _ _, e => nomatch e
  | .thk _ _ _ _ _ :: _, _, _, .cons _ _, e => nomatch e
def dTup (t : DTA) : DTE := fun S k e => t S (fun rs S1 => match allD rs with
  | some ds => ds.length ≤ sizeLine ∧ k (.d (.tuple ds)) S1
  | none => False) e
theorem d_tup {n : Nat} {t : DTA} (h : DA X W es t) : DE X W (.Tuple es n pos) (dTup t) :=
  .of (pe_tup h) fun σ H B S k er R q hx => liftA.in (t := t) R q hx fun vs H1 rs S1 R1 m1 rrs q1 => by
    split at q1
    · rename_i ds e
      have z := allD_dz rrs e
      refine ⟨by rw [z.len]; exact q1.1, fun p hp => ⟨.d (.tuple ds), S1, R1.new hp, m1.tr (.new hp), ?_, q1.2⟩⟩
      exact Dz.tup (.of upd_same) (z.mono (.new hp))
    · exact q1.elim
def dLst (t : DTA) : DTL := fun S k e => t S (fun rs S1 => match allD rs with
  | some ds => ds.length ≤ sizeLine ∧ k ds S1
  | none => False) e
/-- a list that was just made -/
theorem RL.new {K : PySem.W.Frag} {B : B3} {σ : L2.St} {S : S3} {H : Hp} {p : Addr} {vs : List V} {ds : List PyData} (R : RS K B σ H S) (hp : H p = none) (z : DzA K H vs ds) : RL K B σ S (upd H p (.lst vs)) ds (.ref p) := by
  obtain ⟨h0, hm⟩ := R.fresh0 hp
  refine ⟨p, vs, rfl, upd_same, z.mono (.new hp), h0, hm, fun i ys e1 e2 => ?_⟩
  obtain ⟨v, e3, a, ws, e4, e5, _⟩ := R.slot i _ e1
  rw [e2] at e3
  have e6 : V.ref p = v := Option.some.inj (Option.some.inj e3)
  rw [e4] at e6
  cases e6
  rw [hp] at e5
  cases e5
theorem d_lst {t : DTA} (h : DA X W es t) : DL X W (.List es pos) (dLst t) :=
  .of (pe_lst h) fun σ H B S k er R q hx => liftA.in (t := t) R q hx fun vs H1 rs S1 R1 m1 rrs q1 => by
    split at q1
    · rename_i ds e
      have z := allD_dz rrs e
      exact ⟨by rw [z.len]; exact q1.1, fun p hp => ⟨ds, S1, R1.new hp, m1.tr (.new hp), .new R1 hp z, q1.2⟩⟩
    · exact q1.elim
/-- a list of nobody's is frozen -/
theorem RS.frzNew {K : PySem.W.Frag} {B : B3} {σ : L2.St} {H : Hp} {S : S3} {xs : List PyData} {v : V} (R : RS K B σ H S) (h : RL K B σ S H xs v) :
    ∃ a vs, v = .ref a ∧ H a = some (.lst vs) ∧ ∀ o, RS K B σ (upd H a (.frz o (.lst vs))) S ∧ Mono H (upd H a (.frz o (.lst vs))) ∧ Dz K (upd H a (.frz o (.lst vs))) (.ref a) (.list xs) := by
  obtain ⟨a, vs, rfl, h1, h2, h3, h4, h5⟩ := h
  refine ⟨a, vs, rfl, h1, fun o => ?_⟩
  have m : Mono H (upd H a (.frz o (.lst vs))) := .at_ h1 nfz_lst
  refine ⟨⟨fun j r q => ?_, R.sep, R.cn, R.nd, fun n b ys e1 e2 => ?_, fun b u e1 e2 => ?_, R.len, tabs_at R.tabs h1⟩, m, .lst (.inl ⟨_, upd_same⟩) (h2.mono m)⟩
  · obtain ⟨w, q1, q2⟩ := R.slot j r q
    refine ⟨w, q1, ?_⟩
    cases r with
    | own ys =>
      obtain ⟨b, ws, r1, r2, r3, r4⟩ := q2
      have hb : b ≠ a := fun z => by
        subst z
        exact h5 j ys q (by rw [q1, r1])
      exact ⟨b, ws, r1, by rw [upd_ne hb]; exact r2, r3.mono m, r4⟩
    | _ => exact q2.mono m (fun _ z => nomatch z)
  · obtain ⟨ws, q1, q2⟩ := R.cell n b ys e1 e2
    have hb : b ≠ a := fun z => h4 (by rw [← z]; exact List.mem_of_getElem? e1)
    exact ⟨ws, by rw [upd_ne hb]; exact q1, q2.mono m⟩
  · have hb : b ≠ a := fun z => by
      subst z
      rw [h3] at e1
      cases e1
    rw [upd_ne hb]
    exact R.keep b u e1 e2
def dFz (t : DTL) : DTE := fun S k e => t S (fun xs S1 => k (.d (.list xs)) S1) e
theorem d_fz {t : DTL} (h : DL X W e t) : DE X W e (dFz t) := by
  refine .mk fun pins s σ H B S k er I R q hx => ?_
  refine thn (h.go I R q hx) fun u s1 ⟨v, H1, I1, r1, xs, S1, R1, m1, rl, q1⟩ => ?_
  obtain ⟨a, vs, rfl, h1, f⟩ := R1.frzNew rl
  obtain ⟨od, I2⟩ := I1.lock h1 trivial
  obtain ⟨R2, m2, z⟩ := f od
  exact ⟨.ref a, _, I2, r1, .d (.list xs), S1, R2, m1.tr m2, z, q1⟩
end

/-! ### calls of one's own defs -/
abbrev DP := List SV → List (List PyData) → (SV → List (List PyData) → Prop) → (Xd → List (List PyData) → Prop) → Prop
structure RC (K : PySem.W.Frag) (ms : List Addr) (H : Hp) (C : List (List PyData)) : Prop where
  cn : ms.length = C.length
  nd : ms.Nodup
  cell : ∀ (n : Nat) (a : Addr) (xs : List PyData), ms[n]? = some a → C[n]? = some xs → ∃ vs, H a = some (.lst vs) ∧ DzA K H vs xs
  tabs : LamX.Tabs Tb.T H
def Kept (ms : List Addr) (H H' : Hp) : Prop := ∀ b o, H b = some o → b ∉ ms → ∃ o', H' b = some o' ∧ Kp o o'
theorem Kept.at_ {ms : List Addr} {H H' : Hp} (k : Kept ms H H') {b : Addr} {o : HO} (e : H b = some o) (n : b ∉ ms) (nt : ∀ p, o ≠ .tbl p) : H' b = some o := by
  obtain ⟨o', q, z⟩ := k b o e n
  rw [q, z.eq nt]
def spD (K : PySem.W.Frag) (n : Nat) (P : DP) : Sp := fun vs H Q E => vs.length = n ∧ ∃ ms rs C k e, RRs K ⟨H, ms⟩ H rs vs ∧ RC K ms H C ∧ P rs C k e ∧
  (∀ r v C' H', RC K ms H' C' → Kept ms H H' → RR K ⟨H, ms⟩ H' r v → k r C' → Q v H') ∧ ∀ x C' cls d H', RC K ms H' C' → Kept ms H H' → XR K H' x cls d → e x C' → E cls d H'
theorem RS.rc {K : PySem.W.Frag} {B : B3} {σ : L2.St} {H : Hp} {S : S3} (R : RS K B σ H S) : RC K B.ms H S.C := ⟨R.cn, R.nd, R.cell, R.tabs⟩
theorem RC.mono {K : PySem.W.Frag} {ms : List Addr} {H H' : Hp} {C : List (List PyData)} (R : RC K ms H C) (k : Kept ms H H') : Mono H H' := fun b o z e => by
  refine k.at_ e (fun hm => ?_) z.ntbl
  obtain ⟨n, h1⟩ := List.getElem?_of_mem hm
  have hl : n < C.length := by
    rw [← R.cn]
    exact (List.getElem?_eq_some_iff.mp h1).1
  obtain ⟨vs, q, _⟩ := R.cell n b _ h1 (List.getElem?_eq_getElem hl)
  rw [q] at e
  cases e
  exact nfz_lst z
theorem RR.base {K : PySem.W.Frag} {B B' : B3} {H : Hp} (e : B.ms = B'.ms) : ∀ {r : SV} {v : V}, RR K B H r v → RR K B' H r v
  | .d _, _, h => h
  | .own _, _, h => h.elim
  | .cell _, _, ⟨a, h1, h2⟩ => ⟨a, by rw [← e]; exact h1, h2⟩
  | .raw _, _, h => h
  | .exc _ _, _, h => h
  | .thk _ _ _ _ _, _, ⟨h1, h2, h3, h4⟩ => ⟨h1, h2, e.symm.trans h3, h4⟩
theorem RS.after {K : PySem.W.Frag} {B : B3} {σ : L2.St} {H H' : Hp} {S : S3} {C' : List (List PyData)} (R : RS K B σ H S) (k : Kept B.ms H H') (rc : RC K B.ms H' C') : RS K B σ H' { S with C := C' } := by
  have m := R.rc.mono k
  refine ⟨fun i r e => ?_, R.sep, rc.cn, rc.nd, rc.cell, fun b o e1 e2 => by obtain ⟨o1, q1, z1⟩ := R.keep b o e1 e2; obtain ⟨o2, q2, z2⟩ := k b o1 q1 e2; exact ⟨o2, q2, z1.tr z2⟩, R.len, rc.tabs⟩
  obtain ⟨v, h1, h2⟩ := R.slot i r e
  refine ⟨v, h1, ?_⟩
  cases r with
  | own xs =>
    obtain ⟨a, vs, q1, q2, q3, q4, q5⟩ := h2
    exact ⟨a, vs, q1, k.at_ q2 q5 (fun p z => nomatch z), q3.mono m, q4, q5⟩
  | _ => exact h2.mono m (fun _ z => nomatch z)
def dCall (P : DP) (ta : DTA) : DTE := fun S k e => ta S (fun rs S1 => P rs S1.C (fun r C' => k r { S1 with C := C' }) fun x C' => e x { S1 with C := C' }) e
/-- a promise, met in the caller's state -/
theorem spD.meet {K : PySem.W.Frag} {W : WX} {B : B3} {σ : L2.St} {H H1 : Hp} {S1 : S3} {n : Nat} {P : DP} {rs : List SV} {vs : List V} {k : SV → S3 → Prop} {er : ED} (R : RS K B σ H1 S1) (m : Mono H H1) (hn : vs.length = n) (rr : RRs K B H1 rs vs)
    (q : P rs S1.C (fun r C' => k r { S1 with C := C' }) fun x C' => er x { S1 with C := C' }) (hx : HX K W B er) : spD K n P vs H1 (KD K B σ H k) (WE W σ) := by
  refine ⟨hn, B.ms, rs, S1.C, _, _, Paired.mapP rr fun _ _ z => RR.base (B := B) (B' := ⟨H1, B.ms⟩) rfl z, R.rc, q, fun r v C' H' rc kp r2 q2 => ?_, fun x C' cls d H' rc kp xr q2 => ?_⟩
  · exact ⟨r, _, R.after kp rc, m.tr (R.rc.mono kp), RR.base (B := ⟨H1, B.ms⟩) (B' := B) rfl r2, q2⟩
  · exact hx x _ σ cls d H' (R.after kp rc) xr q2
section
variable {X : Cx} {W : WX} {kk n : Nat} {f : Addr} {fd : FuncData} {ps : List Str} {P : DP} {x : Str} {p pos : Pos} {e : Expr} {es : List Expr} {t : DTA}
theorem RRs.len {K : PySem.W.Frag} {B : B3} {H : Hp} {rs : List SV} {vs : List V} (h : RRs K B H rs vs) : rs.length = vs.length := Paired.length h
end
/-! ### a def's promise, where no repr is under way -/
structure FnG (P : Program) (w : World) (K : PySem.W.Frag) (mg : Str → Option Value) (base : Heap) (k : Nat) (f : Addr) (fd : FuncData) (ps : List Str) (sp : Sp) : Prop where
  len : ∀ vs H Q E, sp vs H Q E → vs.length = ps.length
  run : ∀ (A : Around) (outer : List Env) (s : Shared) (H : Hp) (args : Args) (us : List Value) (vs : List V) (Q : VK) (E : XK), Room k A → A.guards = some [] →
    Env0 P w K mg base A outer s H → BindsTo s fd args (ps.zip us) → Vals vs us → sp vs H Q E →
    codeAny (model P w) A (.call (.ref f) args) (CR (L2.CX P w) outer P w H s Q E) s
theorem FnG.mono {P : Program} {w : World} {K : PySem.W.Frag} {mg : Str → Option Value} {base : Heap} {j k : Nat} {f : Addr} {fd : FuncData} {ps : List Str} {sp : Sp} (F : FnG P w K mg base j f fd ps sp) (h : j ≤ k) : FnG P w K mg base k f fd ps sp :=
  ⟨F.len, fun A outer s H args us vs Q E hr => F.run A outer s H args us vs Q E (hr.mono h)⟩
section
variable {X : Cx} {W : WX} {kk n : Nat} {f : Addr} {fd : FuncData} {ps : List Str} {P : DP} {sp : Sp} {x : Str} {p pos : Pos} {e : Expr} {es : List Expr} {t : DTA}
theorem endG {pins : List (Addr × Obj)} {σ : L2.St} {H : Hp} {s : Shared} {Q : VK} {E : XK} (hx : PassesAt (L2.CX X.prog X.w) X σ E) (I : Inv X pins σ H s) {r : Result} {s' : Shared} (hq : CR (L2.CX X.prog X.w) X.stack X.prog X.w H s Q E r s') :
    (match r with
      | .ok (.ret u) => EP X pins σ Q u s'
      | .ok _ => False
      | .error e => X.xe e s') := by
  cases r with
  | error ev => exact hx pins H s ev s' I hq
  | ok fl =>
    cases fl with
    | ret u => exact I.after hq
    | _ => exact hq
/-- the callee runs, its arguments bound by whatever call -/
theorem run_fnG {pins : List (Addr × Obj)} {σ : L2.St} {H : Hp} {s : Shared} {Q : VK} {E : XK} {us : List Value} {vs : List V} (F : FnG X.prog X.w X.K X.mg X.base kk f fd ps sp) (hr : Room kk X.A) (hgd : X.A.guards = some []) (hb : Binds X.K fd ps [])
    (hx : PassesAt (L2.CX X.prog X.w) X σ E) (I : Inv X pins σ H s) (rv : Vals vs us) (h : sp vs H Q E) : wpAny (model X.prog X.w) X.A (call (.ref f) us) (EP X pins σ Q) X.xe s := by
  have hl : us.length = ps.length := rv.length ▸ F.len _ _ _ _ h
  have b := hb s us I.kIn (by simpa using hl)
  simp only [List.append_nil] at b
  refine wpAny_call (codeAny_mono (F.run X.A X.stack s H ⟨us, []⟩ us vs Q E hr hgd I.env0 b rv h) fun r s' hq => ?_)
  have z := endG hx I hq
  cases r with
  | error ev => exact z
  | ok fl =>
    cases fl with
    | ret u => exact z
    | _ => exact z.elim
/-- f(..), every parameter given by its place -/
theorem d_call (F : FnG X.prog X.w X.K X.mg X.base kk f fd ps (spD X.K n P)) (hr : Room kk X.A) (hgd : X.A.guards = some []) (hg : Gl X x) (hm : X.mg x = some (.ref f)) (hk : PySem.W.keepIn X.K (.ref f) = true) (hb : Binds X.K fd ps []) (tk : Takes X W)
    (ha : DA X W (e :: es) t) (hl : ∀ rs C k er, P rs C k er → rs.length = n) (hdb : (x == ("__debug__" : Str)) = false := by decide) (he : starEach (e :: es) X.env = (false, eval e X.env) :: starEach es X.env := by rfl) (hpl : (backTo pos (starEach es X.env)).any (·.1) = false := by rfl) :
    DE X W (.Call (.Name x p) (e :: es) [] pos) (dCall P t) := by
  refine .mk fun pins s σ H B S k er I R q hx => ?_
  refine wpAny_Call_Name_kw (ld_glob I hg hm ?_ hdb)
  refine PySem.W.callWith_K (h₀ := X.base) I.ok.mod.kin hk (thn (ha.go I R q hx) fun us s1 ⟨vs, H1, I1, rv, rs, S1, R1, m1, rr, q1⟩ => ⟨I1.kIn, ?_⟩) he hpl
  exact run_fnG F hr hgd hb (passAt tk σ) I1 rv (spD.meet R1 m1 (by rw [← rr.len]; exact hl _ _ _ _ q1) rr q1 hx)
/-- f(), a def without parameters -/
theorem d_call0 (F : FnG X.prog X.w X.K X.mg X.base kk f fd ps (spD X.K 0 P)) (hr : Room kk X.A) (hgd : X.A.guards = some []) (hg : Gl X x) (hm : X.mg x = some (.ref f)) (hk : PySem.W.keepIn X.K (.ref f) = true) (hb : Binds X.K fd ps []) (tk : Takes X W)
    (hdb : (x == ("__debug__" : Str)) = false := by decide) : DE X W (.Call (.Name x p) [] [] pos) (dCall P dNil) := by
  refine .mk fun pins s σ H B S k er I R q hx => ?_
  refine wpAny_Call_Name_kw (ld_glob I hg hm ?_ hdb)
  exact PySem.W.callWith_K0 I.kIn hk (run_fnG (us := []) F hr hgd hb (passAt tk σ) I .nil (spD.meet (rs := []) R .rfl rfl .nil q hx))
end
end
end D3
/-! D3d: statements and loops. -/
namespace D3
open PySem PySem.Spec PyProof.Rows L2
section
variable [Tb]
section
variable {X : Cx} {W : WX} {st : Stmt} {rest : List Stmt} {e : Expr} {te : DTE} {t u : DTS} {pos : Pos} {pins : List (Addr × Obj)} {s : Shared} {σ : L2.St} {H : Hp} {B : B3} {S : S3}
theorem DS.go (h : DS X W st t) (I : Inv X pins σ H s) (R : RS X.K B σ H S) {D : DEnds} {er : ED} (q : t D S er) (hx : HX X.K W B er) :
    wpAny (model X.prog X.w) X.A (exec st X.env) (SP X pins (KS X.K B H D)) X.xe s := h.run pins s σ H _ I ⟨B, S, D, er, R, q, hx, fun _ _ z => z, fun _ _ z => z, fun _ _ z => z, fun _ _ z => z⟩
theorem SP.imp {D D' : Ends} {f : Flow} (h : SP X pins D f s) (h1 : ∀ σ' H', D.nx σ' H' → D'.nx σ' H') (h2 : ∀ v H', D.rt v H' → D'.rt v H') (h3 : ∀ σ' H', D.bk σ' H' → D'.bk σ' H') (h4 : ∀ σ' H', D.ct σ' H' → D'.ct σ' H') : SP X pins D' f s := by
  cases f with
  | next => obtain ⟨a, b, c, d⟩ := h; exact ⟨a, b, c, h1 _ _ d⟩
  | brk => obtain ⟨a, b, c, d⟩ := h; exact ⟨a, b, c, h3 _ _ d⟩
  | cont => obtain ⟨a, b, c, d⟩ := h; exact ⟨a, b, c, h4 _ _ d⟩
  | ret u => obtain ⟨v, a, b, c, r, d⟩ := h; exact ⟨v, a, b, c, r, h2 _ _ d⟩
theorem DS.mk (h : ∀ pins s σ H B S D er, Inv X pins σ H s → RS X.K B σ H S → t D S er → HX X.K W B er → wpAny (model X.prog X.w) X.A (exec st X.env) (SP X pins (KS X.K B H D)) X.xe s) : DS X W st t :=
  ⟨fun pins s σ H D I ⟨B, S, DD, er, R, q, hx, f1, f2, f3, f4⟩ => thn (h pins s σ H B S DD er I R q hx) fun f s1 z => SP.imp z f1 f2 f3 f4⟩
theorem DS.of {t' : TS} (h : PS X st t') (f : ∀ σ H B S D er, RS X.K B σ H S → t D S er → HX X.K W B er → t' (KS X.K B H D) σ H) : DS X W st t :=
  .mk fun pins s σ H B S D er I R q hx => h.run pins s σ H _ I (f σ H B S D er R q hx)
theorem DSs.of {sts : List Stmt} {t' : TS} (h : PSs X sts t') (f : ∀ σ H B S D er, RS X.K B σ H S → t D S er → HX X.K W B er → t' (KS X.K B H D) σ H) : DSs X W sts t :=
  ⟨fun pins s σ H D I ⟨B, S, DD, er, R, q, hx, f1, f2, f3, f4⟩ => thn (h.run pins s σ H _ I (f σ H B S DD er R q hx)) fun f s1 z => SP.imp z f1 f2 f3 f4⟩
/-- a statement's reading, met -/
theorem liftS.in {K : PySem.W.Frag} (R : RS K B σ H S) {D : DEnds} {er : ED} (q : t D S er) (hx : HX K W B er) {D' : Ends} (h1 : ∀ σ' H', (KS K B H D).nx σ' H' → D'.nx σ' H') (h2 : ∀ v H', (KS K B H D).rt v H' → D'.rt v H')
    (h3 : ∀ σ' H', (KS K B H D).bk σ' H' → D'.bk σ' H') (h4 : ∀ σ' H', (KS K B H D).ct σ' H' → D'.ct σ' H') : liftS K W t D' σ H := ⟨B, S, D, er, R, q, hx, h1, h2, h3, h4⟩
theorem KS.tn {K : PySem.W.Frag} {B : B3} {H H1 : Hp} {D : DEnds} (m : Mono H H1) : ∀ σ' H', (KS K B H1 D).nx σ' H' → (KS K B H D).nx σ' H' := fun σ' H' ⟨S', a, b, c⟩ => ⟨S', a, m.tr b, c⟩
theorem KS.tb {K : PySem.W.Frag} {B : B3} {H H1 : Hp} {D : DEnds} (m : Mono H H1) : ∀ σ' H', (KS K B H1 D).bk σ' H' → (KS K B H D).bk σ' H' := fun σ' H' ⟨S', a, b, c⟩ => ⟨S', a, m.tr b, c⟩
theorem KS.tc {K : PySem.W.Frag} {B : B3} {H H1 : Hp} {D : DEnds} (m : Mono H H1) : ∀ σ' H', (KS K B H1 D).ct σ' H' → (KS K B H D).ct σ' H' := fun σ' H' ⟨S', a, b, c⟩ => ⟨S', a, m.tr b, c⟩
/-- a statement's reading behind what has run -/
theorem liftS.on {K : PySem.W.Frag} {H1 : Hp} {σ1 : L2.St} {S1 : S3} (m : Mono H H1) (R : RS K B σ1 H1 S1) {D : DEnds} {er : ED} (q : t D S1 er) (hx : HX K W B er) : liftS K W t (KS K B H D) σ1 H1 :=
  ⟨B, S1, D, er, R, q, hx, KS.tn m, fun _ _ z => z, KS.tb m, KS.tc m⟩
def dNext : DTS := fun D S _ => D.nx S
def dSeq (t u : DTS) : DTS := fun D S e => t { D with nx := fun S1 => u D S1 e } S e
theorem ds_nil : DSs X W [] dNext := .of pss_nil fun σ H B S D er R q hx => ⟨S, R, .rfl, q⟩
theorem ds_cons (h1 : DS X W st t) (h2 : DSs X W rest u) : DSs X W (st :: rest) (dSeq t u) :=
  .of (pss_cons h1 h2) fun σ H B S D er R q hx => liftS.in (t := t) R q hx (fun σ' H' ⟨S', R', m', q'⟩ => liftS.on (t := u) m' R' q' hx) (fun _ _ z => z) (fun _ _ z => z) (fun _ _ z => z)
theorem ds_one (h1 : DS X W st t) : DSs X W [st] t := pss_one h1
def dBrk : DTS := fun D S _ => D.bk S
def dCont : DTS := fun D S _ => D.ct S
theorem ds_pass : DS X W (.Pass pos) dNext := .of ps_pass fun σ H B S D er R q hx => ⟨S, R, .rfl, q⟩
theorem ds_brk : DS X W (.Break pos) dBrk := .of ps_break fun σ H B S D er R q hx => ⟨S, R, .rfl, q⟩
theorem ds_cont : DS X W (.Continue pos) dCont := .of ps_continue fun σ H B S D er R q hx => ⟨S, R, .rfl, q⟩
def dDrop (te : DTE) : DTS := fun D S e => te S (fun _ S1 => D.nx S1) e
theorem ds_expr (he : DE X W e te) (hs : swapsWith e none pos.line X.env = pure false := by rfl) : DS X W (.Expr e pos) (dDrop te) :=
  .of (ps_expr he hs) fun σ H B S D er R q hx => liftE.in (t := te) R q hx fun v H1 r S1 R1 m1 rr q1 => ⟨S1, R1, m1, q1⟩
def dRet (te : DTE) : DTS := fun D S e => te S D.rt e
theorem ds_ret (he : DE X W e te) : DS X W (.Return (some e) pos) (dRet te) :=
  .of (ps_ret he) fun σ H B S D er R q hx => liftE.in (t := te) R q hx fun v H1 r S1 R1 m1 rr q1 => ⟨r, S1, σ, R1, rr, q1⟩
def dRetN : DTS := fun D S _ => D.rt (.d .none) S
theorem ds_retN : DS X W (.Return none pos) dRetN := .of ps_retN fun σ H B S D er R q hx => ⟨.d .none, S, σ, R, Dz.non, q⟩
def dIf (c : DTT) (t u : DTS) : DTS := fun D S e => c S (fun b S1 => iteB b (t D S1 e) (u D S1 e)) e
theorem ds_if {c : Expr} {a b : List Stmt} {tc : DTT} (hc : DT X W c tc) (ha : DSs X W a t) (hb : DSs X W b u) : DS X W (.If c a b pos) (dIf tc t u) :=
  .of (ps_if hc ha hb) fun σ H B S D er R q hx => liftT.in (t := tc) R q hx fun z H1 S1 R1 m1 q1 => by
    cases z with
    | true => exact liftS.on (t := t) m1 R1 q1 hx
    | false => exact liftS.on (t := u) m1 R1 q1 hx
def dNever : DTS := fun _ _ _ => False
theorem ds_never : DS X W st dNever := .mk fun _ _ _ _ _ _ _ _ _ _ q _ => q.elim
theorem dss_never {sts : List Stmt} : DSs X W sts dNever := .of pss_never fun σ H B S D er R q hx => q

/-! ### stores -/
def dSet (i : Nat) (te : DTE) : DTS := fun D S e => te S (fun r S1 => D.nx { S1 with G := S1.G.set i (some r) }) e
theorem ds_set {i : Nat} {x : Str} {pos' : Pos} (hN : X.N.Nodup) (hi : X.N[i]? = some x) (hx : Loc X.env.scope x) (he : DE X W e te) (hs : swapsWith e (some (.Name x pos')) pos.line X.env = pure false := by rfl)
    (hf : X.fn x = true ∨ X.env.scope.names.lookup x = some .local := by first | exact .inl rfl | exact .inr rfl | assumption) : DS X W (.Assign [.Name x pos'] e pos) (dSet i te) :=
  .of (ps_set hN hi hx he hs hf) fun σ H B S D er R q hx => liftE.in (t := te) R q hx fun v H1 r S1 R1 m1 rr q1 => ⟨_, R1.setD rr, m1, q1⟩
/-- a slot takes a new list as its own -/
theorem RS.setO {K : PySem.W.Frag} (R : RS K B σ H S) {i : Nat} {xs : List PyData} {v : V} (h : RL K B σ S H xs v) : RS K B (σ.set i (some v)) H { S with G := S.G.set i (some (.own xs)) } := by
  obtain ⟨a, vs, rfl, h1, h2, h3, h4, h5⟩ := h
  refine ⟨fun j q e => ?_, fun j k ys zs u ne e1 e2 e3 e4 => ?_, R.cn, R.nd, R.cell, R.keep, by simp [R.len], R.tabs⟩
  · rcases set_get e with ⟨rfl, e, hl⟩ | ⟨ne, e⟩
    · cases e
      exact ⟨_, by rw [List.getElem?_set_self (by rw [← R.len]; exact hl)], a, vs, rfl, h1, h2, h3, h4⟩
    · obtain ⟨w, h1, h2⟩ := R.slot j q e
      exact ⟨w, by rw [List.getElem?_set_ne ne]; exact h1, h2⟩
  · rcases set_get e1 with ⟨r1, e, l1⟩ | ⟨n1, e1⟩
    · rcases set_get e2 with ⟨r2, _, _⟩ | ⟨n2, e2⟩
      · exact ne (r1.symm.trans r2)
      · subst r1
        rw [List.getElem?_set_self (by rw [← R.len]; exact l1)] at e3
        rw [List.getElem?_set_ne n2] at e4
        cases e3
        exact h5 k _ e2 e4
    · rcases set_get e2 with ⟨r2, e, l2⟩ | ⟨n2, e2⟩
      · subst r2
        rw [List.getElem?_set_self (by rw [← R.len]; exact l2)] at e4
        rw [List.getElem?_set_ne n1] at e3
        cases e4
        exact h5 j _ e1 e3
      · rw [List.getElem?_set_ne n1] at e3
        rw [List.getElem?_set_ne n2] at e4
        exact R.sep j k ys zs u ne e1 e2 e3 e4
def dOwn (i : Nat) (te : DTL) : DTS := fun D S e => te S (fun xs S1 => D.nx { S1 with G := S1.G.set i (some (.own xs)) }) e
theorem ds_own {i : Nat} {x : Str} {tl : DTL} {pos' : Pos} (hN : X.N.Nodup) (hi : X.N[i]? = some x) (hx : Loc X.env.scope x) (he : DL X W e tl) (hs : swapsWith e (some (.Name x pos')) pos.line X.env = pure false := by rfl)
    (hf : X.fn x = true ∨ X.env.scope.names.lookup x = some .local := by first | exact .inl rfl | exact .inr rfl | assumption) : DS X W (.Assign [.Name x pos'] e pos) (dOwn i tl) :=
  .of (ps_set hN hi hx he hs hf) fun σ H B S D er R q hx => liftL.in (t := tl) R q hx fun v H1 xs S1 R1 m1 rl q1 => ⟨_, R1.setO rl, m1, q1⟩
/-- a, b = x, y: both sides written, plain local names -/
def dPar (i j : Nat) (ta tb : DTE) : DTS := fun D S e => ta S (fun r S1 => tb S1 (fun q S2 => D.nx { S2 with G := (S2.G.set i (some r)).set j (some q) }) e) e
theorem ds_par {i j : Nat} {x y : Str} {a b : Expr} {ta tb : DTE} {px py pt : Pos} {kt k2 : Nat} {pt2 : Pos} (hc : X.calm = true) (hN : X.N.Nodup) (hi : X.N[i]? = some x) (hj : X.N[j]? = some y) (hij : i ≠ j)
    (hx : X.env.scope.names.lookup x = some .local) (hy : X.env.scope.names.lookup y = some .local) (ha : DE X W a ta) (hb : DE X W b tb)
    (hw : swappedStores [.Tuple [.Name x px, .Name y py] kt pt] (.Tuple [a, b] k2 pt2) X.env = pure (some [x, y]))
    (hs : swapsWithSole [.Tuple [.Name x px, .Name y py] kt pt] (.Tuple [a, b] k2 pt2) pos.line X.env = pure false := by rfl)
    (hA : starEach [a, b] X.env = (false, eval a X.env) :: starEach [b] X.env := by rfl) (hB : starEach [b] X.env = (false, eval b X.env) :: starEach [] X.env := by rfl) :
    DS X W (.Assign [.Tuple [.Name x px, .Name y py] kt pt] (.Tuple [a, b] k2 pt2) pos) (dPar i j ta tb) :=
  .of (ps_par hc hN hi hj hij hx hy (da_cons ha (da_cons hb da_nil hB) hA) hw hs) fun σ H B S D er R q hx =>
    liftA.in (t := dCons ta (dCons tb dNil)) (k := fun rs S1 => ∃ r p, rs = [r, p] ∧ D.nx { S1 with G := (S1.G.set i (some r)).set j (some p) }) R (by
      show ta S (fun r S1 => tb S1 (fun p S2 => ∃ r' p', [r, p] = [r', p'] ∧ D.nx { S2 with G := (S2.G.set i (some r')).set j (some p') }) er) er
      have e : ∀ (r p : SV) (S2 : S3), (∃ r' p', [r, p] = [r', p'] ∧ D.nx { S2 with G := (S2.G.set i (some r')).set j (some p') }) = D.nx { S2 with G := (S2.G.set i (some r)).set j (some p) } := fun r p S2 => propext ⟨fun ⟨r', p', h, z⟩ => by cases h; exact z, fun z => ⟨r, p, rfl, z⟩⟩
      simp only [e]
      exact q) hx fun vs H1 rs S1 R1 m1 rrs q1 => by
      obtain ⟨r, p, rfl, q1⟩ := q1
      cases rrs with
      | cons r1 rr =>
        cases rr with
        | cons r2 rr =>
          cases rr
          exact ⟨_, _, rfl, _, (R1.setD r1).setD r2, m1, q1⟩
/-! ### targets of data -/
abbrev DTG := PyData → S3 → (S3 → Prop) → Prop
theorem wipe_get {σ : L2.St} {j : Nat} : ∀ {vs : List Nat}, (wipe σ vs)[j]? = if j ∈ vs then (σ[j]?).map (fun _ => none) else σ[j]?
  | [] => by simp [wipe]
  | v :: vs => by
    unfold wipe
    by_cases e : v = j
    · subst e
      by_cases h : v < (wipe σ vs).length
      · rw [List.getElem?_set_self h, if_pos (by simp)]
        rw [wipe_length] at h
        rw [List.getElem?_eq_getElem h]
        rfl
      · rw [List.getElem?_eq_none (by simpa using h), if_pos (by simp)]
        rw [wipe_length] at h
        rw [List.getElem?_eq_none (by omega)]
        rfl
    · rw [List.getElem?_set_ne e, wipe_get]
      by_cases q : j ∈ vs
      · rw [if_pos q, if_pos (by simp [q])]
      · rw [if_neg q, if_neg (by simp [q]; exact fun z => e z.symm)]
theorem wipe_set {σ : L2.St} {i : Nat} {o : Option V} {vs : List Nat} (h : i ∈ vs) : wipe (σ.set i o) vs = wipe σ vs := by
  apply List.ext_getElem?
  intro j
  rw [wipe_get, wipe_get]
  by_cases q : j ∈ vs
  · rw [if_pos q, if_pos q]
    by_cases e : i = j
    · subst e
      by_cases hl : i < σ.length
      · rw [List.getElem?_set_self hl, List.getElem?_eq_getElem hl]
        rfl
      · rw [List.getElem?_eq_none (by simpa using hl), List.getElem?_eq_none (by simpa using hl)]
    · rw [List.getElem?_set_ne e]
  · rw [if_neg q, if_neg q, List.getElem?_set_ne (fun e : i = j => q (e ▸ h))]
/-- what a target leaves: only the slots ts have changed -/
def Left (ts : List Nat) (σ σ' : L2.St) : Prop := ∀ vs : List Nat, (∀ i ∈ ts, i ∈ vs) → wipe σ' vs = wipe σ vs
def liftG (K : PySem.W.Frag) (ts : List Nat) (g : DTG) : TG := fun v σ H Q => ∃ B S x k, RS K B σ H S ∧ Dz K H v x ∧ g x S k ∧ ∀ σ' H' S', RS K B σ' H' S' → Mono H H' → Left ts σ σ' → (∀ b o, H b = some o → H' b = some o) → k S' → Q σ' H'
def DG (X : Cx) (tg : Expr) (ts : List Nat) (g : DTG) : Prop := PG X tg (liftG X.K ts g)
def gSet (i : Nat) : DTG := fun x S k => k { S with G := S.G.set i (some (.d x)) }
theorem dg_name {i : Nat} {x : Str} (hN : X.N.Nodup) (hi : X.N[i]? = some x) (hx : Loc X.env.scope x) (hf : X.fn x = true ∨ X.env.scope.names.lookup x = some .local := by first | exact .inl rfl | exact .inr rfl | assumption) : DG X (.Name x pos) [i] (gSet i) := by
  refine ⟨fun pins s σ H v u Q I r ⟨B, S, d, k, R, z, q, f⟩ => ?_⟩
  exact (pg_name hN hi hx hf).run pins s σ H v u Q I r (f _ _ _ (R.setD (r := .d d) z) .rfl (fun vs h => wipe_set (h i (by simp))) (fun _ _ z => z) q)
abbrev DTGs := List PyData → S3 → (S3 → Prop) → Prop
def liftGs (K : PySem.W.Frag) (ts : List Nat) (g : DTGs) : TGs := fun vs σ H Q => ∃ B S xs k, RS K B σ H S ∧ DzA K H vs xs ∧ g xs S k ∧ ∀ σ' H' S', RS K B σ' H' S' → Mono H H' → Left ts σ σ' → (∀ b o, H b = some o → H' b = some o) → k S' → Q σ' H'
def DGs (X : Cx) (ts : List Expr) (us : List Nat) (g : DTGs) : Prop := PGs X ts (liftGs X.K us g)
def gsNil : DTGs := fun xs S k => match xs with
  | [] => k S
  | _ => False
def gsCons (g : DTG) (h : DTGs) : DTGs := fun xs S k => match xs with
  | x :: r => g x S fun S1 => h r S1 k
  | [] => False
theorem dgs_nil : DGs X [] [] gsNil := by
  refine ⟨fun pins s σ H vs us Q I r ⟨B, S, xs, k, R, z, q, f⟩ => ?_⟩
  cases z with
  | nil => exact pgs_nil.run pins s σ H _ _ Q I r ⟨rfl, f _ _ _ R .rfl (fun _ _ => rfl) (fun _ _ z => z) q⟩
  | cons _ _ => exact q.elim
theorem dgs_cons {es : List Expr} {us vs' : List Nat} {g : DTG} {h : DTGs} (h1 : DG X e us g) (h2 : DGs X es vs' h) (hs : (assignEach (e :: es) X.env).map (·.2) = assign e X.env :: (assignEach es X.env).map (·.2) := by rfl) : DGs X (e :: es) (us ++ vs') (gsCons g h) := by
  refine ⟨fun pins s σ H vs ws Q I r ⟨B, S, xs, k, R, z, q, f⟩ => ?_⟩
  cases z with
  | nil => exact q.elim
  | cons z1 z2 =>
    refine (pgs_cons h1 h2 hs).run pins s σ H _ _ Q I r ⟨_, _, rfl, B, S, _, _, R, z1, q, fun σ1 H1 S1 R1 m1 l1 c1 q1 => ?_⟩
    exact ⟨B, S1, _, k, R1, z2.mono m1, q1, fun σ' H' S' R' m' l' c' q' => f σ' H' S' R' (m1.tr m') (fun vs hv => (l' vs fun i hi => hv i (by simp [hi])).trans (l1 vs fun i hi => hv i (by simp [hi]))) (fun b o e => c' b o (c1 b o e)) q'⟩
def gTup3 (h : DTGs) (n : Nat) : DTG := fun x S k => match x with
  | .tuple xs => xs.length = n ∧ h xs S k
  | _ => False
theorem dg_tup {es : List Expr} {us : List Nat} {k0 : Nat} {h : DTGs} {n : Nat} (hc : X.calm = true) (hg : DGs X es us h) (hn : (assignEach es X.env).length = n := by rfl) (hst : (assignEach es X.env).findIdx? (·.1) = none := by rfl) : DG X (.Tuple es k0 pos) us (gTup3 h n) := by
  refine ⟨fun pins s σ H v u Q I r ⟨B, S, x, k, R, z, q, f⟩ => ?_⟩
  cases z with
  | tup h1 h2 => exact (pg_tup hc hg hn hst).run pins s σ H _ u Q I r ⟨_, _, rfl, h1, by rw [h2.len]; exact q.1, B, S, _, k, R, h2, q.2, f⟩
  | _ => exact q.elim
/-- (a, b) = e, e a tuple -/
def dAsg (te : DTE) (g : DTG) : DTS := fun D S e => te S (fun r S1 => match r with
  | .d x => g x S1 D.nx
  | _ => False) e
theorem ds_asg {tg : Expr} {us : List Nat} {g : DTG} (he : DE X W e te) (hg : DG X tg us g) (hs : swapsWithSole [tg] e pos.line X.env = pure false := by rfl) (hw : swappedStores [tg] e X.env = pure none := by rfl)
    (h1 : (assignEach [tg] X.env).map (·.2) = [assign tg X.env] := by rfl) : DS X W (.Assign [tg] e pos) (dAsg te g) :=
  .of (ps_asg he hg hs hw h1) fun σ H B S D er R q hx => liftE.in (t := te) R q hx fun v H1 r S1 R1 m1 rr q1 => by
    match r, rr, q1 with
    | .d x, rr, q1 => exact ⟨B, S1, x, _, R1, rr, q1, fun σ' H' S' R' m' _ _ q' => ⟨S', R', m1.tr m', q'⟩⟩

/-! ### while -/
def dWhile (tc : DTT) (tb : DTS) : DTS := fun D S e => ∃ I : Nat → S3 → Prop, (∃ m, I m S) ∧ ∀ m S, I m S →
  tc S (fun b S1 => iteB b (tb { D with nx := fun S2 => ∃ m', m' < m ∧ I m' S2, ct := fun S2 => ∃ m', m' < m ∧ I m' S2, bk := D.nx } S1 e) (D.nx S1)) e
theorem ds_while {c : Expr} {body : List Stmt} {tc : DTT} (hp : PassesOwn (model X.prog X.w) X.A X.env X.xe) (hc : DT X W c tc) (hb : DSs X W body t) : DS X W (.While c body [] pos) (dWhile tc t) :=
  .of (ps_while hp hc hb) fun σ H B S D er R q hx => by
    obtain ⟨I, ⟨m0, i0⟩, turn⟩ := q
    refine ⟨fun m σ2 H2 => ∃ S, RS X.K B σ2 H2 S ∧ Mono H H2 ∧ I m S, ⟨m0, S, R, .rfl, i0⟩, ?_⟩
    rintro m σ1 H1 ⟨S1, R1, m1, i1⟩
    refine liftT.in (t := tc) R1 (turn m S1 i1) hx fun z H2 S2 R2 m2 q2 => ?_
    cases z with
    | true =>
      refine ⟨fun σ' H' => ∃ m', m' < m ∧ ∃ S, RS X.K B σ' H' S ∧ Mono H H' ∧ I m' S, fun σ' H' ⟨m', l, z⟩ => ⟨m', l, z⟩, ?_⟩
      exact liftS.in (t := t) R2 q2 hx (fun σ' H' ⟨S', R', k', m', l, z⟩ => ⟨m', l, S', R', (m1.tr m2).tr k', z⟩) (fun _ _ z => z) (fun σ' H' ⟨S', R', k', z⟩ => ⟨S', R', (m1.tr m2).tr k', z⟩) (fun σ' H' ⟨S', R', k', m', l, z⟩ => ⟨m', l, S', R', (m1.tr m2).tr k', z⟩)
    | false => exact ⟨S2, R2, m1.tr m2, q2⟩

/-! ### for over data -/
def dLoop (g : DTG) (tb : DTS) (D : DEnds) (e : ED) : List PyData → S3 → Prop
  | [], S => D.nx S
  | x :: xs, S => g x S fun S1 => tb { D with nx := dLoop g tb D e xs, ct := dLoop g tb D e xs, bk := D.nx } S1 e
theorem dLoop_nil {g : DTG} {tb : DTS} {D : DEnds} {e : ED} {S : S3} : dLoop g tb D e [] S = D.nx S := rfl
theorem dLoop_cons {g : DTG} {tb : DTS} {D : DEnds} {e : ED} {x : PyData} {xs : List PyData} {S : S3} : dLoop g tb D e (x :: xs) S = g x S fun S1 => tb { D with nx := dLoop g tb D e xs, ct := dLoop g tb D e xs, bk := D.nx } S1 e := rfl
/-- the turn of a loop, begun at Hb -/
theorem loop_turn {K : PySem.W.Frag} {Hb : Hp} {us : List Nat} {g : DTG} {t : DTS} {D : DEnds} {er : ED} {x : PyData} {xs : List PyData} (hx : HX K W B er) {v : V} (mb : Mono Hb H) (R : RS K B σ H S) (z : Dz K H v x) (q : dLoop g t D er (x :: xs) S) {N : L2.St → Hp → Prop} (hN : ∀ σ' H' S', RS K B σ' H' S' → Mono H H' → dLoop g t D er xs S' → N σ' H') :
    liftG K us g v σ H fun σ2 H2 => liftS K W t { KS K B Hb D with nx := N, ct := N, bk := (KS K B Hb D).nx } σ2 H2 := by
  refine ⟨B, S, x, _, R, z, q, fun σ' H' S' R' m' _ _ q' => ?_⟩
  exact liftS.in (t := t) R' q' hx (fun σ2 H2 ⟨S2, R2, k2, z2⟩ => hN σ2 H2 S2 R2 (m'.tr k2) z2) (fun _ _ z => z) (fun σ2 H2 ⟨S2, R2, k2, z2⟩ => ⟨S2, R2, (mb.tr m').tr k2, z2⟩) (fun σ2 H2 ⟨S2, R2, k2, z2⟩ => hN σ2 H2 S2 R2 (m'.tr k2) z2)
end
end
end D3
/-! D3e: for over data and ranges; subscripts; built-ins. -/
namespace D3
open PySem PySem.Spec PyProof.Rows L2
section
variable [Tb]
section
variable {X : Cx} {W : WX} {us : List Nat} {st : Stmt} {e a b tg : Expr} {es : List Expr} {body : List Stmt} {te ta tb : DTE} {t : DTS} {g : DTG} {pos p p2 : Pos} {x : Str}

/-! ### for -/
def itemsD : PyData → Option (List PyData)
  | .list xs => some xs
  | .tuple xs => some xs
  | _ => none
def dFor (te : DTE) (g : DTG) (tb : DTS) : DTS := fun D S e => te S (fun r S1 => match r with
  | .d (.list xs) => dLoop g tb D e xs S1
  | .d (.tuple xs) => dLoop g tb D e xs S1
  | _ => False) e
/-- what a walk over a list or a tuple asks -/
def iSeq (K : PySem.W.Frag) (tl : TE) : TI := fun σ H R => tl σ H fun x H1 => ∃ a, x = .ref a ∧ (((∃ xs, SqL K H1 a xs) ∧ R (Itl K a) H1) ∨ ((∃ xs, SqT K H1 a xs) ∧ R (Itt K a) H1))
theorem pi_seq {l : Expr} {tl : TE} (hl : PE X l tl) : PI X tg l (iSeq X.K tl) := by
  refine ⟨fun pins s σ H R I h => thn (hl.run pins s σ H _ I h) fun v s1 ⟨y, H1, I1, r1, adr, e1, q⟩ => ?_⟩
  subst e1
  cases r1
  have it0 : ∀ {o : Obj}, (∀ c u, s1.heap.get? c = some u → (s1.heap.push o).get? c = some u) := fun c u z => Heap.get?_push_of_some _ z
  have fresh : ∀ {o : Obj}, ∀ c ∈ [s1.heap.objs.size], FpOk X pins H1 c := fun c hc => by
    cases List.mem_singleton.mp hc
    exact I1.fpOk (Nat.le_refl _) (I1.hok.fresh (Nat.le_refl _))
  rcases q with ⟨⟨xs, hq⟩, q⟩ | ⟨⟨xs, hq⟩, q⟩
  · obtain ⟨its, rv, pl, _⟩ := I1.list hq
    exact wpAny_pyIter_list pl.isList ⟨_, [s1.heap.objs.size], _, _, H1, rfl, I1.kept (t' := s1.toks) it0, turn_list adr _, ⟨_, Heap.get?_push_size _ rfl, rfl, rfl⟩, fresh (o := default), q⟩
  · obtain ⟨its, rv, pl, _⟩ := I1.tuple hq
    exact wpAny_pyIter_tuple (show s1.heap.IsTuple adr its.toArray from pl) ⟨_, [s1.heap.objs.size], _, _, H1, rfl, I1.kept (t' := s1.toks) it0, turn_tuple adr _, ⟨_, Heap.get?_push_size _ rfl, rfl, rfl⟩, fresh (o := default), q⟩
theorem sqL_mono {K : PySem.W.Frag} {H H' : Hp} (m : Mono H H') {a : Addr} {xs : List V} (h : FzL K H a xs) : SqL K H' a xs := (h.mono m).sq
theorem drop_of {α : Type} {xs : List α} {i : Nat} {x : α} (h : xs[i]? = some x) : xs.drop i = x :: xs.drop (i + 1) := by
  obtain ⟨hl, e⟩ := List.getElem?_eq_some_iff.mp h
  rw [← e]
  exact List.drop_eq_getElem_cons hl
/-- the walk's invariant: from the turn i on these items are left -/
def LoopI (K : PySem.W.Frag) (B : B3) (g : DTG) (t : DTS) (D : DEnds) (er : ED) (H1 : Hp) (xs : List PyData) (i : Nat) (σ2 : L2.St) (H2 : Hp) : Prop := ∃ S2, RS K B σ2 H2 S2 ∧ Mono H1 H2 ∧ dLoop g t D er (xs.drop i) S2
theorem loop_step {K : PySem.W.Frag} {B : B3} {D : DEnds} {er : ED} {Hb H1 : Hp} {xs : List PyData} (hx : HX K W B er) (m : Mono Hb H1) {i : Nat} {v : V} {σ2 : L2.St} {H2 : Hp} {x : PyData} (e : xs[i]? = some x) (z : ∀ H2, Mono H1 H2 → Dz K H2 v x) (h : LoopI K B g t D er H1 xs i σ2 H2) :
    liftG K us g v σ2 H2 fun σ3 H3 => liftS K W t { KS K B Hb D with nx := LoopI K B g t D er H1 xs (i + 1), ct := LoopI K B g t D er H1 xs (i + 1), bk := (KS K B Hb D).nx } σ3 H3 := by
  obtain ⟨S2, R2, m2, q2⟩ := h
  rw [drop_of e] at q2
  exact loop_turn hx (m.tr m2) R2 (z _ m2) q2 fun σ' H' S' R' m' q' => ⟨S', R', m2.tr m', q'⟩
theorem loop_done {K : PySem.W.Frag} {B : B3} {D : DEnds} {er : ED} {Hb H1 : Hp} {xs : List PyData} (m : Mono Hb H1) {n : Nat} (hn : n = xs.length) {σ2 : L2.St} {H2 : Hp} (h : LoopI K B g t D er H1 xs n σ2 H2) : (KS K B Hb D).nx σ2 H2 := by
  obtain ⟨S2, R2, m2, q2⟩ := h
  subst hn
  rw [List.drop_length] at q2
  exact ⟨S2, R2, m.tr m2, q2⟩
theorem ds_for (hp : PassesOwn (model X.prog X.w) X.A X.env X.xe) (hc : X.calm = true) (he : DE X W e te) (hg : DG X tg us g) (hb : DSs X W body t) (hs : ∀ x, foldedSetIterable e X.env x = pure x := by intro _; rfl) : DS X W (.For tg e body [] pos) (dFor te g t) :=
  .of (ps_for hp hc (pi_seq he) hg hb hs) fun σ H B S D er R q hx => liftE.in (t := te) R q hx fun v H1 r S1 R1 m1 rr q1 => by
    match r, rr, q1 with
    | .d (.list xs), rr, q1 =>
      cases (show Dz _ _ _ _ from rr) with
      | @lst a vs ds h1 h2 =>
        refine ⟨a, rfl, .inl ⟨⟨vs, sqL_mono .rfl h1⟩, for_list (K := X.K) (a := a) (xs := vs) (LoopI X.K B g t D er H1 xs) ⟨S1, R1, .rfl, q1⟩ (fun i σ2 H2 _ ⟨_, _, m2, _⟩ => sqL_mono m2 h1) (fun i v σ2 H2 e h => ?_) fun σ2 H2 h => loop_done m1 h2.len h⟩⟩
        obtain ⟨d, e2, z⟩ := h2.getV e
        exact loop_step hx m1 e2 (fun H2 m2 => Dz.mono m2 _ _ z) h
    | .d (.tuple xs), rr, q1 =>
      cases (show Dz _ _ _ _ from rr) with
      | @tup a vs ds h1 h2 =>
        refine ⟨a, rfl, .inr ⟨⟨vs, h1⟩, for_tup (K := X.K) (a := a) (xs := vs) (LoopI X.K B g t D er H1 xs) ⟨S1, R1, .rfl, q1⟩ (fun i σ2 H2 _ ⟨_, _, m2, _⟩ => sqT_mono m2 h1) (fun i v σ2 H2 e h => ?_) fun σ2 H2 h => loop_done m1 h2.len h⟩⟩
        obtain ⟨d, e2, z⟩ := h2.getV e
        exact loop_step hx m1 e2 (fun H2 m2 => Dz.mono m2 _ _ z) h
/-- lo, lo + 1, .. -/
def rangeD (lo : Int) : Nat → List PyData
  | 0 => []
  | n + 1 => .int lo :: rangeD (lo + 1) n
theorem rangeD_len (n : Nat) : ∀ lo : Int, (rangeD lo n).length = n := by
  induction n with
  | zero => intro lo; rfl
  | succ n ih => intro lo; rw [rangeD, List.length_cons, ih]
theorem rangeD_get (n : Nat) : ∀ (lo : Int) (i : Nat), i < n → (rangeD lo n)[i]? = some (.int (lo + i)) := by
  induction n with
  | zero => intro lo i h; omega
  | succ n ih =>
    intro lo i h
    cases i with
    | zero => simp [rangeD]
    | succ i =>
      rw [rangeD, List.getElem?_cons_succ, ih (lo + 1) i (by omega)]
      simp only [Option.some.injEq, PyData.int.injEq]
      omega
def inR (j : Int) : Prop := -(2 ^ 62) ≤ j ∧ j < 2 ^ 62
def dForR1 (ta : DTE) (g : DTG) (tb : DTS) : DTS := fun D S e => ta S (fun r S1 => match r with
  | .d (.int j) => inR j ∧ dLoop g tb D e (rangeD 0 j.toNat) S1
  | _ => False) e
def dForR2 (ta tb' : DTE) (g : DTG) (tb : DTS) : DTS := fun D S e => ta S (fun r S1 => tb' S1 (fun r' S2 => match r, r' with
  | .d (.int i), .d (.int j) => inR i ∧ inR j ∧ dLoop g tb D e (rangeD i (j - i).toNat) S2
  | _, _ => False) e) e
theorem ds_forR1 (hp : PassesOwn (model X.prog X.w) X.A X.env X.xe) (hc : X.calm = true) (hgl : Gl X "range") (hm : X.mg "range" = none) (ha : DE X W a ta) (hg : DG X tg us g) (hb : DSs X W body t)
    (hA : starEach [a] X.env = (false, eval a X.env) :: starEach [] X.env := by rfl) (hA2 : starEach [a] X.env = [(false, eval a X.env)] := by rfl)
    (hs : ∀ x, foldedSetIterable (.Call (.Name "range" p) [a] [] p2) X.env x = pure x := by intro _; rfl) : DS X W (.For tg (.Call (.Name "range" p) [a] [] p2) body [] pos) (dForR1 ta g t) :=
  .of (ps_for hp hc (pi_range1 hgl hm (da_cons (W := W) ha da_nil hA) hA2) hg hb hs) fun σ H B S D er R q hx =>
    liftA.in (t := dCons ta dNil) (k := fun rs S1 => ∃ j, rs = [.d (.int j)] ∧ inR j ∧ dLoop g t D er (rangeD 0 j.toNat) S1) R (by
      show ta S (fun r S1 => ∃ j, [r] = [SV.d (.int j)] ∧ inR j ∧ dLoop g t D er (rangeD 0 j.toNat) S1) er
      refine cast (congrArg (fun k => ta S k er) (funext fun r => funext fun S1 => propext ?_)) q
      constructor
      · intro z
        match r, z with
        | .d (.int j), z => exact ⟨j, rfl, z⟩
      · rintro ⟨j, e, z⟩
        cases e
        exact z) hx fun vs H1 rs S1 R1 m1 rrs q1 => by
      obtain ⟨j, rfl, ⟨j1, j2⟩, q1⟩ := q1
      cases rrs with
      | cons r1 rr =>
        cases rr
        cases (show Dz _ _ _ _ from r1)
        refine ⟨j, rfl, j1, j2, for_range (lo := 0) (n := j.toNat) (LoopI X.K B g t D er H1 (rangeD 0 j.toNat)) ⟨S1, R1, .rfl, q1⟩ (fun i σ2 H2 hi h => ?_) fun σ2 H2 h => loop_done m1 (rangeD_len _ _).symm h⟩
        exact loop_step hx m1 (rangeD_get _ _ _ hi) (fun _ _ => Dz.int _) h
theorem ds_forR2 (hp : PassesOwn (model X.prog X.w) X.A X.env X.xe) (hc : X.calm = true) (hgl : Gl X "range") (hm : X.mg "range" = none) (ha : DE X W a ta) (hb' : DE X W b tb) (hg : DG X tg us g) (hb : DSs X W body t)
    (hA : starEach [a, b] X.env = (false, eval a X.env) :: starEach [b] X.env := by rfl) (hB : starEach [b] X.env = (false, eval b X.env) :: starEach [] X.env := by rfl) (hA2 : starEach [a, b] X.env = [(false, eval a X.env), (false, eval b X.env)] := by rfl) (hB2 : starEach [b] X.env = [(false, eval b X.env)] := by rfl)
    (hs : ∀ x, foldedSetIterable (.Call (.Name "range" p) [a, b] [] p2) X.env x = pure x := by intro _; rfl) : DS X W (.For tg (.Call (.Name "range" p) [a, b] [] p2) body [] pos) (dForR2 ta tb g t) :=
  .of (ps_for hp hc (pi_range2 hgl hm (da_cons (W := W) ha (da_cons hb' da_nil hB) hA) hA2 hB2) hg hb hs) fun σ H B S D er R q hx =>
    liftA.in (t := dCons ta (dCons tb dNil)) (k := fun rs S1 => ∃ i j, rs = [.d (.int i), .d (.int j)] ∧ inR i ∧ inR j ∧ dLoop g t D er (rangeD i (j - i).toNat) S1) R (by
      show ta S (fun r S1 => tb S1 (fun r' S2 => ∃ i j, [r, r'] = [SV.d (.int i), SV.d (.int j)] ∧ inR i ∧ inR j ∧ dLoop g t D er (rangeD i (j - i).toNat) S2) er) er
      refine cast (congrArg (fun k => ta S k er) (funext fun r => funext fun S1 => congrArg (fun k => tb S1 k er) (funext fun r' => funext fun S2 => propext ?_))) q
      constructor
      · intro z
        match r, r', z with
        | .d (.int i), .d (.int j), z => exact ⟨i, j, rfl, z⟩
      · rintro ⟨i, j, e, z⟩
        cases e
        exact z) hx fun vs H1 rs S1 R1 m1 rrs q1 => by
      obtain ⟨i, j, rfl, ⟨i1, i2⟩, ⟨j1, j2⟩, q1⟩ := q1
      cases rrs with
      | cons r1 rr =>
        cases rr with
        | cons r2 rr =>
          cases rr
          cases (show Dz _ _ _ _ from r1)
          cases (show Dz _ _ _ _ from r2)
          refine ⟨i, j, rfl, ⟨i1, i2, j1, j2⟩, for_range (lo := i) (n := (j - i).toNat) (LoopI X.K B g t D er H1 (rangeD i (j - i).toNat)) ⟨S1, R1, .rfl, q1⟩ (fun n σ2 H2 hi h => ?_) fun σ2 H2 h => loop_done m1 (rangeD_len _ _).symm h⟩
          exact loop_step hx m1 (rangeD_get _ _ _ hi) (fun _ _ => Dz.int _) h

/-! ### a[i] -/
def atK (xs : List PyData) (i : Int) (k : SV → Prop) : Prop := match atI xs i with
  | some d => k (.d d)
  | none => False
def gIx : SV → SV → (SV → Prop) → Prop := fun x y k => match x, y with
  | .d (.list xs), .d (.int i) => atK xs i k
  | .d (.tuple xs), .d (.int i) => atK xs i k
  | _, _ => False
theorem atI_len {α β : Type} {xs : List α} {ys : List β} (h : xs.length = ys.length) {i : Int} {x : α} (e : atI xs i = some x) : ∃ j : Nat, xs[j]? = some x ∧ ∀ y, ys[j]? = some y → atI ys i = some y := by
  unfold atI at e
  cases q : ixN xs.length i with
  | none => rw [q] at e; cases e
  | some j =>
    rw [q] at e
    exact ⟨j, e, fun y z => by unfold atI; rw [← h, q]; exact z⟩
theorem oIx {value slice : Expr} {pins : List (Addr × Obj)} {s : Shared} {σ : L2.St} {H : Hp} {B : B3} {S : S3} {x y : SV} {vx vy : V} {v u : Value} {k : SV → Prop} (I : Inv X pins σ H s) (R : RS X.K B σ H S) (a : RR X.K B H x vx) (rx : RelV vx v) (b : RR X.K B H y vy) (ry : RelV vy u)
    (q : gIx x y k) (hs : subscripted slice false v u = operate [v, u] (getItem v u)) : wpAny (model X.prog X.w) X.A (subscriptTail value slice v u) (EP X pins σ (KD X.K B σ H fun r S' => S' = S ∧ k r)) X.xe s := by
  match x, y, a, b, q with
  | .d (.list xs), .d (.int i), a, b, q =>
    cases (show Dz _ _ _ _ from b)
    cases (show Dz _ _ _ _ from a) with
    | lst h1 h2 =>
      have q : atK xs i k := q
      unfold atK at q
      split at q
      · rename_i d e
        obtain ⟨j, e1, e2⟩ := atI_len (ys := _) h2.len.symm e
        obtain ⟨w, e3, z⟩ := h2.get e1
        exact ix_list value slice pins s σ H _ _ v u _ I rx ry ⟨_, _, _, w, rfl, rfl, h1.sq, e2 w e3, .d d, S, R, .rfl, z, rfl, q⟩ hs
      · exact q.elim
  | .d (.tuple xs), .d (.int i), a, b, q =>
    cases (show Dz _ _ _ _ from b)
    cases (show Dz _ _ _ _ from a) with
    | tup h1 h2 =>
      have q : atK xs i k := q
      unfold atK at q
      split at q
      · rename_i d e
        obtain ⟨j, e1, e2⟩ := atI_len (ys := _) h2.len.symm e
        obtain ⟨w, e3, z⟩ := h2.get e1
        exact ix_tup value slice pins s σ H _ _ v u _ I rx ry ⟨_, _, _, w, rfl, rfl, h1, e2 w e3, .d d, S, R, .rfl, z, rfl, q⟩ hs
      · exact q.elim
theorem d_ix (ha : DE X W a ta) (hb : DE X W b tb) (hs : PlainIx b) : DE X W (.Subscript a b pos) (dBin gIx ta tb) := by
  refine .mk fun pins s σ H B S k er I R q hx => ?_
  exact Subscript_ (d_two ha hb I R q hx fun v u s2 x y vx vy H2 S2 I2 R2 m c d e f q2 => thn (oIx I2 R2 c d e f q2 (hs _ _)) fun w s3 h => EP.kd m h)
/-- x[i], x a name that holds data, a list of its own, or a cell -/
def hasG (S : S3) (i : Nat) : Prop := match S.G[i]? with
  | some (some _) => True
  | _ => False
def dIxV (i : Nat) (tb : DTE) : DTE := fun S k e => hasG S i ∧ tb S (fun r S1 => match S1.G[i]?, r with
  | some (some (.own xs)), .d (.int j) => atK xs j fun r => k r S1
  | some (some (.cell n)), .d (.int j) => match S1.C[n]? with
    | some xs => atK xs j fun r => k r S1
    | none => False
  | some (some (.d (.list xs))), .d (.int j) => atK xs j fun r => k r S1
  | some (some (.d (.tuple xs))), .d (.int j) => atK xs j fun r => k r S1
  | _, _ => False) e
theorem atK_ix {K : PySem.W.Frag} {H : Hp} {B : B3} {σ : L2.St} {S : S3} {H0 : Hp} {xs : List PyData} {vs : List V} {j : Int} {k : SV → S3 → Prop} (R : RS K B σ H S) (m : Mono H0 H) (z : DzA K H vs xs) (q : atK xs j fun r => k r S) : ∃ w, atI vs j = some w ∧ KD K B σ H0 k w H := by
  unfold atK at q
  split at q
  · rename_i d e
    obtain ⟨n, e1, e2⟩ := atI_len (ys := vs) z.len.symm e
    obtain ⟨w, e3, z1⟩ := z.get e1
    exact ⟨w, e2 w e3, .d d, S, R, m, z1, q⟩
  · exact q.elim
theorem d_ixV {i : Nat} (hN : X.N[i]? = some x) (hv : Vis X.env.scope x) (hb : DE X W b tb) (hs : PlainIx b) (hd : (x == ("__debug__" : Str)) = false := by decide) (hcd : (x == ("__classdict__" : Str)) = false := by decide) : DE X W (.Subscript (.Name x p) b pos) (dIxV i tb) := by
  refine .of (pe_ix (ix_list.or ix_tup) (pe_var (i := i) hN hv hd hcd) hb hs) fun σ H B S k er R q hx => ?_
  obtain ⟨hg, q⟩ := q
  obtain ⟨vx, hσ⟩ : ∃ vx, σ[i]? = some (some vx) := by
    unfold hasG at hg
    split at hg
    · rename_i r e
      obtain ⟨v, h, _⟩ := R.slot i r e
      exact ⟨v, h⟩
    · exact hg.elim
  refine ⟨vx, hσ, liftE.in (t := tb) R q hx fun v H1 r S1 R1 m1 rr q1 => ?_⟩
  have slot : ∀ r, S1.G[i]? = some (some r) → SR X.K B H1 r vx := fun r e => by
    obtain ⟨w, h1, h2⟩ := R1.slot i r e
    rw [hσ] at h1
    cases h1
    exact h2
  split at q1
  · rename_i xs j e
    cases (show Dz _ _ _ _ from rr)
    obtain ⟨a, vs, e1, h1, z, _⟩ := slot _ e
    obtain ⟨w, e2, kd⟩ := atK_ix R1 m1 z q1
    exact .inl ⟨a, vs, j, w, e1, rfl, .of h1, e2, kd⟩
  · rename_i n j e
    cases (show Dz _ _ _ _ from rr)
    obtain ⟨a, e1, e2⟩ := slot _ e
    split at q1
    · rename_i xs e3
      obtain ⟨vs, h1, z⟩ := R1.cell n a xs e1 e3
      obtain ⟨w, e4, kd⟩ := atK_ix R1 m1 z q1
      exact .inl ⟨a, vs, j, w, e2, rfl, .of h1, e4, kd⟩
    · exact q1.elim
  · rename_i xs j e
    cases (show Dz _ _ _ _ from rr)
    cases (show Dz _ _ _ _ from slot _ e) with
    | lst h1 z =>
      obtain ⟨w, e2, kd⟩ := atK_ix R1 m1 z q1
      exact .inl ⟨_, _, j, w, rfl, rfl, h1.sq, e2, kd⟩
  · rename_i xs j e
    cases (show Dz _ _ _ _ from rr)
    cases (show Dz _ _ _ _ from slot _ e) with
    | tup h1 z =>
      obtain ⟨w, e2, kd⟩ := atK_ix R1 m1 z q1
      exact .inr ⟨_, _, j, w, rfl, rfl, h1, e2, kd⟩
  · exact q1.elim

/-! ### built-ins by data -/
def CallD (X : Cx) (f : Value) (g : List SV → (SV → Prop) → Prop) : Prop :=
  ∀ pins s σ H B S (rs : List SV) (vs : List V) (us : List Value) (k : SV → Prop), Inv X pins σ H s → RS X.K B σ H S → RRs X.K B H rs vs → Vals vs us → g rs k →
    wpAny (model X.prog X.w) X.A (call f us) (EP X pins σ (KD X.K B σ H fun r S' => S' = S ∧ k r)) X.xe s
theorem CallD.of {f : Value} {r : List V → Hp → VK → Prop} {g : List SV → (SV → Prop) → Prop} (ho : CallR X f r)
    (h : ∀ σ H B S rs vs k, RS X.K B σ H S → RRs X.K B H rs vs → g rs k → r vs H (KD X.K B σ H fun r S' => S' = S ∧ k r)) : CallD X f g :=
  fun pins s σ H B S rs vs us k I R a b q => ho pins s σ H vs us _ I b (h σ H B S rs vs k R a q)
def dB (g : List SV → (SV → Prop) → Prop) (ta : DTA) : DTE := fun S k e => ta S (fun rs S1 => g rs fun r => k r S1) e
theorem d_callB {id : String} {g : List SV → (SV → Prop) → Prop} {ta : DTA} (hc : CallD X (.builtin id) g) (hg : Gl X x) (hm : X.mg x = none) (hv : bootBuiltins x = some (.builtin id)) (ha : DA X W (e :: es) ta) (hn : x ≠ "__name__" := by decide) (hdb : (x == ("__debug__" : Str)) = false := by decide)
    (he : starEach (e :: es) X.env = (false, eval e X.env) :: starEach es X.env := by rfl) (hpl : (backTo pos (starEach es X.env)).any (·.1) = false := by rfl) : DE X W (.Call (.Name x p) (e :: es) [] pos) (dB g ta) := by
  refine .mk fun pins s σ H B S k er I R q hx => ?_
  refine wpAny_Call_Name_kw (ld_blt I hg hm hv ?_ hn hdb)
  exact PyProof.Rows.callWith_builtin1 (thn (ha.go I R q hx) fun us s1 ⟨vs, H1, I1, rv, rs, S1, R1, m1, rr, q1⟩ => thn (hc pins s1 σ H1 B S1 rs vs us _ I1 R1 rr rv q1) fun w s3 h => EP.kd m1 h) he hpl
theorem d_callTy {T : String} {g : List SV → (SV → Prop) → Prop} {ta : DTA} (hc : CallD X (.type T) g) (hg : Gl X x) (hm : X.mg x = none) (hv : bootBuiltins x = some (.type T)) (ha : DA X W (e :: es) ta) (hn : x ≠ "__name__" := by decide) (hdb : (x == ("__debug__" : Str)) = false := by decide)
    (he : starEach (e :: es) X.env = (false, eval e X.env) :: starEach es X.env := by rfl) (hpl : (backTo pos (starEach es X.env)).any (·.1) = false := by rfl) : DE X W (.Call (.Name x p) (e :: es) [] pos) (dB g ta) := by
  refine .mk fun pins s σ H B S k er I R q hx => ?_
  refine wpAny_Call_Name_kw (ld_blt I hg hm hv ?_ hn hdb)
  exact PyProof.Rows.callWith_type1 (thn (ha.go I R q hx) fun us s1 ⟨vs, H1, I1, rv, rs, S1, R1, m1, rr, q1⟩ => thn (hc pins s1 σ H1 B S1 rs vs us _ I1 R1 rr rv q1) fun w s3 h => EP.kd m1 h) he hpl
theorem RRs.one {K : PySem.W.Frag} {B : B3} {H : Hp} {r : SV} {vs : List V} (h : RRs K B H [r] vs) : ∃ v, vs = [v] ∧ RR K B H r v := by
  cases h with
  | cons a t =>
    cases t
    exact ⟨_, rfl, a⟩
theorem RRs.two {K : PySem.W.Frag} {B : B3} {H : Hp} {r q : SV} {vs : List V} (h : RRs K B H [r, q] vs) : ∃ v w, vs = [v, w] ∧ RR K B H r v ∧ RR K B H q w := by
  cases h with
  | cons a t =>
    cases t with
    | cons b t =>
      cases t
      exact ⟨_, _, rfl, a, b⟩
/-- abs -/
def gAbs : List SV → (SV → Prop) → Prop := fun rs k => match rs with
  | [.d (.int i)] => k (.d (.int (if i < 0 then -i else i)))
  | _ => False
theorem cAbs : CallD X (.builtin "abs") gAbs := .of call_abs fun σ H B S rs vs k R a q => by
  unfold gAbs at q
  split at q
  · obtain ⟨v, rfl, z⟩ := a.one
    cases (show Dz _ _ _ _ from z)
    exact ⟨_, rfl, .d (.int _), S, R, .rfl, Dz.int _, rfl, q⟩
  · exact q.elim
/-- len -/
def gLen : List SV → (SV → Prop) → Prop := fun rs k => match rs with
  | [.d (.list xs)] => k (.d (.int xs.length))
  | [.d (.tuple xs)] => k (.d (.int xs.length))
  | [.d (.str z)] => z.length ≤ sizeLine ∧ k (.d (.int z.length))
  | _ => False
theorem cLen : CallD X (.builtin "len") gLen := .of call_len fun σ H B S rs vs k R a q => by
  unfold gLen at q
  split at q
  · obtain ⟨v, rfl, z⟩ := a.one
    cases (show Dz _ _ _ _ from z) with
    | lst h1 h2 => exact ⟨_, _, rfl, .inl ⟨_, h1.sq, rfl⟩, .d (.int _), S, R, .rfl, by rw [h2.len]; exact Dz.int _, rfl, q⟩
  · obtain ⟨v, rfl, z⟩ := a.one
    cases (show Dz _ _ _ _ from z) with
    | tup h1 h2 => exact ⟨_, _, rfl, .inr ⟨_, h1, rfl⟩, .d (.int _), S, R, .rfl, by rw [h2.len]; exact Dz.int _, rfl, q⟩
  · obtain ⟨v, rfl, z⟩ := a.one
    cases (show Dz _ _ _ _ from z)
    exact ⟨_, _, rfl, ⟨q.1, rfl⟩, .d (.int _), S, R, .rfl, Dz.int _, rfl, q.2⟩
  · exact q.elim
/-- max, min of two ints -/
def gMax2 : List SV → (SV → Prop) → Prop := fun rs k => match rs with
  | [.d (.int i), .d (.int j)] => k (.d (.int (if j > i then j else i)))
  | _ => False
def gMin2 : List SV → (SV → Prop) → Prop := fun rs k => match rs with
  | [.d (.int i), .d (.int j)] => k (.d (.int (if j < i then j else i)))
  | _ => False
theorem cMax2 (hc : X.calm = true) : CallD X (.builtin "max") gMax2 := .of (call_max2 hc) fun σ H B S rs vs k R a q => by
  unfold gMax2 at q
  split at q
  · obtain ⟨v, w, rfl, z, z'⟩ := a.two
    cases (show Dz _ _ _ _ from z)
    cases (show Dz _ _ _ _ from z')
    exact ⟨_, _, rfl, .d (.int _), S, R, .rfl, Dz.int _, rfl, q⟩
  · exact q.elim
theorem cMin2 (hc : X.calm = true) : CallD X (.builtin "min") gMin2 := .of (call_min2 hc) fun σ H B S rs vs k R a q => by
  unfold gMin2 at q
  split at q
  · obtain ⟨v, w, rfl, z, z'⟩ := a.two
    cases (show Dz _ _ _ _ from z)
    cases (show Dz _ _ _ _ from z')
    exact ⟨_, _, rfl, .d (.int _), S, R, .rfl, Dz.int _, rfl, q⟩
  · exact q.elim
/-- int(b), int(n) -/
def gInt : List SV → (SV → Prop) → Prop := fun rs k => match rs with
  | [.d (.int i)] => k (.d (.int i))
  | [.d (.bool b)] => k (.d (.int (if b then 1 else 0)))
  | _ => False
theorem cInt : CallD X (.type "int") gInt := .of call_int1 fun σ H B S rs vs k R a q => by
  unfold gInt at q
  split at q
  · obtain ⟨v, rfl, z⟩ := a.one
    cases (show Dz _ _ _ _ from z)
    exact .inl ⟨_, rfl, .d (.int _), S, R, .rfl, Dz.int _, rfl, q⟩
  · obtain ⟨v, rfl, z⟩ := a.one
    cases (show Dz _ _ _ _ from z)
    exact .inr ⟨_, rfl, .d (.int _), S, R, .rfl, Dz.int _, rfl, q⟩
  · exact q.elim
/-- str(n) -/
def gStrI : List SV → (SV → Prop) → Prop := fun rs k => match rs with
  | [.d (.int i)] => i.natAbs.log2 < 1920 ∧ k (.d (.str (toString i)))
  | _ => False
theorem cStrI : CallD X (.type "str") gStrI := .of call_str_int fun σ H B S rs vs k R a q => by
  unfold gStrI at q
  split at q
  · obtain ⟨v, rfl, z⟩ := a.one
    cases (show Dz _ _ _ _ from z)
    exact ⟨_, rfl, q.1, .d (.str _), S, R, .rfl, Dz.str _, rfl, q.2⟩
  · exact q.elim
/-- all, any, sum of data -/
def boolsD : List PyData → Option (List Bool)
  | [] => some []
  | .bool b :: r => match boolsD r with
    | some bs => some (b :: bs)
    | none => none
  | _ :: _ => none
theorem boolsD_v {K : PySem.W.Frag} {H : Hp} : ∀ {xs : List PyData} {vs : List V} {bs : List Bool}, DzA K H vs xs → boolsD xs = some bs → vs = bs.map V.bl
  | [], _, _, h, e => by
    cases h
    cases e
    rfl
  | .bool b :: r, _, bs, h, e => by
    cases h with
    | cons h1 h2 =>
      cases h1
      unfold boolsD at e
      split at e
      · rename_i bs' e2
        cases e
        rw [boolsD_v h2 e2]
        rfl
      · cases e
  | .none :: _, _, _, _, e => nomatch e
  | .int _ :: _, _, _, _, e => nomatch e
  | .str _ :: _, _, _, _, e => nomatch e
  | .list _ :: _, _, _, _, e => nomatch e
  | .tuple _ :: _, _, _, _, e => nomatch e
  | .dict _ :: _, _, _, _, e => nomatch e
theorem boolsD_map (bs : List Bool) : boolsD (bs.map .bool) = some bs := by
  induction bs with
  | nil => rfl
  | cons b r ih => simp [boolsD, ih]
def intsD : List PyData → Option (List Int)
  | [] => some []
  | .int b :: r => match intsD r with
    | some bs => some (b :: bs)
    | none => none
  | _ :: _ => none
theorem intsD_v {K : PySem.W.Frag} {H : Hp} : ∀ {xs : List PyData} {vs : List V} {bs : List Int}, DzA K H vs xs → intsD xs = some bs → vs = bs.map V.int
  | [], _, _, h, e => by
    cases h
    cases e
    rfl
  | .int b :: r, _, bs, h, e => by
    cases h with
    | cons h1 h2 =>
      cases h1
      unfold intsD at e
      split at e
      · rename_i bs' e2
        cases e
        rw [intsD_v h2 e2]
        rfl
      · cases e
  | .none :: _, _, _, _, e => nomatch e
  | .bool _ :: _, _, _, _, e => nomatch e
  | .str _ :: _, _, _, _, e => nomatch e
  | .list _ :: _, _, _, _, e => nomatch e
  | .tuple _ :: _, _, _, _, e => nomatch e
  | .dict _ :: _, _, _, _, e => nomatch e
theorem intsD_map (bs : List Int) : intsD (bs.map .int) = some bs := by
  induction bs with
  | nil => rfl
  | cons b r ih => simp [intsD, ih]
def gAll : List SV → (SV → Prop) → Prop := fun rs k => match rs with
  | [.d (.list xs)] => ∃ bs, boolsD xs = some bs ∧ k (.d (.bool (bs.all id)))
  | _ => False
theorem cAll (hc : X.calm = true) : CallD X (.builtin "all") gAll := .of (cr_all hc) fun σ H B S rs vs k R a q => by
  unfold gAll at q
  split at q
  · obtain ⟨v, rfl, z⟩ := a.one
    obtain ⟨bs, e, q⟩ := q
    cases (show Dz _ _ _ _ from z) with
    | lst h1 h2 => exact ⟨_, bs, rfl, by rw [← boolsD_v h2 e]; exact h1.sq, .d (.bool _), S, R, .rfl, Dz.bl _, rfl, q⟩
  · exact q.elim
def gSum : List SV → (SV → Prop) → Prop := fun rs k => match rs with
  | [.d (.list xs)] => ∃ bs, intsD xs = some bs ∧ k (.d (.int bs.sum))
  | _ => False
theorem cSum (hc : X.calm = true) : CallD X (.builtin "sum") gSum := .of (cr_sum hc) fun σ H B S rs vs k R a q => by
  unfold gSum at q
  split at q
  · obtain ⟨v, rfl, z⟩ := a.one
    obtain ⟨bs, e, q⟩ := q
    cases (show Dz _ _ _ _ from z) with
    | lst h1 h2 => exact ⟨_, bs, rfl, by rw [← intsD_v h2 e]; exact h1.sq, .d (.int _), S, R, .rfl, Dz.int _, rfl, q⟩
  · exact q.elim
/-- tuple(xs) -/
def gTupOf : List SV → (SV → Prop) → Prop := fun rs k => match rs with
  | [.d (.list xs)] => k (.d (.tuple xs))
  | [.d (.tuple xs)] => k (.d (.tuple xs))
  | _ => False
theorem cTupOf : CallD X (.type "tuple") gTupOf := .of call_tuple_of fun σ H B S rs vs k R a q => by
  unfold gTupOf at q
  split at q
  · obtain ⟨v, rfl, z⟩ := a.one
    cases (show Dz _ _ _ _ from z) with
    | lst h1 h2 => exact ⟨_, _, rfl, .inl ⟨h1.sq, fun l hl => ⟨.d (.tuple _), S, R.new hl, .new hl, Dz.tup (.of upd_same) (h2.mono (.new hl)), rfl, q⟩⟩⟩
  · obtain ⟨v, rfl, z⟩ := a.one
    cases (show Dz _ _ _ _ from z) with
    | tup h1 h2 => exact ⟨_, _, rfl, .inr ⟨h1, .d (.tuple _), S, R, .rfl, Dz.tup h1 h2, rfl, q⟩⟩
  · exact q.elim
end
end
end D3
/-! D3f: comprehensions; lists and tuples put together, cut; stores into a list of one's own or a cell. -/
namespace D3
open PySem PySem.Spec PyProof.Rows L2
section
variable [Tb]
section
variable {K : PySem.W.Frag} {B : B3} {σ : L2.St} {H : Hp} {S : S3}
/-- a thing at D is set beside, as if it had stood ahead of the entry -/
theorem RS.push (R : RS K B σ H S) {D : Addr} {u : HO} (hD : H D = some u) (hm : D ∉ B.ms) (ho : ∀ (i : Nat) ys, S.G[i]? = some (some (.own ys)) → σ[i]? ≠ some (some (.ref D))) : RS K ⟨upd B.H0 D u, B.ms⟩ σ H S := by
  refine ⟨fun i r e => ?_, R.sep, R.cn, R.nd, R.cell, fun b o e1 e2 => ?_, R.len, R.tabs⟩
  · obtain ⟨v, h1, h2⟩ := R.slot i r e
    refine ⟨v, h1, ?_⟩
    cases r with
    | own xs =>
      obtain ⟨a, vs, q1, q2, q3, q4, q5⟩ := h2
      have ha : a ≠ D := fun z => ho i xs e (by rw [h1, q1, z])
      exact ⟨a, vs, q1, q2, q3, (upd_ne ha).trans q4, q5⟩
    | _ => exact h2
  · by_cases hb : b = D
    · subst hb
      rw [show (⟨upd B.H0 b u, B.ms⟩ : B3).H0 b = some u from upd_same] at e1
      exact ⟨u, hD, by cases e1; exact .rfl⟩
    · exact R.keep b o ((upd_ne hb).symm.trans e1) e2
theorem RS.pop {D : Addr} {u : HO} (R : RS K ⟨upd B.H0 D u, B.ms⟩ σ H S) (h0 : B.H0 D = none) (hm : D ∉ B.ms) (nt : ∀ p, u ≠ .tbl p := by intro p z; cases z) : RS K B σ H S ∧ H D = some u ∧ ∀ (i : Nat) ys, S.G[i]? = some (some (.own ys)) → σ[i]? ≠ some (some (.ref D)) := by
  have own : ∀ (i : Nat) ys, S.G[i]? = some (some (.own ys)) → ∃ a vs, σ[i]? = some (some (.ref a)) ∧ H a = some (.lst vs) ∧ DzA K H vs ys ∧ a ≠ D ∧ B.H0 a = none ∧ a ∉ B.ms := fun i ys e => by
    obtain ⟨v, h1, a, vs, q1, q2, q3, q4, q5⟩ := R.slot i _ e
    have ha : a ≠ D := fun z => by
      subst z
      have z2 : upd B.H0 a u a = none := q4
      rw [upd_same] at z2
      cases z2
    exact ⟨a, vs, by rw [h1, q1], q2, q3, ha, (upd_ne ha).symm.trans q4, q5⟩
  refine ⟨⟨fun i r e => ?_, R.sep, R.cn, R.nd, R.cell, fun b o e1 e2 => ?_, R.len, R.tabs⟩, (show H D = some u from by obtain ⟨o', q, z⟩ := R.keep D u upd_same hm; rw [q, z.eq nt]), fun i ys e z => ?_⟩
  · cases r with
    | own ys =>
      obtain ⟨a, vs, q0, q1, q2, q3, q4, q5⟩ := own i ys e
      exact ⟨_, q0, a, vs, rfl, q1, q2, q4, q5⟩
    | _ =>
      obtain ⟨v, h1, h2⟩ := R.slot i _ e
      exact ⟨v, h1, h2⟩
  · refine R.keep b o ?_ e2
    have hb : b ≠ D := fun z => by
      subst z
      rw [h0] at e1
      cases e1
    exact (upd_ne hb).trans e1
  · obtain ⟨a, vs, q0, q1, q2, q3, q4, q5⟩ := own i ys e
    rw [q0] at z
    cases z
    exact q3 rfl
/-- the slots vs are forgotten -/
def wipeG (G : List (Option SV)) : List Nat → List (Option SV)
  | [] => G
  | v :: vs => (wipeG G vs).set v none
theorem wipeG_len (G : List (Option SV)) : ∀ vs : List Nat, (wipeG G vs).length = G.length
  | [] => rfl
  | v :: vs => by rw [wipeG, List.length_set, wipeG_len G vs]
theorem wipeG_some {G : List (Option SV)} {i : Nat} {x : SV} : ∀ {vs : List Nat}, (wipeG G vs)[i]? = some (some x) → G[i]? = some (some x) ∧ i ∉ vs
  | [], h => ⟨h, by simp⟩
  | v :: vs, h => by
    rw [wipeG] at h
    rcases set_get h with ⟨_, e, _⟩ | ⟨ne, e⟩
    · cases e
    · obtain ⟨h1, h2⟩ := wipeG_some e
      exact ⟨h1, by simp only [List.mem_cons, not_or]; exact ⟨fun z => ne z.symm, h2⟩⟩
def S3.wipe (S : S3) (vs : List Nat) : S3 := { S with G := wipeG S.G vs }
/-- from a frame to one that agrees with it but at vs -/
theorem RS.wiped (R : RS K B σ H S) {σ' : L2.St} {vs : List Nat} (e : L2.wipe σ' vs = L2.wipe σ vs) : RS K B σ' H (S.wipe vs) := by
  have same : ∀ i : Nat, i ∉ vs → σ'[i]? = σ[i]? := fun i hi => by
    have z := congrArg (fun l : L2.St => l[i]?) e
    simpa only [wipe_get, if_neg hi] using z
  have hl : σ'.length = σ.length := by
    have z := congrArg List.length e
    simpa only [L2.wipe_length] using z
  refine ⟨fun i r q => ?_, fun i j xs ys v ne e1 e2 e3 e4 => ?_, R.cn, R.nd, R.cell, R.keep, ?_, R.tabs⟩
  · obtain ⟨q1, q2⟩ := wipeG_some q
    obtain ⟨v, h1, h2⟩ := R.slot i r q1
    exact ⟨v, by rw [same i q2]; exact h1, h2⟩
  · obtain ⟨q1, n1⟩ := wipeG_some e1
    obtain ⟨q2, n2⟩ := wipeG_some e2
    rw [same i n1] at e3
    rw [same j n2] at e4
    exact R.sep i j xs ys v ne q1 q2 e3 e4
  · show (wipeG S.G vs).length = _
    rw [wipeG_len, R.len, hl]
theorem wipe_idem {vs : List Nat} : L2.wipe (L2.wipe σ vs) vs = L2.wipe σ vs := by
  apply List.ext_getElem?
  intro j
  simp only [wipe_get]
  by_cases q : j ∈ vs
  · simp only [if_pos q]
    cases σ[j]? <;> rfl
  · simp only [if_neg q]
end
/-! ### comprehensions -/
def noE : ED := fun _ _ => False
def noW : WX := fun _ _ _ _ => False
theorem HX.no {K : PySem.W.Frag} {B : B3} : HX K noW B noE := fun _ _ _ _ _ _ _ _ h => h
/-- the tests of a clause -/
def dYes : DTT := fun S k _ => k true S
def DPs (X : Cx) (ifs : List Expr) (t : DTT) : Prop := PTs X ifs (liftT X.K noW t)
section
variable {X : Cx} {e : Expr} {t : DTT}
theorem dps_nil : DPs X [] dYes := ⟨fun pins s σ H Q I ⟨B, S, k, er, R, q, hx, f⟩ => pts_nil.run pins s σ H Q I (f true H ⟨S, R, .rfl, q⟩)⟩
theorem dps_one (h : DT X noW e t) : DPs X [e] t := pts_one h
end
def dComp (vs : List Nat) (g : DTG) (tt : DTT) (te : DTE) (k : List PyData → S3 → Prop) : List PyData → List PyData → S3 → Prop
  | [], acc, S => k acc (S.wipe vs)
  | x :: xs, acc, S => g x S fun S1 => tt S1 (fun b S2 => iteB b (te S2 (fun r S3 => match r with
      | .d y => acc.length < sizeLine ∧ dComp vs g tt te k xs (acc ++ [y]) (S3.wipe vs)
      | _ => False) noE) (dComp vs g tt te k xs acc (S2.wipe vs))) noE
def dLc (vs : List Nat) (ti : DTE) (g : DTG) (tt : DTT) (te : DTE) : DTL := fun S k e => ti S (fun r S1 => match r with
  | .d (.list xs) => dComp vs g tt te k xs [] (S1.wipe vs)
  | .d (.tuple xs) => dComp vs g tt te k xs [] (S1.wipe vs)
  | _ => False) e
section
variable {X : Cx} {W : WX} {us : List Nat} {K : PySem.W.Frag} {B : B3} {g : DTG} {tt : DTT} {te : DTE} {k : List PyData → S3 → Prop} {vs : List Nat} {xs : List PyData} {σ : L2.St} {H1 : Hp} {D : Addr}
/-- between two turns: the list at D holds what was made -/
def CompI (K : PySem.W.Frag) (B : B3) (vs : List Nat) (g : DTG) (tt : DTT) (te : DTE) (k : List PyData → S3 → Prop) (xs : List PyData) (σ : L2.St) (H1 : Hp) (D : Addr) (i : Nat) (H2 : Hp) : Prop :=
  ∃ S2 accV acc, RS K B (L2.wipe σ vs) H2 S2 ∧ Mono H1 H2 ∧ H2 D = some (.lst accV) ∧ DzA K H2 accV acc ∧ (∀ (i : Nat) ys, S2.G[i]? = some (some (.own ys)) → (L2.wipe σ vs)[i]? ≠ some (some (.ref D))) ∧ dComp vs g tt te k (xs.drop i) acc S2
theorem comp_start {S1 : S3} (R : RS K B σ H1 S1) (hD : H1 D = none) (q : dComp vs g tt te k xs [] (S1.wipe vs)) : CompI K B vs g tt te k xs σ H1 D 0 (upd H1 D (.lst [])) := by
  have R2 : RS K B (L2.wipe σ vs) H1 (S1.wipe vs) := R.wiped wipe_idem
  obtain ⟨a, ws, e, _, _, _, _, h⟩ := RL.new (vs := []) (ds := []) R2 hD .nil
  cases e
  exact ⟨S1.wipe vs, [], [], R2.new hD, .new hD, upd_same, .nil, h, q⟩
theorem comp_step (h0 : B.H0 D = none) (hm : D ∉ B.ms) (hus : ∀ i ∈ us, i ∈ vs) {i : Nat} {v : V} {H2 : Hp} {x : PyData} (e : xs[i]? = some x) (z : ∀ H2, Mono H1 H2 → Dz K H2 v x) (h : CompI K B vs g tt te k xs σ H1 D i H2) :
    liftG K us g v (L2.wipe σ vs) H2 fun σ3 H3 => L2.wipe σ3 vs = L2.wipe σ vs ∧ liftT K noW tt σ3 H3 fun b H4 =>
      if b = true then liftE K noW te σ3 H4 fun y H5 => ∃ acc, H5 D = some (.lst acc) ∧ acc.length < sizeLine ∧ CompI K B vs g tt te k xs σ H1 D (i + 1) (upd H5 D (.lst (acc ++ [y]))) else CompI K B vs g tt te k xs σ H1 D (i + 1) H4 := by
  obtain ⟨S2, accV, acc, R2, m2, hD, za, ho, q⟩ := h
  rw [drop_of e] at q
  refine ⟨⟨upd B.H0 D (.lst accV), B.ms⟩, S2, x, _, R2.push hD hm ho, z _ m2, q, fun σ3 H3 S3 R3 m3 l3 _ q3 => ?_⟩
  have ew : L2.wipe σ3 vs = L2.wipe σ vs := (l3 vs hus).trans wipe_idem
  refine ⟨ew, liftT.in (t := tt) R3 q3 HX.no fun b H4 S4 R4 m4 q4 => ?_⟩
  cases b with
  | false =>
    rw [if_neg Bool.false_ne_true]
    obtain ⟨R5, hD4, ho4⟩ := RS.pop (R4.wiped (σ' := L2.wipe σ vs) (vs := vs) (wipe_idem.trans ew.symm)) h0 hm
    exact ⟨_, accV, acc, R5, (m2.tr m3).tr m4, hD4, za.mono (m3.tr m4), ho4, q4⟩
  | true =>
    rw [if_pos rfl]
    refine liftE.in (t := te) R4 q4 HX.no fun y H5 r S5 R5 m5 rr q5 => ?_
    match r, rr, q5 with
    | .d w, rr, q5 =>
      obtain ⟨R6, hD5, ho5⟩ := RS.pop (R5.wiped (σ' := L2.wipe σ vs) (vs := vs) (wipe_idem.trans ew.symm)) h0 hm
      have zacc := za.mono ((m3.tr m4).tr m5)
      refine ⟨accV, hD5, by rw [zacc.len]; exact q5.1, S5.wipe vs, accV ++ [y], acc ++ [w], ?_, (((m2.tr m3).tr m4).tr m5).tr (.at_ hD5 nfz_lst), upd_same, (zacc.app (.one rr)).mono (.at_ hD5 nfz_lst), ho5, q5.2⟩
      refine ⟨fun j r2 e2 => ?_, R6.sep, R6.cn, R6.nd, fun n a ys e1 e2 => ?_, fun b o e1 e2 => ?_, R6.len, tabs_at R6.tabs hD5⟩
      · obtain ⟨u, h1, h2⟩ := R6.slot j r2 e2
        refine ⟨u, h1, ?_⟩
        cases r2 with
        | own ys =>
          obtain ⟨a, ws, q1, q2, q3, q4⟩ := h2
          have ha : a ≠ D := fun zz => ho5 j ys e2 (by rw [h1, q1, zz])
          exact ⟨a, ws, q1, by rw [upd_ne ha]; exact q2, q3.mono (.at_ hD5 nfz_lst), q4⟩
        | _ => exact h2.mono (.at_ hD5 nfz_lst) (fun _ z => nomatch z)
      · obtain ⟨ws, q1, q2⟩ := R6.cell n a ys e1 e2
        have ha : a ≠ D := fun zz => hm (by rw [← zz]; exact List.mem_of_getElem? e1)
        exact ⟨ws, by rw [upd_ne ha]; exact q1, q2.mono (.at_ hD5 nfz_lst)⟩
      · have hb : b ≠ D := fun zz => by
          subst zz
          rw [h0] at e1
          cases e1
        rw [upd_ne hb]
        exact R6.keep b o e1 e2
theorem comp_done (h0 : B.H0 D = none) (hm : D ∉ B.ms) {Hs : Hp} (m : Mono Hs H1) {n : Nat} (hn : n = xs.length) {H2 : Hp} (h : CompI K B vs g tt te k xs σ H1 D n H2) : KL K B σ Hs k (.ref D) H2 := by
  obtain ⟨S2, accV, acc, R2, m2, hD, za, ho, q⟩ := h
  subst hn
  rw [List.drop_length] at q
  have R3 : RS K B σ H2 (S2.wipe vs) := R2.wiped wipe_idem.symm
  refine ⟨acc, S2.wipe vs, R3, m.tr m2, ⟨D, accV, rfl, hD, za, h0, hm, fun i ys e1 e2 => ?_⟩, q⟩
  obtain ⟨q1, q2⟩ := wipeG_some e1
  refine ho i ys q1 ?_
  rw [wipe_get, if_neg q2]
  exact e2
end
section
variable {X : Cx} {W : WX} {us : List Nat} {e elt tg a b : Expr} {ifs : List Expr} {ti te ta tb : DTE} {g : DTG} {tt : DTT} {scope : Scope} {own : List (Str × Nat)} {pos p p2 : Pos}
theorem d_lc (hc : X.calm = true) (hN : X.N.Nodup) (hi : DE X W e ti) (ok : BlkOk X.N X.env.scope scope own) (hus : ∀ i ∈ us, i ∈ own.map (·.2))
    (hg : ∀ (s : Shared) (H : Hp) (C : Addr) (cl : List (Str × Addr)) (fp : List Addr), DG (X.blk s H scope (compEnvC scope cl C X.env) fp) tg us g)
    (ht : ∀ (s : Shared) (H : Hp) (C : Addr) (cl : List (Str × Addr)) (fp : List Addr), DPs (X.blk s H scope (compEnvC scope cl C X.env) fp) ifs tt)
    (he : ∀ (s : Shared) (H : Hp) (C : Addr) (cl : List (Str × Addr)) (fp : List Addr), DE (X.blk s H scope (compEnvC scope cl C X.env) fp) noW elt te) (hs : ∀ x, foldedSetIterable e X.env x = pure x := by intro _; rfl) :
    DL X W (.ListComp elt [⟨tg, e, ifs, 0⟩] scope pos) (dLc (own.map (·.2)) ti g tt te) :=
  .of (pe_lc (g := liftG X.K us g) (tt := liftT X.K noW tt) (te := liftE X.K noW te) hc hN (pi_seq hi) ok hg ht he hs) fun σ H B S k er R q hx => liftE.in (t := ti) R q hx fun v H1 r S1 R1 m1 rr q1 => by
    match r, rr, q1 with
    | .d (.list xs), rr, q1 =>
      cases (show Dz _ _ _ _ from rr) with
      | @lst a vs ds h1 h2 =>
        refine ⟨a, rfl, .inl ⟨⟨vs, sqL_mono .rfl h1⟩, fun D hD => ?_⟩⟩
        obtain ⟨h0, hm⟩ := R1.fresh0 hD
        refine lc_list (K := X.K) (a := a) (xs := vs) (CompI X.K B (own.map (·.2)) g tt te k xs σ H1 D) (comp_start R1 hD q1) (fun i H2 _ ⟨_, _, _, _, m2, _⟩ => sqL_mono m2 h1) (fun i v H2 e h => ?_) fun H2 h => comp_done h0 hm m1 h2.len h
        obtain ⟨d, e2, z⟩ := h2.getV e
        exact comp_step h0 hm hus e2 (fun H2 m2 => Dz.mono m2 _ _ z) h
    | .d (.tuple xs), rr, q1 =>
      cases (show Dz _ _ _ _ from rr) with
      | @tup a vs ds h1 h2 =>
        refine ⟨a, rfl, .inr ⟨⟨vs, h1⟩, fun D hD => ?_⟩⟩
        obtain ⟨h0, hm⟩ := R1.fresh0 hD
        refine lc_tup (K := X.K) (a := a) (xs := vs) (CompI X.K B (own.map (·.2)) g tt te k xs σ H1 D) (comp_start R1 hD q1) (fun i H2 _ ⟨_, _, _, _, m2, _⟩ => sqT_mono m2 h1) (fun i v H2 e h => ?_) fun H2 h => comp_done h0 hm m1 h2.len h
        obtain ⟨d, e2, z⟩ := h2.getV e
        exact comp_step h0 hm hus e2 (fun H2 m2 => Dz.mono m2 _ _ z) h
/-- [e for i in range(n)] -/
def dLcR (vs : List Nat) (ta : DTE) (g : DTG) (tt : DTT) (te : DTE) : DTL := fun S k e => ta S (fun r S1 => match r with
  | .d (.int j) => inR j ∧ dComp vs g tt te k (rangeD 0 j.toNat) [] (S1.wipe vs)
  | _ => False) e
theorem one_arg {t : DTE} {S : S3} {k : SV → S3 → Prop} {er : ED} {P : SV → S3 → Prop} (q : t S k er) (h : ∀ r S1, k r S1 ↔ P r S1) : t S P er := cast (congrArg (fun k => t S k er) (funext fun r => funext fun S1 => propext (h r S1))) q
theorem d_lcR (hc : X.calm = true) (hN : X.N.Nodup) (hgl : Gl X "range") (hm : X.mg "range" = none) (ha : DE X W a ta) (ok : BlkOk X.N X.env.scope scope own) (hus : ∀ i ∈ us, i ∈ own.map (·.2))
    (hg : ∀ (s : Shared) (H : Hp) (C : Addr) (cl : List (Str × Addr)) (fp : List Addr), DG (X.blk s H scope (compEnvC scope cl C X.env) fp) tg us g)
    (ht : ∀ (s : Shared) (H : Hp) (C : Addr) (cl : List (Str × Addr)) (fp : List Addr), DPs (X.blk s H scope (compEnvC scope cl C X.env) fp) ifs tt)
    (he : ∀ (s : Shared) (H : Hp) (C : Addr) (cl : List (Str × Addr)) (fp : List Addr), DE (X.blk s H scope (compEnvC scope cl C X.env) fp) noW elt te)
    (hA : starEach [a] X.env = (false, eval a X.env) :: starEach [] X.env := by rfl) (hA2 : starEach [a] X.env = [(false, eval a X.env)] := by rfl)
    (hs : ∀ x, foldedSetIterable (.Call (.Name "range" p) [a] [] p2) X.env x = pure x := by intro _; rfl) :
    DL X W (.ListComp elt [⟨tg, .Call (.Name "range" p) [a] [] p2, ifs, 0⟩] scope pos) (dLcR (own.map (·.2)) ta g tt te) :=
  .of (pe_lc (g := liftG X.K us g) (tt := liftT X.K noW tt) (te := liftE X.K noW te) hc hN (pi_range1 hgl hm (da_cons (W := W) ha da_nil hA) hA2) ok hg ht he hs) fun σ H B S k er R q hx =>
    liftA.in (t := dCons ta dNil) (k := fun rs S1 => ∃ j, rs = [.d (.int j)] ∧ inR j ∧ dComp (own.map (·.2)) g tt te k (rangeD 0 j.toNat) [] (S1.wipe (own.map (·.2)))) R (by
      refine one_arg (P := fun r S1 => ∃ j, [r] = [SV.d (.int j)] ∧ inR j ∧ dComp (own.map (·.2)) g tt te k (rangeD 0 j.toNat) [] (S1.wipe (own.map (·.2)))) q fun r S1 => ?_
      constructor
      · intro z
        match r, z with
        | .d (.int j), z => exact ⟨j, rfl, z⟩
      · rintro ⟨j, e, z⟩
        cases e
        exact z) hx fun vs H1 rs S1 R1 m1 rrs q1 => by
      obtain ⟨j, rfl, ⟨j1, j2⟩, q1⟩ := q1
      cases rrs with
      | cons r1 rr =>
        cases rr
        cases (show Dz _ _ _ _ from r1)
        refine ⟨j, rfl, j1, j2, fun D hD => ?_⟩
        obtain ⟨h0, hm2⟩ := R1.fresh0 hD
        refine lc_range (lo := 0) (n := j.toNat) (CompI X.K B (own.map (·.2)) g tt te k (rangeD 0 j.toNat) σ H1 D) (comp_start R1 hD q1) (fun i H2 hi h => ?_) fun H2 h => comp_done h0 hm2 m1 (rangeD_len _ _).symm h
        exact comp_step h0 hm2 hus (rangeD_get _ _ _ hi) (fun _ _ => Dz.int _) h
/-- y = [..] written on one line, y a local: the store is the comprehension's own -/
def dSetFz (i : Nat) (t : DTL) : DTS := fun D S e => t S (fun xs S1 => D.nx { S1 with G := S1.G.set i (some (.own xs)) }) e
theorem ds_setLc {i : Nat} {y : Str} {py spos : Pos} (hc : X.calm = true) (hN : X.N.Nodup) (hy : X.N[i]? = some y) (hyl : X.env.scope.names.lookup y = some .local) (hsw : swapsWith (.ListComp elt [⟨tg, e, ifs, 0⟩] scope pos) (some (.Name y py)) spos.line X.env = pure true)
    (hi : DE X W e ti) (ok : BlkOk X.N X.env.scope scope own) (hus : ∀ i ∈ us, i ∈ own.map (·.2))
    (hg : ∀ (s : Shared) (H : Hp) (C : Addr) (cl : List (Str × Addr)) (fp : List Addr), DG (X.blk s H scope (compEnvC scope cl C X.env) fp) tg us g)
    (ht : ∀ (s : Shared) (H : Hp) (C : Addr) (cl : List (Str × Addr)) (fp : List Addr), DPs (X.blk s H scope (compEnvC scope cl C X.env) fp) ifs tt)
    (he : ∀ (s : Shared) (H : Hp) (C : Addr) (cl : List (Str × Addr)) (fp : List Addr), DE (X.blk s H scope (compEnvC scope cl C X.env) fp) noW elt te) (hs : ∀ x, foldedSetIterable e X.env x = pure x := by intro _; rfl) :
    DS X W (.Assign [.Name y py] (.ListComp elt [⟨tg, e, ifs, 0⟩] scope pos) spos) (dSetFz i (dLc (own.map (·.2)) ti g tt te)) :=
  .of (ps_setLc (g := liftG X.K us g) (tt := liftT X.K noW tt) (te := liftE X.K noW te) hc hN hy hyl hsw (pi_seq hi) ok hg ht he hs) fun σ H B S D er R q hx => liftE.in (t := ti) R q hx fun v H1 r S1 R1 m1 rr q1 => by
    have fin : ∀ {A : Addr} {H2 : Hp}, KL X.K B σ H (fun xs S1 => D.nx { S1 with G := S1.G.set i (some (.own xs)) }) (.ref A) H2 → (KS X.K B H D).nx (σ.set i (some (.ref A))) H2 := fun ⟨xs, S', R', m', rl, q'⟩ => ⟨_, R'.setO rl, m', q'⟩
    match r, rr, q1 with
    | .d (.list xs), rr, q1 =>
      cases (show Dz _ _ _ _ from rr) with
      | @lst a vs ds h1 h2 =>
        refine ⟨a, rfl, .inl ⟨⟨vs, sqL_mono .rfl h1⟩, fun A hA => ?_⟩⟩
        obtain ⟨h0, hm⟩ := R1.fresh0 hA
        refine lc_list (K := X.K) (a := a) (xs := vs) (CompI X.K B (own.map (·.2)) g tt te _ xs σ H1 A) (comp_start R1 hA q1) (fun i H2 _ ⟨_, _, _, _, m2, _⟩ => sqL_mono m2 h1) (fun i v H2 e h => ?_) fun H2 h => fin (comp_done h0 hm m1 h2.len h)
        obtain ⟨d, e2, z⟩ := h2.getV e
        exact comp_step h0 hm hus e2 (fun H2 m2 => Dz.mono m2 _ _ z) h
    | .d (.tuple xs), rr, q1 =>
      cases (show Dz _ _ _ _ from rr) with
      | @tup a vs ds h1 h2 =>
        refine ⟨a, rfl, .inr ⟨⟨vs, h1⟩, fun A hA => ?_⟩⟩
        obtain ⟨h0, hm⟩ := R1.fresh0 hA
        refine lc_tup (K := X.K) (a := a) (xs := vs) (CompI X.K B (own.map (·.2)) g tt te _ xs σ H1 A) (comp_start R1 hA q1) (fun i H2 _ ⟨_, _, _, _, m2, _⟩ => sqT_mono m2 h1) (fun i v H2 e h => ?_) fun H2 h => fin (comp_done h0 hm m1 h2.len h)
        obtain ⟨d, e2, z⟩ := h2.getV e
        exact comp_step h0 hm hus e2 (fun H2 m2 => Dz.mono m2 _ _ z) h
end

/-! ### + of data: ints, texts, tuples, lists (frozen) -/
section
variable {X : Cx} {W : WX} {a b : Expr} {ta tb : DTE} {pos : Pos}
def gAdd : SV → SV → (SV → Prop) → Prop := fun x y k => match x, y with
  | .d (.int i), .d (.int j) => k (.d (.int (i + j)))
  | .d (.tuple xs), .d (.tuple ys) => xs.length + ys.length ≤ sizeLine ∧ k (.d (.tuple (xs ++ ys)))
  | .d (.list xs), .d (.list ys) => xs.length + ys.length ≤ sizeLine ∧ k (.d (.list (xs ++ ys)))
  | _, _ => False
theorem list_cat {pins : List (Addr × Obj)} {s : Shared} {σ : L2.St} {H : Hp} {a b : Addr} {vs ws : List V} {Q : VK} (I : Inv X pins σ H s) (h1 : FzL X.K H a vs) (h2 : FzL X.K H b ws) (hz : vs.length + ws.length ≤ sizeLine)
    (q : ∀ p, H p = none → Q (.ref p) (upd H p (.lst (vs ++ ws)))) : wpAny (model X.prog X.w) X.A (binaryOp .Add (.ref a) (.ref b)) (EP X pins σ Q) X.xe s := by
  obtain ⟨_, its, n, r, e⟩ := h1.at_ I
  obtain ⟨_, its', n', r', e'⟩ := h2.at_ I
  have l1 := r.length
  have l2 := r'.length
  refine PySem.P.add_list e e' ?_ (by simp only [List.size_toArray]; omega)
  rw [show its.toArray ++ its'.toArray = (its ++ its').toArray by simp]
  exact ⟨.ref s.heap.objs.size, _, I.lnew (t' := s.toks) (Vals.append r r') (by simp only [List.length_append]; omega), rfl, q _ I.fresh⟩
theorem oAdd : OpD X (binaryOp .Add) gAdd := by
  intro pins s σ H B S x y vx vy v u k I R a rx b ry q
  match x, y, a, b, q with
  | .d (.int i), .d (.int j), a, b, q => exact oAddI pins s σ H B S _ _ vx vy v u k I R a rx b ry ⟨trivial, q⟩
  | .d (.tuple xs), .d (.tuple ys), a, b, q =>
    cases (show Dz _ _ _ _ from a) with
    | tup h1 h2 =>
      cases (show Dz _ _ _ _ from b) with
      | tup h3 h4 =>
        have hl : ∀ {vs : List V} {ds : List PyData}, DzA X.K H vs ds → vs = [] → ds = [] := fun z e => by
          subst e
          cases z
          rfl
        refine op_catA pins s σ H _ _ v u _ I rx ry ⟨_, _, _, _, rfl, rfl, h1, h3, by rw [h2.len, h4.len]; exact q.1, fun e => ?_, fun _ e => ?_, fun _ _ p hp => ?_⟩
        · have e2 := hl h2 e
          subst e2
          exact ⟨.d (.tuple ys), S, R, .rfl, Dz.tup h3 h4, rfl, q.2⟩
        · have e2 := hl h4 e
          subst e2
          exact ⟨.d (.tuple xs), S, R, .rfl, Dz.tup h1 h2, rfl, by have z := q.2; rw [List.append_nil] at z; exact z⟩
        · exact ⟨.d (.tuple (xs ++ ys)), S, R.new hp, .new hp, Dz.tup (.of upd_same) ((h2.app h4).mono (.new hp)), rfl, q.2⟩
  | .d (.list xs), .d (.list ys), a, b, q =>
    cases (show Dz _ _ _ _ from a) with
    | lst h1 h2 =>
      cases (show Dz _ _ _ _ from b) with
      | lst h3 h4 =>
        cases (show v = _ from rx)
        cases (show u = _ from ry)
        refine thn (list_cat (Q := KL X.K B σ H fun zs S' => S' = S ∧ zs = xs ++ ys) I h1 h3 (by rw [h2.len, h4.len]; exact q.1) fun p hp => ⟨_, S, R.new hp, .new hp, .new R hp (h2.app h4), rfl, rfl⟩) fun w s1 ⟨vw, H1, I1, r1, zs, S', R1, m1, rl, e1, e2⟩ => ?_
        subst e1 e2
        obtain ⟨p, vs, rfl, h5, f⟩ := R1.frzNew rl
        obtain ⟨od, I2⟩ := I1.lock h5 trivial
        obtain ⟨R2, m2, z⟩ := f od
        exact ⟨.ref p, _, I2, r1, .d (.list (xs ++ ys)), _, R2, m1.tr m2, z, rfl, q.2⟩
/-- a list put together, nobody's yet -/
def dAddL (ta tb : DTE) : DTL := fun S k e => ta S (fun x S1 => tb S1 (fun y S2 => match x, y with
  | .d (.list xs), .d (.list ys) => xs.length + ys.length ≤ sizeLine ∧ k (xs ++ ys) S2
  | _, _ => False) e) e
theorem d_addL (ha : DE X W a ta) (hb : DE X W b tb) : DL X W (.BinOp a .Add b pos) (dAddL ta tb) := by
  refine .mk fun pins s σ H B S k er I R q hx => ?_
  refine wpAny_BinOp (d_two ha hb I R q hx fun v u s2 x y vx vy H2 S2 I2 R2 m c rx d ry q2 => ?_)
  match x, y, c, d, q2 with
  | .d (.list xs), .d (.list ys), c, d, q2 =>
    cases (show Dz _ _ _ _ from c) with
    | lst h1 h2 =>
      cases (show Dz _ _ _ _ from d) with
      | lst h3 h4 =>
        cases (show v = _ from rx)
        cases (show u = _ from ry)
        exact list_cat I2 h1 h3 (by rw [h2.len, h4.len]; exact q2.1) fun p hp => ⟨_, S2, R2.new hp, m.tr (.new hp), .new R2 hp (h2.app h4), q2.2⟩
end
end
end D3
/-! D3g: a def by its body; the law's end. -/
namespace D3
open PySem PySem.Spec PyProof.Rows L2
section
variable [Tb]
/-- the parameters' values, then nothing -/
def start3 (n : Nat) (rs : List SV) : List (Option SV) := rs.map some ++ List.replicate (n - rs.length) none
theorem RRs.get {K : PySem.W.Frag} {B : B3} {H : Hp} : ∀ {rs : List SV} {vs : List V} {i : Nat} {r : SV}, RRs K B H rs vs → rs[i]? = some r → ∃ v, vs[i]? = some v ∧ RR K B H r v
  | _, _, _, _, .nil, e => by simp at e
  | _, _, 0, _, .cons a _, e => by
    simp only [List.getElem?_cons_zero, Option.some.injEq] at e
    subst e
    exact ⟨_, by simp, a⟩
  | _, _, i + 1, _, .cons _ t, e => by
    obtain ⟨v, h1, h2⟩ := RRs.get (i := i) t (by simpa using e)
    exact ⟨v, by simpa using h1, h2⟩
theorem start3_get {n : Nat} {rs : List SV} {i : Nat} {r : SV} (h : (start3 n rs)[i]? = some (some r)) : rs[i]? = some r := by
  unfold start3 at h
  by_cases hi : i < rs.length
  · rw [List.getElem?_append_left (by simpa using hi), List.getElem?_map] at h
    cases e : rs[i]? with
    | none => rw [e] at h; cases h
    | some q => rw [e] at h; cases h; rfl
  · rw [List.getElem?_append_right (by simpa using hi), List.getElem?_replicate] at h
    split at h
    · cases h
    · cases h
theorem start_get {N : List Str} {vs : List V} {i : Nat} {v : V} (h : vs[i]? = some v) : (L2.start N vs)[i]? = some (some v) := by
  have hi : i < vs.length := (List.getElem?_eq_some_iff.mp h).1
  unfold L2.start
  rw [List.getElem?_append_left (by simpa using hi), List.getElem?_map, h]
  rfl
theorem RS.begin {K : PySem.W.Frag} {ms : List Addr} {H : Hp} {N : List Str} {rs : List SV} {vs : List V} {C : List (List PyData)} (a : RRs K ⟨H, ms⟩ H rs vs) (rc : RC K ms H C) : RS K ⟨H, ms⟩ (L2.start N vs) H ⟨start3 N.length rs, C⟩ := by
  refine ⟨fun i r e => ?_, fun i j xs ys v _ e1 _ _ _ => ?_, rc.cn, rc.nd, rc.cell, fun b o e _ => ⟨o, e, .rfl⟩, ?_, rc.tabs⟩
  · obtain ⟨v, h1, h2⟩ := a.get (start3_get e)
    exact ⟨v, start_get h1, h2.sr⟩
  · obtain ⟨v, _, h2⟩ := a.get (start3_get e1)
    exact h2
  · have l := a.len
    unfold start3 L2.start
    simp only [List.length_append, List.length_map, List.length_replicate]
    omega
/-- what a def's end gives -/
def defEnds (k : SV → List (List PyData) → Prop) : DEnds := { nx := fun S => k (.d .none) S.C, rt := fun r S => k r S.C }
def defExc (e : Xd → List (List PyData) → Prop) : ED := fun x S => e x S.C
/-- the code object of a def -/
def codeOf (K : PySem.W.Frag) (f : Addr) : Option Value := match K.lookup f with
  | some ⟨_, _, .func fd, _⟩ => some fd.code
  | _ => none
theorem fnG_def {P : Program} {w : World} {K : PySem.W.Frag} {mg : Str → Option Value} {base : Heap} {x qual : Str} {st : Stmt} {f : Addr} {fd : FuncData} {N ps : List Str} {kk : Nat} {p : DP} {t : DTS} (F : Fun K x qual st f fd) (S : FnScope N ps (defScope st))
    (hb : ∀ (cdv : Value) (A : Around) (outer : List Env) (s : Shared) (H : Hp) (E : XK), codeOf K f = some cdv → Room kk (A.deeper (envOfC qual (defScope st) s.heap.objs.size f cdv)) → A.guards = some [] →
      DSs (cxOf (L2.CX P w) P w K mg base N qual (defScope st) f cdv A outer s H E) (fun cls d _ H' => E cls d H') (defBody st) t)
    (hP : ∀ rs C k e, p rs C k e → rs.length = ps.length ∧ t (defEnds k) ⟨start3 N.length rs, C⟩ (defExc e)) : FnG P w K mg base (kk + 1) f fd ps (spD K ps.length p) := by
  obtain ⟨oc, od, kV, doc, pm, an, cdv, ct, osl, rfl, lk, hcd⟩ := F.ex
  refine ⟨fun vs H Q E h => h.1, fun A outer s H args us vs Q E hr hgd e0 hbd rv h => ?_⟩
  refine LamX.run_ofS lk hcd S hr e0 hbd rv h.1 fun hr' => ⟨_, hb cdv A outer s H E (by unfold codeOf; rw [lk]) hr' hgd, ?_⟩
  obtain ⟨_, ms, rs, C, k, e, ra, rc, q, fin, exc⟩ := h
  refine ⟨⟨H, ms⟩, _, _, _, RS.begin ra rc, (hP rs C k e q).2, fun x S' σ' cls d H' R xr z => exc x _ cls d H' R.rc R.keep xr z, fun σ' H' ⟨S', R, m, z⟩ => ?_, fun v H' ⟨r, S', σ', R, rr, z⟩ => ?_, fun _ _ ⟨_, _, _, z⟩ => z, fun _ _ ⟨_, _, _, z⟩ => z⟩
  · exact fin (.d .none) .non _ H' R.rc R.keep Dz.non z
  · exact fin r v _ H' R.rc R.keep rr z
/-- a weaker promise -/
theorem FnG.imp {P : Program} {w : World} {K : PySem.W.Frag} {mg : Str → Option Value} {base : Heap} {k n : Nat} {f : Addr} {fd : FuncData} {ps : List Str} {p p' : DP} (F : FnG P w K mg base k f fd ps (spD K n p)) (h : ∀ rs C k e, p' rs C k e → p rs C k e) : FnG P w K mg base k f fd ps (spD K n p') := by
  have g : ∀ vs H Q E, spD K n p' vs H Q E → spD K n p vs H Q E := fun vs H Q E ⟨h0, ms, rs, C, k, e, h1, h2, h3, h4, h5⟩ => ⟨h0, ms, rs, C, k, e, h1, h2, h _ _ _ _ h3, h4, h5⟩
  exact ⟨fun vs H Q E q => F.len vs H Q E (g _ _ _ _ q), fun A outer s H args us vs Q E hr hg he hb hv hs => F.run A outer s H args us vs Q E hr hg he hb hv (g _ _ _ _ hs)⟩
end
end D3
/-! D3h: the law's call behind the top, with tables of code objects. -/
namespace D3
open PySem PySem.Spec PyProof.Rows L2
/-- what a law promises: True for every script of at most 63 ints -/
def lawP : DP := fun rs C k _ => (∃ ns : List Int, ns.length ≤ 63 ∧ (∀ z ∈ ns, Builtin.Int.intBits z ≤ 1048576) ∧ rs = [.d (.list (ns.map .int))]) ∧ C = [] ∧ ∀ C', k (.d (.bool true)) C'
theorem DzA.ofInts {K : PySem.W.Frag} {H : Hp} : ∀ ns : List Int, DzA K H (ns.map V.int) (ns.map .int)
  | [] => .nil
  | n :: ns => .cons (.int n) (DzA.ofInts ns)
abbrev emptyTab : Obj := { cls := .none, data := .fields #[] }
section
variable [Tb] {P : Program} {w : World} {K : PySem.W.Frag} {mg mb : Str → Option Value} {k : Nat} {fa a : Addr} {fd : FuncData} {x : Str} {s1 : Shared} {vs : List Value} {ns : List Int}
/-- the call itself, from an abstract heap that knows the script and the tables at most -/
theorem law_run {H : Hp} {ts : List Addr} (hkb : K.In (hidT s1.heap H)) (hmod : Mod K mg (hidT s1.heap H)) (hg : s1.gens = #[]) (hr : Room k callerA) (F : FnG P w K mg (hidT s1.heap H) k fa fd [x] (spD K 1 lawP)) (hbind : BindsTo s1 fd ⟨[.ref a], []⟩ [(x, .ref a)])
    (hok : HOk P w H s1.heap) (hs : FzL K H a (ns.map V.int)) (hn : ns.length ≤ 63) (hbits : ∀ z ∈ ns, Builtin.Int.intBits z ≤ 1048576) (hO : ∀ b u, H b = some u → b ∈ ts ∨ ∃ o xs, u = .frz o (.lst xs)) (hT : ∀ p ∈ Tb.T, H p.1 = some (.tbl #[]))
    (hts : ∀ b ∈ ts, H b = some (.tbl #[]) ∧ s1.heap.get? b = some emptyTab ∧ ∃ c, PySem.W.CodeHd s1.heap c b) :
    codeAny (model P w) callerA (.call (.ref fa) ⟨[.ref a], []⟩) (fun r s' => r = .ok (.ret (.bool true)) ∧ OldK s1.heap s'.heap ∧ s'.os = s1.os ∧ AllBare s'.gens) s1 := by
  have env : Env0 P w K mg (hidT s1.heap H) callerA [] s1 H :=
    { frames := rfl, mod := hmod, bs := fun b o q => of_hidT q, bsz := Nat.le_of_eq (hidT_size _ _), funs := trivial, frf := fun b hb => absurd hb (List.not_mem_nil), hok := hok, bare := .of_eq hg }
  have promise : spD K 1 lawP [.ref a] H (fun v _ => v = .bl true) fun _ _ _ => False :=
    ⟨rfl, [], [.d (.list (ns.map .int))], [], fun r _ => r = .d (.bool true), fun _ _ => False, .cons (Dz.lst hs (.ofInts ns)) .nil, ⟨rfl, .nil, (fun n b xs e _ => by simp at e), fun p hp => .nil (hT p hp)⟩, ⟨⟨ns, hn, hbits, rfl⟩, rfl, fun _ => rfl⟩,
      fun r v C' H' _ _ rr e => by subst e; exact RR.bool rr, fun _ _ _ _ _ _ _ _ z => z⟩
  refine codeAny_mono (F.run callerA [] s1 H ⟨[.ref a], []⟩ [.ref a] [.ref a] _ _ hr rfl env hbind (.cons rfl .nil) promise) fun r s' h => ?_
  match r, h with
  | .error ev, h =>
    obtain ⟨_, _, _, _, _, _, _, _, _, _, _, _, z⟩ := h
    exact z.elim
  | .ok (.ret u), h =>
    obtain ⟨v, H', os, bare, un, hok', rv, e⟩ := h
    subst e
    cases (show u = Value.bool true from rv)
    have stays : ∀ b o, b ∉ ts → s1.heap.get? b = some o → s'.heap.get? b = some o := fun b o nb q => by
      match hb : H b with
      | none => exact un.keep b o q hb (List.not_mem_nil) (List.not_mem_nil)
      | some u' =>
        rcases hO b u' hb with z | ⟨ob, xs, z⟩
        · exact absurd z nb
        · subst z
          obtain ⟨e1, _⟩ := hok b _ hb
          obtain ⟨e2, _⟩ := hok' b _ (un.frzs b ob _ hb)
          cases q.symm.trans e1
          exact e2
    have grows : ∀ b ∈ ts, ∃ more : Array Value, s'.heap.get? b = some { cls := .none, data := .fields more } := fun b hb => by
      obtain ⟨more, z⟩ := un.tbls b #[] (hts b hb).1
      exact ⟨_, hok' b _ z⟩
    refine ⟨rfl, ⟨fun b o q => ?_, fun b o q => ?_⟩, os, bare⟩
    · by_cases hb : b ∈ ts
      · obtain ⟨more, hm⟩ := grows b hb
        obtain ⟨_, h2, c, h3⟩ := hts b hb
        cases q.symm.trans h2
        exact .inr (.inl ⟨(h3.tab h2).isCodeTable, rfl, #[], more, rfl, by rw [Array.empty_append]; exact hm⟩)
      · exact .inl (stays b o hb q)
    · by_cases hb : b ∈ ts
      · obtain ⟨more, hm⟩ := grows b hb
        exact ⟨_, hm⟩
      · exact ⟨o, stays b o hb q⟩
/-- what K knows of the heap stands also where the script and the tables are set apart -/
theorem law_any {cs : List (Addr × Addr)} (KX : K.In s1.heap) (hns : s1.heap.Ns mainGlobals mg) (hb : s1.heap.Ns builtinsNs mb) (hbb : ∀ y : Str, y ≠ "__name__" → mb y = bootBuiltins y) (hlim : s1.heap.NoLimit) (hg : s1.gens = #[])
    (hT : ∀ p ∈ cs, s1.heap.get? p.2 = some emptyTab) (nT : ∀ p ∈ cs, K.lookup p.2 = none) (hC : ∀ p ∈ cs, PySem.W.CodeHd s1.heap p.1 p.2) (hTb : ∀ p ∈ Tb.T, ∃ c, (c, p.1) ∈ cs)
    (hbm : ∃ (bm : Addr) (ob : Obj), mg "__builtins__" = some (.ref bm) ∧ bm ≠ builtinsNs ∧ s1.heap.get? bm = some ob ∧ ob.cls = .type "module" ∧ ob.dict = some builtinsNs ∧ ob.data = .plain)
    (ha : s1.heap.get? a = some { cls := .type "list", data := .seq vs.toArray }) (hi : IntsAre vs ns) (hn : ns.length ≤ 63) (hbits : ∀ z ∈ ns, Builtin.Int.intBits z ≤ 1048576) (hr : Room k callerA)
    (F : ∀ base : Heap, K.In base → base.Ns mainGlobals mg → (∀ p ∈ cs, LamX.TabB base mg p.1 p.2) → FnG P w K mg base k fa fd [x] (spD K 1 lawP)) (hbind : BindsTo s1 fd ⟨[.ref a], []⟩ [(x, .ref a)]) :
    codeAny (model P w) callerA (.call (.ref fa) ⟨[.ref a], []⟩) (fun r s' => r = .ok (.ret (.bool true)) ∧ OldK s1.heap s'.heap ∧ s'.os = s1.os ∧ AllBare s'.gens) s1 := by
  have hv : Vals (ns.map V.int) vs := vals_ints hi
  have hz : vs.length ≤ sizeLine := by
    have l := hv.length
    rw [List.length_map] at l
    rw [sizeLine_eq]
    omega
  have inTs : ∀ p ∈ cs, p.2 ∈ cs.map (·.2) := fun p hp => List.mem_map.mpr ⟨p, hp, rfl⟩
  have ofTs : ∀ b ∈ cs.map (·.2), ∃ c, (c, b) ∈ cs := fun b hb => by
    obtain ⟨⟨c, b'⟩, hp, e⟩ := List.mem_map.mp hb
    subst e
    exact ⟨c, hp⟩
  have aT : a ∉ cs.map (·.2) := fun z => by
    obtain ⟨c, hc⟩ := ofTs a z
    have q := ha.symm.trans (hT _ hc)
    cases q
  -- the heap's other part, for an H that tracks the script and the tables
  have go : ∀ H : Hp, (∀ b u, H b = some u → (b ∈ cs.map (·.2) ∧ u = .tbl #[]) ∨ (b = a ∧ K.lookup a = none ∧ ∃ o xs, u = .frz o (.lst xs))) → (∀ b ∈ cs.map (·.2), H b = some (.tbl #[])) → HOk P w H s1.heap → FzL K H a (ns.map V.int) →
      codeAny (model P w) callerA (.call (.ref fa) ⟨[.ref a], []⟩) (fun r s' => r = .ok (.ret (.bool true)) ∧ OldK s1.heap s'.heap ∧ s'.os = s1.os ∧ AllBare s'.gens) s1 := by
    intro H at_ hTs hok hs
    have stays : ∀ {b : Addr} {o : Obj}, s1.heap.get? b = some o → b ≠ a ∨ K.lookup a ≠ none → o ≠ emptyTab → (hidT s1.heap H).get? b = some o := fun {b o} q h1 h2 => by
      refine hidT_get q ?_
      match hb : H b with
      | none => rfl
      | some u =>
        rcases at_ b u hb with ⟨z, _⟩ | ⟨z1, z2, _⟩
        · obtain ⟨c, hc⟩ := ofTs b z
          have e := q.symm.trans (hT _ hc)
          exact absurd (Option.some.inj e) h2
        · exact (h1.elim (fun n => n z1) (fun n => n z2)).elim
    have ns_ : ∀ {b : Addr} {m : Str → Option Value}, s1.heap.Ns b m → (hidT s1.heap H).Ns b m := by
      rintro b m ⟨o, es, ep, q, dt, r⟩
      refine ⟨o, es, ep, stays q (.inl fun e => ?_) (fun e => ?_), dt, r⟩
      · subst e
        cases ha.symm.trans q
        cases dt
      · subst e
        cases dt
    have kb : K.In (hidT s1.heap H) := by
      intro b o q
      refine hidT_get (KX b o q) ?_
      match hb : H b with
      | none => rfl
      | some u =>
        rcases at_ b u hb with ⟨z, _⟩ | ⟨rfl, z2, _⟩
        · obtain ⟨c, hc⟩ := ofTs b z
          have e := q.symm.trans (nT _ hc)
          cases e
        · cases z2.symm.trans q
    have TB : ∀ p ∈ cs, LamX.TabB (hidT s1.heap H) mg p.1 p.2 := fun p hp => by
      have hTp := hT p hp
      refine ⟨?_, ?_, fun z => ?_⟩
      · obtain ⟨o, us, file, tf, flags, tg, inF, text, tt, e1, r1, r2, r3, r4, r5, r6, r7, r8, hne⟩ := hC p hp
        refine ⟨o, us, file, tf, flags, tg, inF, text, tt, stays e1 (.inl fun e => ?_) (fun e => ?_), r1, r2, r3, r4, r5, r6, r7, r8, hne⟩
        · rw [e] at e1
          cases ha.symm.trans e1
          cases r2
        · subst e
          cases r1
      · obtain ⟨bm, ob, b1, b2, b3, b4, b5, b6⟩ := hbm
        have nG : bm ≠ mainGlobals := fun q => by
          obtain ⟨o, es, ep, e, hd, _⟩ := hns
          rw [q] at b3
          cases b3.symm.trans e
          cases b6.symm.trans hd
        have nP : bm ≠ p.2 := fun q => by
          rw [q] at b3
          cases b3.symm.trans hTp
          cases b6
        refine ⟨bm, ob, b1, b2, nG, nP, stays b3 (.inl fun e => ?_) (fun e => ?_), b4, b5, b6⟩
        · rw [e] at b3
          cases ha.symm.trans b3
          cases b6
        · subst e
          cases b6
      · obtain ⟨o, es, ep, e, hd, _⟩ := hns
        rw [z] at e
        cases e.symm.trans hTp
        cases hd
    obtain ⟨mc, l1, l2⟩ := hlim
    refine law_run (ts := cs.map (·.2)) kb ⟨kb, ns_ hns, ⟨mb, ns_ hb, hbb⟩, ⟨mc, ns_ l1, l2⟩⟩ hg hr (F _ kb (ns_ hns) TB) hbind hok hs hn hbits (fun b u hb => (at_ b u hb).elim (fun z => .inl z.1) (fun z => .inr z.2.2)) (fun p hp => ?_) fun b hb => ?_
    · obtain ⟨c, hc⟩ := hTb p hp
      exact hTs _ (inTs _ hc)
    · obtain ⟨c, hc⟩ := ofTs b hb
      exact ⟨hTs b hb, hT _ hc, c, hC _ hc⟩
  have tabOk : ∀ b ∈ cs.map (·.2), s1.heap.get? b = some emptyTab := fun b hb => by
    obtain ⟨c, hc⟩ := ofTs b hb
    exact hT _ hc
  match hk : K.lookup a with
  | some o =>
    cases ha.symm.trans (KX a o hk)
    have own : ∀ b u, (fun b => if b ∈ cs.map (·.2) then some (HO.tbl #[]) else none) b = some u → b ∈ cs.map (·.2) ∧ u = .tbl #[] := fun b u z => by
      by_cases hb : b ∈ cs.map (·.2)
      · cases (if_pos hb).symm.trans z
        exact ⟨hb, rfl⟩
      · cases (if_neg hb).symm.trans z
    refine go (fun b => if b ∈ cs.map (·.2) then some (.tbl #[]) else none) (fun b u z => .inl (own b u z)) (fun b hb => if_pos hb) (fun b u z => ?_) (.inr ⟨vs.toArray, _, hk, by simpa using hz, by simpa using hv⟩)
    obtain ⟨h1, rfl⟩ := own b u z
    exact tabOk b h1
  | none =>
    have own : ∀ b u, (fun b => if b = a then some (HO.frz { cls := .type "list", data := .seq vs.toArray } (.lst (ns.map V.int))) else if b ∈ cs.map (·.2) then some (HO.tbl #[]) else none) b = some u → (b ∈ cs.map (·.2) ∧ u = .tbl #[]) ∨ (b = a ∧ u = .frz { cls := .type "list", data := .seq vs.toArray } (.lst (ns.map V.int))) := fun b u z => by
      by_cases hb : b = a
      · cases (if_pos hb).symm.trans z
        exact .inr ⟨hb, rfl⟩
      · have z1 := (if_neg hb).symm.trans z
        by_cases hb2 : b ∈ cs.map (·.2)
        · cases (if_pos hb2).symm.trans z1
          exact .inl ⟨hb2, rfl⟩
        · cases (if_neg hb2).symm.trans z1
    refine go (fun b => if b = a then some (.frz { cls := .type "list", data := .seq vs.toArray } (.lst (ns.map V.int))) else if b ∈ cs.map (·.2) then some (.tbl #[]) else none) (fun b u z => (own b u z).imp id fun ⟨e1, e2⟩ => ⟨e1, hk, _, _, e2⟩)
      (fun b hb => (if_neg (show ¬ b = a from fun z => aT (z ▸ hb))).trans (if_pos hb)) (fun b u z => ?_) (.inl ⟨_, if_pos rfl⟩)
    rcases own b u z with ⟨h1, rfl⟩ | ⟨rfl, rfl⟩
    · exact tabOk b h1
    · exact ⟨ha, by rw [List.length_map]; have l := hv.length; rw [List.length_map] at l; rw [sizeLine_eq]; omega, vs, _, hv, ha⟩
end
/-- what is known of the law's promise at the heap h -/
def LawG (l : PySem.W.OpenLaw) (w : World) (K : PySem.W.Frag) (k : Nat) (x : Str) (mg : Str → Option Value) (fa : Addr) (h : Heap) : Prop :=
  ∃ (fd : FuncData) (T : Tb) (cs : List (Addr × Addr)), (∀ p ∈ cs, h.get? p.2 = some emptyTab) ∧ (∀ p ∈ cs, K.lookup p.2 = none) ∧ (∀ p ∈ cs, PySem.W.CodeHd h p.1 p.2) ∧ (∀ p ∈ T.T, ∃ c, (c, p.1) ∈ cs) ∧ (∀ (s : Shared) (u : Value), BindsTo s fd ⟨[u], []⟩ [(x, u)]) ∧
    ∀ base : Heap, K.In base → base.Ns mainGlobals mg → (∀ p ∈ cs, LamX.TabB base mg p.1 p.2) → FnG l.prog w K mg base k fa fd [x] (spD K 1 lawP)
/-- the goal that k_head leaves, from the law's promise -/
theorem walkG {l : PySem.W.OpenLaw} {k : Nat} {q : Program} {loose : List Str} {XP : (Str → Option Value) → Heap → Prop} {YP : World → Heap → Prop} {d : DefRec} {K : Params → PySem.W.Frag} {x : Str}
    (hn : l.most = some 63) (hdf : d.params.defaults = []) (hr : Room k callerA) (hY : ∀ (w : World) (h : Heap), YP w h → (K w.params).In h)
    (F : ∀ (w : World) (mg : Str → Option Value) (fa : Addr) (h : Heap), YP w h → (K w.params).In h → h.Ns mainGlobals mg → mg d.name = some (.ref fa) → LawG l w (K w.params) k x mg fa h) :
    PySem.W.WalkO q loose XP YP l.row.toRowW d [] (fun f vs => PySem.call f vs) := by
  refine Att.attach_callB hn hdf fun w s0 s1 mg mb fa o pm cd doc a vs ns G Y _ _ _ hmg hobj hints hlen hbits hg => ?_
  obtain ⟨fd, T, cs, c1, c2, c3, c4, hb, hF⟩ := F w mg fa _ Y (hY w _ Y) G.T.g hmg
  exact law_any (hY w _ Y) G.T.g G.T.b G.T.builtins G.T.nolimit hg c1 c2 c3 c4 G.T.bmain hobj hints hlen hbits hr hF (hb s1 _)
end D3
/-! D3i: stores into lists; slices; isinstance; repr. -/
namespace D3
open PySem PySem.Spec PyProof.Rows L2
section
variable [Tb]
section
variable {K : PySem.W.Frag} {B : B3} {σ : L2.St} {H : Hp} {S : S3}
/-- a slot's own list is written -/
theorem RS.putO (R : RS K B σ H S) {i : Nat} {xs ys : List PyData} {a : Addr} {vs ws : List V} (e : S.G[i]? = some (some (.own xs))) (ea : σ[i]? = some (some (.ref a))) (h : H a = some (.lst vs)) (h0 : B.H0 a = none) (hm : a ∉ B.ms) (z : DzA K H ws ys) :
    RS K B σ (upd H a (.lst ws)) { S with G := S.G.set i (some (.own ys)) } ∧ Mono H (upd H a (.lst ws)) := by
  have m : Mono H (upd H a (.lst ws)) := .at_ h nfz_lst
  have hi : i < S.G.length := (List.getElem?_eq_some_iff.mp e).1
  refine ⟨⟨fun j r q => ?_, fun j k p q v ne e1 e2 e3 e4 => ?_, R.cn, R.nd, fun n b p e1 e2 => ?_, fun b u e1 e2 => ?_, by simp [R.len], tabs_at R.tabs h⟩, m⟩
  · rcases set_get q with ⟨rfl, q, _⟩ | ⟨ne, q⟩
    · cases q
      exact ⟨_, ea, a, ws, rfl, upd_same, z.mono m, h0, hm⟩
    · obtain ⟨v, h1, h2⟩ := R.slot j r q
      refine ⟨v, h1, ?_⟩
      cases r with
      | own p =>
        obtain ⟨b, us, q1, q2, q3, q4⟩ := h2
        have hb : b ≠ a := fun zz => by
          subst zz
          exact R.sep i j _ _ _ ne e q ea (by rw [h1, q1])
        exact ⟨b, us, q1, by rw [upd_ne hb]; exact q2, q3.mono m, q4⟩
      | _ => exact h2.mono m (fun _ z => nomatch z)
  · have back : ∀ {j : Nat} {p : List PyData}, (S.G.set i (some (.own ys)))[j]? = some (some (.own p)) → ∃ p', S.G[j]? = some (some (.own p')) := fun {j p} q => by
      rcases set_get q with ⟨rfl, _, _⟩ | ⟨_, q⟩
      · exact ⟨xs, e⟩
      · exact ⟨p, q⟩
    obtain ⟨p1, f1⟩ := back e1
    obtain ⟨p2, f2⟩ := back e2
    exact R.sep j k p1 p2 v ne f1 f2 e3 e4
  · obtain ⟨us, q1, q2⟩ := R.cell n b p e1 e2
    have hb : b ≠ a := fun zz => hm (by rw [← zz]; exact List.mem_of_getElem? e1)
    exact ⟨us, by rw [upd_ne hb]; exact q1, q2.mono m⟩
  · have hb : b ≠ a := fun zz => by
      subst zz
      rw [h0] at e1
      cases e1
    rw [upd_ne hb]
    exact R.keep b u e1 e2
/-- a cell is written -/
theorem RS.putC (R : RS K B σ H S) {n : Nat} {ys : List PyData} {a : Addr} {vs ws : List V} (e : B.ms[n]? = some a) (h : H a = some (.lst vs)) (z : DzA K H ws ys) :
    RS K B σ (upd H a (.lst ws)) { S with C := S.C.set n ys } ∧ Mono H (upd H a (.lst ws)) := by
  have m : Mono H (upd H a (.lst ws)) := .at_ h nfz_lst
  have ha : a ∈ B.ms := List.mem_of_getElem? e
  refine ⟨⟨fun j r q => ?_, R.sep, by simpa using R.cn, R.nd, fun n' b p e1 e2 => ?_, fun b u e1 e2 => ?_, R.len, tabs_at R.tabs h⟩, m⟩
  · obtain ⟨v, h1, h2⟩ := R.slot j r q
    refine ⟨v, h1, ?_⟩
    cases r with
    | own p =>
      obtain ⟨b, us, q1, q2, q3, q4, q5⟩ := h2
      have hb : b ≠ a := fun zz => q5 (zz ▸ ha)
      exact ⟨b, us, q1, by rw [upd_ne hb]; exact q2, q3.mono m, q4, q5⟩
    | _ => exact h2.mono m (fun _ z => nomatch z)
  · by_cases hb : b = a
    · subst hb
      have en : n' = n := by
        obtain ⟨l1, g1⟩ := List.getElem?_eq_some_iff.mp e1
        obtain ⟨l2, g2⟩ := List.getElem?_eq_some_iff.mp e
        exact (List.getElem_inj R.nd).mp (g1.trans g2.symm)
      subst en
      have hl : n' < S.C.length := by
        have := (List.getElem?_eq_some_iff.mp e2).1
        simpa using this
      rw [List.getElem?_set_self hl] at e2
      cases e2
      exact ⟨ws, upd_same, z.mono m⟩
    · have en : n ≠ n' := fun zz => by
        subst zz
        rw [e] at e1
        exact hb (Option.some.inj e1).symm
      rw [List.getElem?_set_ne en] at e2
      obtain ⟨us, q1, q2⟩ := R.cell n' b p e1 e2
      exact ⟨us, by rw [upd_ne hb]; exact q1, q2.mono m⟩
  · have hb : b ≠ a := fun zz => e2 (zz ▸ ha)
    rw [upd_ne hb]
    exact R.keep b u e1 e2
end
section
variable {X : Cx} {W : WX} {e ix : Expr} {es : List Expr} {te ti ta tb : DTE} {x : Str} {i : Nat} {pos p p2 p3 p4 : Pos}
/-- x.append(e), x a list of one's own -/
def dApp (i : Nat) (te : DTE) : DTS := fun D S er => (∃ xs, S.G[i]? = some (some (.own xs))) ∧ te S (fun r S1 => match S1.G[i]?, r with
  | some (some (.own xs)), .d y => xs.length < sizeLine ∧ D.nx { S1 with G := S1.G.set i (some (.own (xs ++ [y]))) }
  | _, _ => False) er
theorem ds_app {c : Expr} (hc : c = .Call (.Attribute (.Name x p) "append" p2) [e] [] p3) (hN : X.N[i]? = some x) (hv : Vis X.env.scope x) (he : DE X W e te) (hs : swapsWith c none pos.line X.env = pure false)
    (hbase : attributeBase (.Name x p) "append" X.env (eval (.Name x p) X.env) = eval (.Name x p) X.env)
    (hfew : ((backTo p3 (starEach (e :: []) X.env)).all (fun x => !x.1) && (backToKw p3 (keywordEach [] X.env)).all (fun x => x.1.isSome) && decide ((e :: []).length + ([] : List Keyword).length + (if ([] : List Keyword).isEmpty then 0 else 1) < 30)) = true)
    (hline : (p2.endLine == p3.line) = true) (h1 : starEach (e :: []) X.env = (false, eval e X.env) :: starEach [] X.env) (hplain : (backTo p3 (starEach [] X.env)).any (·.1) = false)
    (hd : (x == ("__debug__" : Str)) = false) (hcd : (x == ("__classdict__" : Str)) = false) : DS X W (.Expr c pos) (dApp i te) := by
  subst hc
  refine .of (ps_expr (pe_bm PySem.F.plainAttrs_list PySem.F.slot_list_append PySem.F.type_list_append mt_append (pe_var (i := i) hN hv hd hcd) (da_cons (W := W) he da_nil h1) hbase hfew hline h1 hplain) hs) fun σ H B S D er R q hx => ?_
  obtain ⟨⟨xs, e0⟩, q⟩ := q
  obtain ⟨v, hσ, a, vs, rfl, g1, g2, g3, g4⟩ := R.slot i _ e0
  refine ⟨.ref a, hσ, .inl ⟨rfl, _, .of g1⟩, liftA.in (t := dCons te dNil) (k := fun rs S1 => ∃ r, rs = [r] ∧ (match S1.G[i]?, r with
    | some (some (.own xs)), .d y => xs.length < sizeLine ∧ D.nx { S1 with G := S1.G.set i (some (.own (xs ++ [y]))) }
    | _, _ => False)) R (one_arg q fun r S1 => ⟨fun z => ⟨r, rfl, z⟩, fun ⟨r', e', z⟩ => by cases e'; exact z⟩) hx fun us H1 rs S1 R1 m1 rrs q1 => ?_⟩
  obtain ⟨r, rfl, q1⟩ := q1
  obtain ⟨w, rfl, rr⟩ := rrs.one
  split at q1
  · rename_i ys y e1
    obtain ⟨v, hσ', a', vs', rfl, g1, g2, g3, g4⟩ := R1.slot i _ e1
    rw [hσ] at hσ'
    cases hσ'
    obtain ⟨R2, m2⟩ := R1.putO e1 hσ g1 g3 g4 (g2.app (.one rr))
    exact ⟨a, _, w, rfl, rfl, g1, by rw [g2.len]; exact q1.1, _, R2, m1.tr m2, q1.2⟩
  · exact q1.elim
/-- x[j] = e, x a list of one's own or a cell -/
def dPut (i : Nat) (ti te : DTE) : DTS := fun D S er => te S (fun r S1 => hasG S1 i ∧ ti S1 (fun q S2 => match S2.G[i]?, q, r with
  | some (some (.own xs)), .d (.int j), .d y => (match ixN xs.length j with
    | some n => D.nx { S2 with G := S2.G.set i (some (.own (xs.set n y))) }
    | none => False)
  | some (some (.cell c)), .d (.int j), .d y => (match S2.C[c]? with
    | some xs => (match ixN xs.length j with
      | some n => D.nx { S2 with C := S2.C.set c (xs.set n y) }
      | none => False)
    | none => False)
  | _, _, _ => False) er) er
theorem hasG.at_ {K : PySem.W.Frag} {B : B3} {σ : L2.St} {H : Hp} {S : S3} (R : RS K B σ H S) (h : hasG S i) : ∃ v, σ[i]? = some (some v) := by
  unfold hasG at h
  split at h
  · rename_i r e
    obtain ⟨v, q, _⟩ := R.slot i r e
    exact ⟨v, q⟩
  · exact h.elim
theorem ds_put (hN : X.N[i]? = some x) (hv : Vis X.env.scope x) (he : DE X W e te) (hi : DE X W ix ti)
    (hs : swapsWithSole [.Subscript (.Name x p) ix p2] e pos.line X.env = pure false := by rfl) (hw : swappedStores [.Subscript (.Name x p) ix p2] e X.env = pure none := by rfl)
    (h1 : (assignEach [.Subscript (.Name x p) ix p2] X.env).map (·.2) = [assign (.Subscript (.Name x p) ix p2) X.env] := by rfl)
    (ha : ∀ v, assign (.Subscript (.Name x p) ix p2) X.env v = (do
      let ov ← holding [v] (eval (.Name x p) X.env)
      let iv ← holding [v, ov] (eval ix X.env)
      standAt p2
      holding [v, ov, iv] (setItem ov iv v)
      release [v, ov, iv] []) := by intro _; rfl)
    (hd : (x == ("__debug__" : Str)) = false := by decide) (hcd : (x == ("__classdict__" : Str)) = false := by decide) :
    DS X W (.Assign [.Subscript (.Name x p) ix p2] e pos) (dPut i ti te) := by
  refine .of (ps_asg he (pg_sub (pe_var (i := i) hN hv hd hcd) hi set_list ha) hs hw h1) fun σ H B S D er R q hx => liftE.in (t := te) R q hx fun w H1 r S1 R1 m1 rr q1 => ?_
  obtain ⟨hg, q1⟩ := q1
  obtain ⟨v, hσ⟩ := hg.at_ R1
  refine ⟨v, hσ, liftE.in (t := ti) R1 q1 hx fun u H2 y S2 R2 m2 ry q2 => ?_⟩
  replace rr := rr.mono m2
  split at q2
  · rename_i xs j d e1
    cases (show Dz _ _ _ _ from ry)
    obtain ⟨v', hσ', a, vs, rfl, g1, g2, g3, g4⟩ := R2.slot i _ e1
    rw [hσ] at hσ'
    cases hσ'
    split at q2
    · rename_i n en
      obtain ⟨R3, m3⟩ := R2.putO e1 hσ g1 g3 g4 (g2.set n rr)
      exact ⟨a, _, j, n, rfl, rfl, g1, by rw [g2.len]; exact en, _, R3, (m1.tr m2).tr m3, q2⟩
    · exact q2.elim
  · rename_i c j d e1
    cases (show Dz _ _ _ _ from ry)
    obtain ⟨v', hσ', a, ea, rfl⟩ := R2.slot i _ e1
    rw [hσ] at hσ'
    cases hσ'
    split at q2
    · rename_i xs e2
      obtain ⟨vs, g1, g2⟩ := R2.cell c a xs ea e2
      split at q2
      · rename_i n en
        obtain ⟨R3, m3⟩ := R2.putC ea g1 (g2.set n rr)
        exact ⟨a, _, j, n, rfl, rfl, g1, by rw [g2.len]; exact en, _, R3, (m1.tr m2).tr m3, q2⟩
      · exact q2.elim
    · exact q2.elim
  · exact q2.elim

/-! ### isinstance -/
def tyD : PyData → String
  | .none => "NoneType"
  | .bool _ => "bool"
  | .int _ => "int"
  | .str _ => "str"
  | .list _ => "list"
  | .tuple _ => "tuple"
  | .dict _ => "dict"
theorem FzL.ty {K : PySem.W.Frag} {H : Hp} {a : Addr} {xs : List V} (h : FzL K H a xs) : TyX K H (.ref a) (.type "list") := by
  rcases h with ⟨o, h⟩ | ⟨its, n, h, _⟩
  · exact .base (.frz h)
  · exact .kList h rfl
theorem tyD_x {K : PySem.W.Frag} {H : Hp} : ∀ {x : PyData} {v : V}, Dz K H v x → TyX K H v (.type (tyD x))
  | .none, _, h => by cases h; exact .base .non
  | .bool b, _, h => by cases h; exact .base (.bl b)
  | .int i, _, h => by cases h; exact .base (.int i)
  | .str x, _, h => by cases h; exact .base (.str x)
  | .list ds, _, h => by
    cases h with
    | lst h1 _ => exact h1.ty
  | .tuple ds, _, h => by
    cases h with
    | tup h1 _ =>
      rcases h1 with (h1 | ⟨o, h1⟩) | ⟨o, its, n, h1, h2, _⟩
      · exact .base (.tup h1)
      · exact .fTuple h1
      · exact .kTuple h1 h2
  | .dict _, _, h => by
    cases h with
    | dct0 h1 => exact .fDict h1
def gIsi : List SV → (SV → Prop) → Prop := fun rs k => match rs with
  | [.d x, .raw (.ty n)] => (match kitB (tyD x) n with
    | some b => k (.d (.bool b))
    | none => False)
  | _ => False
theorem cIsi : CallD X (.builtin "isinstance") gIsi := .of call_isi fun σ H B S rs vs k R a q => by
  unfold gIsi at q
  split at q
  · obtain ⟨v, w, rfl, z, z'⟩ := a.two
    cases (show w = _ from z')
    split at q
    · rename_i b e
      exact ⟨_, _, _, _, b, rfl, .ty _, tyD_x z, kit_ty e, .d (.bool b), S, R, .rfl, Dz.bl b, rfl, q⟩
    · exact q.elim
  · exact q.elim

/-! ### repr -/
def gRepr : List SV → (SV → Prop) → Prop := fun rs k => match rs with
  | [.d x] => x.hasDict = false ∧ x.showable = true ∧ x.shown.length ≤ sizeLine ∧ x.depth ≤ 60 ∧ k (.d (.str x.shown))
  | _ => False
theorem cRepr (hgd : X.A.guards = some []) (hu : X.A.units + 64 < cLine) : CallD X (.builtin "repr") gRepr := by
  intro pins s σ H B S rs vs us k I R a rv q
  unfold gRepr at q
  split at q
  · rename_i x
    obtain ⟨hno, hs, hz, hd, q⟩ := q
    obtain ⟨v, rfl, z⟩ := a.one
    have z : Dz X.K H v x := z
    obtain ⟨u, rfl, ru⟩ := vals1 rv
    have fin : ∀ (h' : Heap) (u' : Tok) (tk : Nat), (∀ b o, s.heap.get? b = some o → h'.get? b = some o) → EP X pins σ (KD X.K B σ H fun r S' => S' = S ∧ k r) (.str x.shown u') { s with heap := h', toks := tk } := fun h' u' tk kp =>
      ⟨.str x.shown, H, I.kept kp, ⟨_, rfl⟩, .d (.str _), S, R, .rfl, Dz.str _, rfl, q⟩
    have ref : ∀ p, u = .ref p → wpAny (model X.prog X.w) X.A (call (.builtin "repr") [u]) (EP X pins σ (KD X.K B σ H fun r S' => S' = S ∧ k r)) X.xe s := by
      intro p e
      subst e
      obtain ⟨as, rd⟩ := Dp.reads I x v _ (Dz.dp _ _ hno z) ru
      exact PySem.repr_of_reads' rd hs (fun hh => absurd (hno.symm.trans hh) (by decide)) hgd (by omega) (fun b o e => e) (fun h' u' tk kp => fin h' u' tk kp) hz
    cases x with
    | none =>
      cases z
      cases (show u = _ from ru)
      refine PySem.P.repr_of_none ?_
      simpa [PyData.shown] using fin s.heap s.toks (s.toks + 1) fun _ _ e => e
    | bool b =>
      cases z
      cases (show u = _ from ru)
      refine PySem.P.repr_of_bool ?_
      simpa [PyData.shown] using fin s.heap s.toks (s.toks + 1) fun _ _ e => e
    | int i =>
      cases z
      obtain ⟨t, rfl⟩ := (show ∃ t, u = Value.int i t from ru)
      refine PySem.P.repr_of_int (by simpa [PyData.showable] using hs) ?_
      simpa [PyData.shown] using fin s.heap s.toks (s.toks + 1) fun _ _ e => e
    | str y =>
      cases z
      obtain ⟨t, rfl⟩ := (show ∃ t, u = Value.str y t from ru)
      refine PySem.P.repr_of_str ?_ (by simpa [PyData.shown] using hz)
      simpa [PyData.shown] using fin s.heap s.toks (s.toks + 1) fun _ _ e => e
    | list xs =>
      cases z with
      | lst h1 h2 => exact ref _ ru
    | tuple xs =>
      cases z with
      | tup h1 h2 => exact ref _ ru
    | dict kvs => simp [PyData.hasDict] at hno
  · exact q.elim
end
end
end D3
/-! D3j: raise; try with one clause that keeps the exception by a name. -/
namespace D3
open PySem PySem.Spec PyProof.Rows L2
section
variable [Tb]
/-! ### an object that was not tracked is tracked from now on -/
theorem trackInv {X : Cx} {pins : List (Addr × Obj)} {σ : L2.St} {H : Hp} {s : Shared} (I : Inv X pins σ H s) {a : Addr} {o : HO} (na : H a = none) (n0 : X.s_0.heap.get? a = none) (nL : a ≠ X.env.locals) (nC : ∀ x c, X.env.cells.lookup x = some c → c ≠ a)
    (np : ∀ p ∈ X.pn ++ pins, p.1 ≠ a) (new : ObjOk X.prog X.w (upd H a o) s.heap a o) : Inv X pins σ (upd H a o) s := by
  have old : ∀ {b : Addr} {u : HO}, H b = some u → upd H a o b = some u := fun {b u} e => by
    rw [upd_ne (ne_of_none e na)]
    exact e
  refine ⟨I.ok, I.os, I.bare, ⟨I.base.keep, I.base.slot, fun b u e n hx => ?_, I.base.there, fun b xs e => old (I.base.tups b xs e), fun b u v e => old (I.base.frzs b u v e), fun b ps e => ?_⟩, I.loc, I.cell, (upd_ne (Ne.symm nL)).trans I.free, fun x c e => (upd_ne (nC x c e)).trans (I.freeC x c e), fun p hp => ?_, fun b u e => ?_, I.len⟩
  · have hb : b ≠ a := fun z => by
      subst z
      rw [n0] at e
      cases e
    rw [upd_ne hb]
    exact I.base.free b u e n hx
  · obtain ⟨m, q⟩ := I.base.tbls b ps e
    exact ⟨m, old q⟩
  · obtain ⟨h1, h2, h3, h4, h5⟩ := I.pin p hp
    exact ⟨h1, (upd_ne (np p hp)).trans h2, h3, h4, h5⟩
  · by_cases hb : b = a
    · subst hb
      rw [upd_same] at e
      cases e
      exact new
    · rw [upd_ne hb] at e
      exact (I.hok b u e).stay (fun _ _ _ q => q) (fun c q => old q) fun c xs q => old q
/-- what is known of an exception that a name holds -/
abbrev excHO (a : Addr) (cls : Value) (d : Option Addr) : HO := .ext fun h => ∃ oe, h.get? a = some oe ∧ (oe.cls = cls ∧ oe.dict = d) ∧ ∃ vs, oe.data = .fields vs
/-- the class expression of a clause: what it names catches every exception whose class is good -/
def ClauseOk (X : Cx) (ce : Expr) (good : Addr → Prop) : Prop :=
  ∀ (a : Addr) (oe : Obj) (pn : List (Addr × Obj)) (σ : L2.St) (H : Hp) (s : Shared) (C : Addr) (Q : Value → Shared → Prop) (E : Value → Shared → Prop), Inv (X.suite a ((a, oe) :: pn)) [] σ H s → s.heap.get? a = some oe → oe.cls = .ref C → good C →
    (∀ c h', (∀ b o, s.heap.get? b = some o → h'.get? b = some o) → PySem.W.Looks (model X.prog X.w) h' (excMatches (.ref a) c) true → Q c { s with heap := h' }) →
    wpAny (model X.prog X.w) (X.A.mark (some (.ref a))) (eval ce X.env) Q E s
theorem clause_one {X : Cx} {x : Str} {D : Addr} {p : Pos} {good : Addr → Prop} (hg : Gl X x) (hm : X.mg x = some (.ref D)) (h : ∀ C, good C → PySem.W.exmOne X.K (.ref C) (.ref D) = some true) (hd : (x == ("__debug__" : Str)) = false := by decide) : ClauseOk X (.Name x p) good :=
  fun a oe pn σ H s C Q E I e hc g q => ld_glob (X := X.suite a ((a, oe) :: pn)) I hg hm (q _ s.heap (fun _ _ z => z) (PySem.W.exm_one I.kIn (fun A Q E s1 k z => wpAny_typeOf_ref (k _ _ e) (by rw [hc]; exact z)) (h C g))) hd
theorem clause_two {X : Cx} {x y : Str} {D D2 : Addr} {p p2 p3 : Pos} {n : Nat} {good : Addr → Prop} (hg : Gl X x) (hm : X.mg x = some (.ref D)) (hg2 : Gl X y) (hm2 : X.mg y = some (.ref D2))
    (h : ∀ C, good C → PySem.W.exmAny X.K (.ref C) [.ref D, .ref D2] = some true) (hd : (x == ("__debug__" : Str)) = false := by decide) (hd2 : (y == ("__debug__" : Str)) = false := by decide) :
    ClauseOk X (.Tuple [.Name x p, .Name y p2] n p3) good := by
  intro a oe pn σ H s C Q E I e hc g q
  refine Tuple_ ?_
  show wpAny _ _ (spliced [(false, eval (.Name x p) X.env), (false, eval (.Name y p2) X.env)]) _ _ s
  refine Calls.spliced_cons (ld_glob (X := X.suite a ((a, oe) :: pn)) I hg hm ?_ hd)
  refine Calls.spliced_cons (ld_glob (X := X.suite a ((a, oe) :: pn)) I hg2 hm2 ?_ hd2)
  refine Calls.spliced_nil (wpAny_newObj_type ?_ (by show 2 ≤ sizeLine; decide))
  have kp : ∀ b o, s.heap.get? b = some o → (s.heap.push { cls := .type "tuple", data := .seq [Value.ref D, .ref D2].toArray }).get? b = some o := fun b o z => Heap.get?_push_of_some _ z
  exact q _ _ kp (PySem.W.exm_tup2 (I.kIn.keeps kp) (fun A Q E s1 k z => wpAny_typeOf_ref (k _ _ (kp _ _ e)) (by rw [hc]; exact z)) (Heap.get?_push_size _ rfl) (h C g))
theorem clause_three {X : Cx} {x y z : Str} {D D2 D4 : Addr} {p p2 p3 p4 : Pos} {n : Nat} {good : Addr → Prop} (hg : Gl X x) (hm : X.mg x = some (.ref D)) (hg2 : Gl X y) (hm2 : X.mg y = some (.ref D2)) (hg3 : Gl X z) (hm3 : X.mg z = some (.ref D4))
    (h : ∀ C, good C → PySem.W.exmAny X.K (.ref C) [.ref D, .ref D2, .ref D4] = some true) (hd : (x == ("__debug__" : Str)) = false := by decide) (hd2 : (y == ("__debug__" : Str)) = false := by decide) (hd3 : (z == ("__debug__" : Str)) = false := by decide) :
    ClauseOk X (.Tuple [.Name x p, .Name y p2, .Name z p3] n p4) good := by
  intro a oe pn σ H s C Q E I e hc g q
  refine Tuple_ ?_
  show wpAny _ _ (spliced [(false, eval (.Name x p) X.env), (false, eval (.Name y p2) X.env), (false, eval (.Name z p3) X.env)]) _ _ s
  refine Calls.spliced_cons (ld_glob (X := X.suite a ((a, oe) :: pn)) I hg hm ?_ hd)
  refine Calls.spliced_cons (ld_glob (X := X.suite a ((a, oe) :: pn)) I hg2 hm2 ?_ hd2)
  refine Calls.spliced_cons (ld_glob (X := X.suite a ((a, oe) :: pn)) I hg3 hm3 ?_ hd3)
  refine Calls.spliced_nil (wpAny_newObj_type ?_ (by show 3 ≤ sizeLine; decide))
  have kp : ∀ b o, s.heap.get? b = some o → (s.heap.push { cls := .type "tuple", data := .seq [Value.ref D, .ref D2, .ref D4].toArray }).get? b = some o := fun b o z => Heap.get?_push_of_some _ z
  exact q _ _ kp (PySem.W.exm_tup3 (I.kIn.keeps kp) (fun A Q E s1 k z => wpAny_typeOf_ref (k _ _ (kp _ _ e)) (by rw [hc]; exact z)) (Heap.get?_push_size _ rfl) (h C g))
theorem flying_keeps {B : Heap} {l : List Env} {a : Addr} {Z : Obj → Prop} {h h' : Heap} (f : HandSPX.FlyingZ B l a Z h) (k : ∀ b o, h.get? b = some o → h'.get? b = some o) : HandSPX.FlyingZ B l a Z h' := by
  obtain ⟨f1, f2, f3, oe, vs, T, oT, ts, g1, g2, g3, g4, g5, g6, g7, g8, g9⟩ := f
  exact ⟨fun b o e => k b o (f1 b o e), f2, Heap.FunFrames.of_keeps (fun b o e _ => ⟨o, k b o e, rfl⟩) f3, oe, vs, T, oT, ts, k _ _ g1, g2, g3, g4, g5, g6, k _ _ g7, g8, g9⟩
/-- what is wanted of an exception of the body: it is caught, and the name x holds it behind the clause -/
def wLaw (good : Addr → Prop) (i j : Nat) (D : Ends) : WX := fun cls d σ H => (∃ C, cls = .ref C ∧ good C) ∧ ∀ a, H a = none → D.nx (((σ.set i (some (.ref a))).set j (some (.ref a))).set i none) (upd H a (excHO a cls d))
section
variable {X : Cx} {n x : Str} {i j : Nat} {body : List Stmt} {ce : Expr} {p1 p2 p3 p4 p5 : Pos} {good : Addr → Prop}
theorem ps_try_law {tb : WX → TS} (hex : X.ex = []) (hs : X.stack = X.env :: X.outer) (hf : X.env.frame = some X.env.locals) (hN : X.N.Nodup) (hi : X.N[i]? = some n) (hj : X.N[j]? = some x) (hn : X.env.scope.names.lookup n = some .local) (hx : Loc X.env.scope x) (hfx : X.fn x = true ∨ X.env.scope.names.lookup x = some .local)
    (hcl : ClauseOk X ce good) (hd : (n == ("__debug__" : Str)) = false) (hcd : (n == ("__classdict__" : Str)) = false) (hsw : swapsWith (.Name n p2) (some (.Name x p1)) p3.line X.env = pure false)
    (hb : ∀ (W : WX) (pn : List (Addr × Obj)) (xe : Value → Shared → Prop), Takes (X.tr pn xe) W → PassesOwn (model X.prog X.w) X.A X.env xe → PSs (X.tr pn xe) body (tb W)) :
    PS X (.Try body [.ExceptHandler (some ce) (some n) [.Assign [.Name x p1] (.Name n p2) p3] p4] [] [] p5) (fun D σ H => tb (wLaw good i j D) D σ H) := by
  refine ⟨fun pins s σ H D I h => wpAny_Try_except ?_⟩
  have ok := I.ok
  refine wpAny_mono ((hb (wLaw good i j D) (X.pn ++ pins) _ (fun u s' air => ?air) PassesOwn.looking).run [] s σ H D (I.toTry _) h) (fun f s1 hsp => ?fine) (fun e s1 he => he)
  case fine =>
    match f, hsp with
    | .next, ⟨σ1, H1, J, q⟩ => exact wpAny_execs_nil ⟨σ1, H1, J.ofTry ok, q⟩
    | .brk, ⟨σ1, H1, J, q⟩ => exact ⟨σ1, H1, J.ofTry ok, q⟩
    | .cont, ⟨σ1, H1, J, q⟩ => exact ⟨σ1, H1, J.ofTry ok, q⟩
    | .ret v, ⟨w, σ1, H1, J, r, q⟩ => exact ⟨w, σ1, H1, J.ofTry ok, r, q⟩
  case air =>
    obtain ⟨a, G, sI, pins', σ1, H1, cls, d, rfl, J', nG, up, sky, na, os, ag, ⟨C, rfl, gC⟩, want⟩ := air
    have J : Inv X pins σ1 H1 sI := J'.ofTry ok
    have frames : X.A.frames = some (X.env :: X.outer) := ok.frames.trans (by rw [hs])
    show wpAny (model X.prog X.w) X.A (noteFrame (.ref a) X.env) _ _ _
    refine Sky.land Zc.steady frames hf (hs ▸ sky) fun h1 fly1 up1 => ?_
    -- the exception's address is new to the frames, to the state ahead of it, to the entry
    obtain ⟨oe1, vs1, e1, z1, d1⟩ := fly1.there
    have nfr : a ∉ frs (X.env :: X.outer) := fun hm => by
      obtain ⟨_, o', e', hnf⟩ := fly1.2.2.1.mem hm
      cases e1.symm.trans e'
      exact hnf _ d1
    have nL : a ≠ X.env.locals := fun z => nfr (List.mem_filterMap.mpr ⟨X.env, by simp, by rw [hf, z]⟩)
    have nF : a ∉ X.fs := fun hm => by
      obtain ⟨en, h2, h3⟩ := List.mem_filterMap.mp hm
      exact nfr (List.mem_filterMap.mpr ⟨en, by simp [h2], h3⟩)
    have nI : sI.heap.get? a = none := by
      cases q : sI.heap.get? a with
      | none => rfl
      | some o =>
        have q2 := nG a o q (by rw [hs]; exact nfr)
        rw [fly1.2.1] at q2
        cases q2
    have n0 : X.s_0.heap.get? a = none := by
      cases q : X.s_0.heap.get? a with
      | none => rfl
      | some o =>
        obtain ⟨o', q2⟩ := J.base.there a o q (by rw [hex]; exact List.not_mem_nil)
        rw [nI] at q2
        cases q2
    have J1 : Inv X pins σ1 H1 { s' with heap := h1 } := J.landed nG fly1.1 (up.trans up1) os ag
    have S1 := J1.suite e1 d1 na nL nF
    refine wpAny_handleBy_cons (codeAny_handlers_test ?_) (fun q => nomatch q)
    refine hcl a oe1 _ σ1 H1 _ C _ _ S1 e1 z1.1 gC fun c h2 kp lk => lk.here ?_
    have fly2 := flying_keeps fly1 kp
    refine codeAny_handlers_suite_as (HandSPX.lands_againZ fly2 fun h3 fly3 up3 => ?_)
    obtain ⟨oe3, vs3, e3, z3, d3⟩ := fly3.there
    have J3 : Inv X pins σ1 H1 { s' with heap := h3 } := J.landed nG fly3.1 (((up.trans up1).trans (Heap.UpToSlots.of_keeps kp)).trans up3) os ag
    have S3 := J3.suite e3 d3 na nL nF
    refine store_ok (X := X.suite a ((a, oe3) :: (X.pn ++ pins))) (v := .ref a) S3 hN hi (.inl hn) rfl (fun s4 S4 => ?_) (.inr hn)
    -- the suite: x = n
    have suite : PSs (X.suite a ((a, oe3) :: (X.pn ++ pins))) [.Assign [.Name x p1] (.Name n p2) p3] (tAsg (tVar i) (gName j)) :=
      pss_one (ps_set (X := X.suite a ((a, oe3) :: (X.pn ++ pins))) hN hj hx (pe_var (X := X.suite a ((a, oe3) :: (X.pn ++ pins))) hi (.inl hn) hd hcd) hsw hfx)
    have hl : i < σ1.length := by
      rw [J.len]
      exact (List.getElem?_eq_some_iff.mp hi).1
    refine wpAny_mono (suite.run [] s4 _ H1 { nx := fun σ' H' => σ' = (σ1.set i (some (.ref a))).set j (some (.ref a)) ∧ H' = H1, rt := fun _ _ => False } S4 ⟨.ref a, by rw [List.getElem?_set_self hl], rfl, rfl⟩) (fun f s5 hsp => ?_) (fun _ _ z => z.elim)
    match f, hsp with
    | .brk, ⟨_, _, _, q⟩ => exact q.elim
    | .cont, ⟨_, _, _, q⟩ => exact q.elim
    | .ret v, ⟨_, _, _, _, _, q⟩ => exact q.elim
    | .next, ⟨σ5, H5, S5, q1, q2⟩ =>
      subst q1 q2
      have pin5 := S5.pin (a, oe3) (by simp)
      have J5 : Inv X ((a, oe3) :: pins) _ H5 s5 := (S5.unsuite ok).pins_of fun p hp => by
        rcases List.mem_cons.mp hp with z | z
        · rw [z]
          exact ⟨pin5.1, pin5.2.1, nL, nF, pin5.2.2.2.2⟩
        · exact (S5.unsuite ok).pin p (List.mem_append_right _ z)
      refine gone_ok J5 hN hi hn fun s6 J6 => ?_
      have e6 := (J6.pin (a, oe3) (by simp)).1
      have J7 : Inv X pins _ H5 s6 := J6.pins_of fun p hp => J6.pin p (List.mem_append_right _ (List.mem_cons_of_mem _ hp))
      refine ⟨_, _, trackInv (o := excHO a (.ref C) d) J7 na n0 nL (fun y c ec z => ?_) (fun p hp z => ?_) ⟨⟨oe3, e6, z3, vs3, d3⟩, ⟨oe3, e6⟩, fun h8 h9 ⟨o, g1, g2, g3⟩ k => ⟨o, k _ g1, g2, g3⟩⟩, want a na⟩
      · obtain ⟨v, o, ho, _⟩ := J.cell y c ec
        rw [z, nI] at ho
        cases ho
      · have hp' := (J.pin p hp).1
        rw [z, nI] at hp'
        cases hp'
end
end
end D3
/-! D3k: try, raise, isinstance of what was caught; {}; pairs stored by captured names. -/
namespace D3
open PySem PySem.Spec PyProof.Rows L2
section
variable [Tb]
/-! ### a base that holds all that never changes -/
open Classical in
/-- the base, and all of H that never changes -/
noncomputable def B3.fz (B : B3) (H : Hp) : B3 := ⟨fun b => if (∃ o, H b = some o ∧ Fz o) then H b else B.H0 b, B.ms⟩
section
variable {K : PySem.W.Frag} {B : B3} {σ σ' : L2.St} {H H' : Hp} {S S' : S3}
theorem fz_none {a : Addr} (h : (B.fz H).H0 a = none) : B.H0 a = none := by
  unfold B3.fz at h
  simp only at h
  split at h
  · rename_i e
    obtain ⟨o, e1, _⟩ := e
    rw [e1] at h
    cases h
  · exact h
theorem fz_of {a : Addr} {o : HO} (h : H a = some o) (n : ¬ Fz o) : (B.fz H).H0 a = B.H0 a := by
  unfold B3.fz
  simp only
  split
  · rename_i e
    obtain ⟨o', e1, z⟩ := e
    rw [h] at e1
    cases e1
    exact absurd z n
  · rfl
theorem fz_at {a : Addr} {o : HO} (h : H a = some o) (z : Fz o) : (B.fz H).H0 a = some o := by
  unfold B3.fz
  simp only
  rw [if_pos ⟨o, h, z⟩]
  exact h
theorem RS.pushF (R : RS K B σ H S) : RS K (B.fz H) σ H S := by
  refine ⟨fun i r e => ?_, R.sep, R.cn, R.nd, R.cell, fun b o e1 e2 => ?_, R.len, R.tabs⟩
  · obtain ⟨v, h1, h2⟩ := R.slot i r e
    refine ⟨v, h1, ?_⟩
    cases r with
    | own xs =>
      obtain ⟨a, vs, q1, q2, q3, q4, q5⟩ := h2
      exact ⟨a, vs, q1, q2, q3, (fz_of q2 nfz_lst).trans q4, q5⟩
    | _ => exact h2
  · by_cases z : ∃ o, H b = some o ∧ Fz o
    · obtain ⟨o', q, f⟩ := z
      exact ⟨o', q, .inl (Option.some.inj ((fz_at q f).symm.trans e1))⟩
    · refine R.keep b o ?_ e2
      unfold B3.fz at e1
      simp only at e1
      rw [if_neg z] at e1
      exact e1
theorem RS.popF (R0 : RS K B σ H S) (R : RS K (B.fz H) σ' H' S') : RS K B σ' H' S' ∧ Mono H H' := by
  have m : Mono H H' := fun b o z e => by
    have nb : b ∉ B.ms := fun hm => by
      obtain ⟨n, h1⟩ := List.getElem?_of_mem hm
      have hl : n < S.C.length := by
        rw [← R0.cn]
        exact (List.getElem?_eq_some_iff.mp h1).1
      obtain ⟨vs, q, _⟩ := R0.cell n b _ h1 (List.getElem?_eq_getElem hl)
      rw [q] at e
      cases e
      exact nfz_lst z
    obtain ⟨o', q, k⟩ := R.keep b o (fz_at e z) nb
    rw [q, k.eq z.ntbl]
  refine ⟨⟨fun i r e => ?_, R.sep, R.cn, R.nd, R.cell, fun b o e1 e2 => ?_, R.len, R.tabs⟩, m⟩
  · obtain ⟨v, h1, h2⟩ := R.slot i r e
    refine ⟨v, h1, ?_⟩
    cases r with
    | own xs =>
      obtain ⟨a, vs, q1, q2, q3, q4, q5⟩ := h2
      exact ⟨a, vs, q1, q2, q3, fz_none q4, q5⟩
    | _ => exact h2
  · obtain ⟨o1, q1, k1⟩ := R0.keep b o e1 e2
    by_cases z : Fz o1
    · exact ⟨o1, m b o1 z q1, k1⟩
    · exact R.keep b o ((fz_of q1 z).trans e1) e2
end
/-! ### try: .. except (..) as n: x = n -/
def dTryLaw (good : Addr → Prop) (i j : Nat) (t : DTS) : DTS := fun D S _ => t D S fun x S1 => good x.C ∧ D.nx { S1 with G := ((S1.G.set i none).set j (some (.exc x.C x.fs))).set i none }
section
variable {X : Cx} {W : WX} {n x : Str} {i j : Nat} {body : List Stmt} {ce : Expr} {p1 p2 p3 p4 p5 : Pos} {good : Addr → Prop} {t : DTS}
theorem ds_try_law (hex : X.ex = []) (hs : X.stack = X.env :: X.outer) (hf : X.env.frame = some X.env.locals) (hN : X.N.Nodup) (hi : X.N[i]? = some n) (hj : X.N[j]? = some x) (hn : X.env.scope.names.lookup n = some .local) (hx : Loc X.env.scope x) (hfx : X.fn x = true ∨ X.env.scope.names.lookup x = some .local)
    (hcl : ClauseOk X ce good) (hd : (n == ("__debug__" : Str)) = false) (hcd : (n == ("__classdict__" : Str)) = false) (hsw : swapsWith (.Name n p2) (some (.Name x p1)) p3.line X.env = pure false)
    (hb : ∀ (W : WX) (pn : List (Addr × Obj)) (xe : Value → Shared → Prop), Takes (X.tr pn xe) W → PassesOwn (model X.prog X.w) X.A X.env xe → DSs (X.tr pn xe) W body t) :
    DS X W (.Try body [.ExceptHandler (some ce) (some n) [.Assign [.Name x p1] (.Name n p2) p3] p4] [] [] p5) (dTryLaw good i j t) := by
  refine .of (ps_try_law (tb := fun W => liftS X.K W t) hex hs hf hN hi hj hn hx hfx hcl hd hcd hsw hb) fun σ H B S D er R q _ => ?_
  refine ⟨B.fz H, S, D, fun x S1 => good x.C ∧ D.nx { S1 with G := ((S1.G.set i none).set j (some (.exc x.C x.fs))).set i none }, R.pushF, q, fun x S1 σ1 cls d H1 R1 xr q1 => ?_, fun σ1 H1 ⟨S1, R1, _, z⟩ => ?_, fun v H1 ⟨r, S1, σ1, R1, rr, z⟩ => ?_, fun σ1 H1 ⟨S1, R1, _, z⟩ => ?_, fun σ1 H1 ⟨S1, R1, _, z⟩ => ?_⟩
  · obtain ⟨R2, m⟩ := R.popF R1
    refine ⟨⟨x.C, xr.1, q1.1⟩, fun a ha => ?_⟩
    have m2 : Mono H1 (upd H1 a (excHO a cls d)) := .new ha
    obtain ⟨e1, e2, e3⟩ := xr
    subst e1
    refine ⟨_, (((R2.new ha).forget (i := i) (o := some (.ref a))).setD (i := j) (r := .exc x.C x.fs) (v := .ref a) ?_).forget (i := i) (o := none), m.tr m2, q1.2⟩
    refine ⟨a, rfl, d, upd_same, e2, fun hn => ?_⟩
    obtain ⟨dd, vs, f1, f2, f3⟩ := e3 hn
    exact ⟨dd, vs, f1, m2 _ _ (.xd _) f2, fun f y hy => let ⟨v, a, b⟩ := f3 f y hy; ⟨v, a, Dz.mono m2 _ _ b⟩⟩
  · obtain ⟨R2, m⟩ := R.popF R1
    exact ⟨S1, R2, m, z⟩
  · obtain ⟨R2, m⟩ := R.popF R1
    exact ⟨r, S1, σ1, R2, RR.base (B := B.fz H) (B' := B) rfl rr, z⟩
  · obtain ⟨R2, m⟩ := R.popF R1
    exact ⟨S1, R2, m, z⟩
  · obtain ⟨R2, m⟩ := R.popF R1
    exact ⟨S1, R2, m, z⟩
end
/-! ### raise C('..') -/
def dRaise (C : Addr) : DTS := fun _ S e => e ⟨C, []⟩ S
section
variable {X : Cx} {W : WX} {newId initId : String} {bmB : List Value} {Bn : String} {C : Addr} {x m : Str} {j : Nat} {p p2 p3 pos : Pos}
theorem ds_raise (hc : X.calm = true) (tk : Takes X W) (F : ExcBaseFacts Bn newId initId bmB) (q : PySem.W.excIn X.K C bmB newId = true) (gC : X.mg x = some (.ref C)) (kC : PySem.W.keepIn X.K (.ref C) = true) (r : Raises X (.ref C)) (hg : Gl X x)
    (hdb : (x == ("__debug__" : Str)) = false := by decide) : DS X W (.Raise (some (.Call (.Name x p) [.Constant (.str m) j p2] [] pos)) none p3) (dRaise C) :=
  .of (ps_raise hc tk (pmk_own F q gC kC r hg hdb)) fun σ H B S D er R q hx => hx ⟨C, []⟩ S σ (.ref C) none H R ⟨rfl, fun _ => rfl, fun z => absurd rfl z⟩ q
end
/-! ### isinstance of what was caught -/
def gIsiX (K : PySem.W.Frag) : List SV → (SV → Prop) → Prop := fun rs k => match rs with
  | [.exc C [], .raw (.ref D)] => ExcC K C ∧ ∃ b, PySem.W.kitOne K (.ref C) (.ref D) = some b ∧ k (.d (.bool b))
  | [.exc C [], .raw (.ty n)] => ExcC K C ∧ ∃ b, PySem.W.kitOne K (.ref C) (.type n) = some b ∧ k (.d (.bool b))
  | [.d .none, .raw (.ref D)] => ∃ b, PySem.W.kitOne K (.type "NoneType") (.ref D) = some b ∧ k (.d (.bool b))
  | [.d x, .raw (.ty n)] => (match kitB (tyD x) n with
    | some b => k (.d (.bool b))
    | none => False)
  | _ => False
theorem isi_exc {X : Cx} {pins : List (Addr × Obj)} {σ : L2.St} {H : Hp} {s : Shared} {B : B3} {S : S3} {C : Addr} {v : V} {u c : Value} {b : Bool} {k : SV → Prop} (I : Inv X pins σ H s) (R : RS X.K B σ H S) (h : RR X.K B H (.exc C []) v) (ru : RelV v u) (F : ExcC X.K C) (e : PySem.W.kitOne X.K (.ref C) c = some b) (q : k (.d (.bool b))) :
    wpAny (model X.prog X.w) X.A (call (.builtin "isinstance") [u, c]) (EP X pins σ (KD X.K B σ H fun r S' => S' = S ∧ k r)) X.xe s := by
  obtain ⟨a, rfl, d, h1, h2, _⟩ := h
  cases (show u = Value.ref a from ru)
  obtain ⟨⟨oe, g1, ⟨g2, g3⟩, vs, g4⟩, _⟩ := (show ObjOk X.prog X.w H s.heap a (.ext _) from I.hok a _ h1)
  have hd := h2 rfl
  subst hd
  have J : PySem.W.InstAt s.heap a oe C none := by
    obtain ⟨oc, od, oda, osl⟩ := oe
    dsimp only at g2 g3 g4
    subst g2 g3 g4
    exact ⟨g1, rfl, rfl, trivial⟩
  exact PySem.W.kia_one (PySem.W.handS_kitx_exc F.hg F.hk F.hs F.hd F.ha F.hn F.ht F.hm) I.kIn J e (fun z => nomatch z) fun tk => ⟨.bl b, H, I.kept (t' := tk) fun _ _ z => z, rfl, .d (.bool b), S, R, .rfl, Dz.bl b, rfl, q⟩
theorem cIsiX {X : Cx} : CallD X (.builtin "isinstance") (gIsiX X.K) := by
  intro pins s σ H B S rs vs us k I R a rv q
  unfold gIsiX at q
  split at q
  · rename_i C D
    obtain ⟨F, b, e, q⟩ := q
    obtain ⟨v, w, rfl, z, z'⟩ := a.two
    cases (show w = _ from z')
    obtain ⟨u1, u2, rfl, r1, r2⟩ := vals2 rv
    cases (show u2 = Value.ref D from r2)
    exact isi_exc I R z r1 F e q
  · rename_i C n
    obtain ⟨F, b, e, q⟩ := q
    obtain ⟨v, w, rfl, z, z'⟩ := a.two
    cases (show w = _ from z')
    obtain ⟨u1, u2, rfl, r1, r2⟩ := vals2 rv
    cases (show u2 = Value.type n from r2)
    exact isi_exc I R z r1 F e q
  · rename_i D
    obtain ⟨b, e, q⟩ := q
    obtain ⟨v, w, rfl, z, z'⟩ := a.two
    cases (show w = _ from z')
    cases (show Dz _ _ _ _ from z)
    exact call_isi pins s σ H _ us _ I rv ⟨_, _, _, _, b, rfl, .own D, .base .non, e, .d (.bool b), S, R, .rfl, Dz.bl b, rfl, q⟩
  · rename_i x n
    exact cIsi pins s σ H B S _ vs us k I R a rv (by unfold gIsi; exact q)
  · exact q.elim
/-! ### {} -/
def dDct0 : DTE := fun S k _ => k (.d (.dict [])) S
theorem d_dct0 {X : Cx} {W : WX} {pos : Pos} : DE X W (.Dict [] [] pos) dDct0 := by
  refine .mk fun pins s σ H B S k er I R q hx => ?_
  refine thn (pe_dnewK.run pins s σ H (fun v H' => ∃ p, v = .ref p ∧ H p = none ∧ H' = upd H p (.dK [])) I fun p hp => ⟨p, rfl, hp, rfl⟩) fun u s1 ⟨v, H1, I1, rv, p, ev, hp, eH⟩ => ?_
  subst ev eH
  obtain ⟨od, I2⟩ := I1.lock (u := .dK []) upd_same trivial
  have e : upd (upd H p (.dK [])) p (.frz od (.dK [])) = upd H p (.frz od (.dK [])) := by
    funext b
    by_cases hb : b = p
    · subst hb
      rw [upd_same, upd_same]
    · rw [upd_ne hb, upd_ne hb, upd_ne hb]
  rw [e] at I2
  exact ⟨.ref p, _, I2, rv, .d (.dict []), S, R.new hp, .new hp, Dz.dct0 (o := od) upd_same, q⟩
end
end D3
/-! D3l: x(lambda: body), the lambda called once or more in x. -/
namespace D3
open PySem PySem.Spec PyProof.Rows L2
section
variable [Tb]
/-- what changes from H to H' is tables alone -/
def ExtK (H H' : Hp) : Prop := ∀ b o, H b = some o → ∃ o', H' b = some o' ∧ Kp o o'
theorem ExtK.rfl {H : Hp} : ExtK H H := fun _ o e => ⟨o, e, .rfl⟩
theorem ExtK.mono {H H' : Hp} (k : ExtK H H') : Mono H H' := fun b o z e => by
  obtain ⟨o', q, h⟩ := k b o e
  rw [q, h.eq z.ntbl]
theorem ExtK.at_ {H H' : Hp} (k : ExtK H H') {b : Addr} {vs : List V} (e : H b = some (.lst vs)) : H' b = some (.lst vs) := by
  obtain ⟨o', q, h⟩ := k b _ e
  rw [q, h.eq fun p z => nomatch z]
theorem RS.ext {K : PySem.W.Frag} {B : B3} {σ : L2.St} {H H' : Hp} {S : S3} (R : RS K B σ H S) (k : ExtK H H') (t : LamX.Tabs Tb.T H') : RS K B σ H' S := by
  refine ⟨fun i r e => ?_, R.sep, R.cn, R.nd, fun n a xs e1 e2 => ?_, fun b o e1 e2 => ?_, R.len, t⟩
  · obtain ⟨v, h1, h2⟩ := R.slot i r e
    refine ⟨v, h1, ?_⟩
    cases r with
    | own xs =>
      obtain ⟨a, vs, q1, q2, q3, q4⟩ := h2
      exact ⟨a, vs, q1, k.at_ q2, q3.mono k.mono, q4⟩
    | _ => exact h2.mono k.mono (fun _ z => nomatch z)
  · obtain ⟨vs, q1, q2⟩ := R.cell n a xs e1 e2
    exact ⟨vs, k.at_ q1, q2.mono k.mono⟩
  · obtain ⟨o1, q1, k1⟩ := R.keep b o e1 e2
    obtain ⟨o2, q2, k2⟩ := k b o1 q1
    exact ⟨o2, q2, k1.tr k2⟩
section
variable {X : Cx} {pins : List (Addr × Obj)} {σ : L2.St} {H : Hp} {s : Shared}
/-- a lambda is made: its code object is new, or the table tells it; all but tables stays -/
theorem lam_made {c P : Addr} {params : Arguments} {body : Expr} {scope : Scope} {pos : Pos} {E : Value → Shared → Prop} {Q : Value → Shared → Prop} (I : Inv X pins σ H s) (TB : LamX.TabB X.base X.mg c P) (hcode : X.env.code = .ref c)
    (hm : (P, X.env.qual ++ "<lambda>") ∈ Tb.T) (hu : ∀ p ∈ Tb.T, p.1 = P → p.2 = X.env.qual ++ "<lambda>") (hT : LamX.Tabs Tb.T H) (hdef : defaultsOf params X.env = ([], [])) (hfree : ∀ y ∈ scope.names, y.2 = .free → ∃ c, X.env.cells.lookup y.1 = some c)
    (h : ∀ (f co : Addr) (pm ctv : Value) (H1 : Hp) (s1 : Shared), Inv X pins σ H1 s1 → ExtK H H1 → LamX.Tabs Tb.T H1 →
      s1.heap.get? f = some (PySem.W.kla_obj "<lambda>" (X.env.qual ++ "<lambda>") params body scope (cloFrom X.env.cells scope.names []) pm co ctv) → H1 f = none → f ∉ frs X.stack → H1 co = some (LamX.CodeO co (X.env.qual ++ "<lambda>")) → Q (.ref f) s1) :
    wpAny (model X.prog X.w) X.A (eval (.Lambda params body scope pos) X.env) Q E s := by
  obtain ⟨ts, tP, tk3, among⟩ := hT _ hm
  refine PySem.W.kla_eval hdef ?_
  have blt : s.heap.BuiltinsAt X.mg P := TB.bm.keeps I.bk
  have objP : s.heap.get? P = some { cls := .none, data := .fields ts } := I.hok P _ tP
  have offStack : ∀ f, s.heap.objs.size ≤ f → f ∉ frs X.stack := fun f hf z => by
    rcases List.mem_cons.mp (I.stkSub _ z) with e | e
    · have lt1 := I.lt
      rw [← e] at lt1
      exact Nat.lt_irrefl _ (Nat.lt_of_lt_of_le lt1 hf)
    · exact I.nofs hf e
  cases am : codeAmong pos ts.toList with
  | none =>
    refine PySem.W.kla_makeFunction (mg := X.mg) (c := c) (P := P) (ps := ts) (closure_ok hfree) I.ok.glob (I.mod.glob.keeps I.bk) hcode (TB.code.keeps I.bk) objP tk3 am TB.gP blt fun co ctv hp tk same newC ltC rec there => ?_
    obtain ⟨co', oc, flds, tt, e2, hoc, dt, nm⟩ := rec
    cases e2
    have sz : s.heap.objs.size ≤ hp.objs.size := Nat.le_trans newC (Nat.le_of_lt ltC)
    have nC : H co = none := I.hok.fresh newC
    have nPC : P ≠ co := ne_of_none tP nC
    have I1 := LamX.inv_table (t' := tk) (more := #[rawInt pos.line, rawInt pos.col, .ref co]) (h' := hp.push (PySem.W.kla_obj "<lambda>" (X.env.qual ++ "<lambda>") params body scope (cloFrom X.env.cells scope.names []) ((X.mg "__name__").getD .none) co ctv)) I tP
      (fun b o hb e => Heap.get?_push_of_some _ (same b o hb e)) (Heap.get?_push_of_some _ there) newC ⟨oc, flds, tt, Heap.get?_push_of_some _ hoc, dt, nm⟩
    have stays : ∀ b o, H b = some o → (∀ p, o ≠ .tbl p) → upd (upd H P (.tbl (ts ++ #[rawInt pos.line, rawInt pos.col, .ref co]))) co (LamX.CodeO co (X.env.qual ++ "<lambda>")) b = some o := fun b o e n => by
      have nb : b ≠ P := fun z => n ts (Option.some.inj (e.symm.trans (by rw [z]; exact tP)))
      rw [upd_ne (ne_of_none e nC), upd_ne nb]
      exact e
    have lst : (ts ++ #[rawInt pos.line, rawInt pos.col, .ref co]).toList = ts.toList ++ [rawInt pos.line, rawInt pos.col, .ref co] := by simp
    refine h hp.objs.size co ((X.mg "__name__").getD .none) ctv _ _ I1 (fun b o e => ?_) (fun p inT => ?_) (Heap.get?_push_size _ rfl) ?_ (offStack _ sz) upd_same
    · by_cases hb : b = P
      · subst hb
        cases tP.symm.trans e
        exact ⟨_, by rw [upd_ne nPC, upd_same], .inr ⟨_, _, rfl, rfl⟩⟩
      · exact ⟨o, by rw [upd_ne (ne_of_none e nC), upd_ne hb]; exact e, .rfl⟩
    · by_cases hb : p.1 = P
      · rw [hu p inT hb, hb]
        refine ⟨_, by rw [upd_ne nPC, upd_same], by rw [lst]; exact PySem.TriplesOk_snoc _ _ _ _ tk3, fun at_ cv told => ?_⟩
        rw [lst] at told
        rcases LamX.among_app _ tk3 told with z | z
        · obtain ⟨c0, e1, e2⟩ := among at_ cv z
          exact ⟨c0, e1, stays _ _ e2 LamX.codeO_ne⟩
        · exact ⟨co, z, upd_same⟩
      · obtain ⟨ts', a1, a2, a3⟩ := hT p inT
        refine ⟨ts', by rw [upd_ne (ne_of_none a1 nC), upd_ne hb]; exact a1, a2, fun at_ cv told => ?_⟩
        obtain ⟨c0, e1, e2⟩ := a3 at_ cv told
        exact ⟨c0, e1, stays _ _ e2 LamX.codeO_ne⟩
    · have n2 : hp.objs.size ≠ P := Nat.ne_of_gt (Nat.lt_of_lt_of_le (Heap.lt_size objP) sz)
      rw [upd_ne (Nat.ne_of_gt ltC), upd_ne n2]
      exact I.hok.fresh sz
  | some cv =>
    obtain ⟨co, e, hco⟩ := among pos cv am
    subst e
    refine PySem.W.kla_makeFunctionHit (mg := X.mg) (c := c) (P := P) (ps := ts) (closure_ok hfree) I.ok.glob (I.mod.glob.keeps I.bk) hcode (TB.code.keeps I.bk) objP tk3 am blt fun ctv hp tk same sz => ?_
    have I1 : Inv X pins σ H { s with heap := hp.push (PySem.W.kla_obj "<lambda>" (X.env.qual ++ "<lambda>") params body scope (cloFrom X.env.cells scope.names []) ((X.mg "__name__").getD .none) co ctv), toks := tk } := I.kept fun b o e => Heap.get?_push_of_some _ (same b o e)
    exact h hp.objs.size co ((X.mg "__name__").getD .none) ctv H _ I1 .rfl hT (Heap.get?_push_size _ rfl) (I.hok.fresh sz) (offStack _ sz) hco
end
/-! ### the promise of a thing called without arguments -/
abbrev TP := List (List PyData) → (SV → List (List PyData) → Prop) → (Xd → List (List PyData) → Prop) → Prop
def hideOwn (G : List (Option SV)) : List (Option SV) := G.map fun o => match o with
  | some (.own _) => none
  | o => o
theorem hideOwn_get {G : List (Option SV)} {i : Nat} {r : SV} (h : (hideOwn G)[i]? = some (some r)) : G[i]? = some (some r) ∧ ∀ xs, r ≠ .own xs := by
  unfold hideOwn at h
  rw [List.getElem?_map] at h
  cases e : G[i]? with
  | none => rw [e] at h; cases h
  | some o =>
    rw [e] at h
    cases o with
    | none => cases h
    | some q =>
      cases q with
      | own xs => cases h
      | _ => cases h; exact ⟨rfl, fun xs z => nomatch z⟩
/-- the promise of the body te in the state S of the def that made it -/
def thP (S : S3) (te : DTE) : TP := fun C k e => te ⟨hideOwn S.G, C⟩ (fun r S2 => k r S2.C) fun x S2 => e x S2.C
/-- the call of the slot's thing -/
def dThk (T : SV) (P : TP) : DTE := fun S k e => S.G[0]? = some (some T) ∧ P S.C (fun r C' => k r { S with C := C' }) fun x C' => e x { S with C := C' }
/-- slots whose lists are frozen -/
def frz1 (i : Nat) (S : S3) : S3 := match S.G[i]? with
  | some (some (.own xs)) => { S with G := S.G.set i (some (.d (.list xs))) }
  | _ => S
def frzG : List Nat → S3 → S3
  | [], S => S
  | i :: r, S => frzG r (frz1 i S)
theorem frz_run {X : Cx} {pins : List (Addr × Obj)} {σ : L2.St} {s : Shared} {B : B3} : ∀ (fz : List Nat) {H : Hp} {S : S3}, Inv X pins σ H s → RS X.K B σ H S → ∃ H', Inv X pins σ H' s ∧ RS X.K B σ H' (frzG fz S) ∧ Mono H H'
  | [], H, S, I, R => ⟨H, I, R, .rfl⟩
  | i :: r, H, S, I, R => by
    have one : ∃ H', Inv X pins σ H' s ∧ RS X.K B σ H' (frz1 i S) ∧ Mono H H' := by
      unfold frz1
      split
      · rename_i xs e
        obtain ⟨v, hσ, a, vs, rfl, h1, h2, h3, h4⟩ := R.slot i _ e
        obtain ⟨od, I2⟩ := I.lock h1 trivial
        obtain ⟨R2, m, _⟩ := R.freeze (o := od) e hσ h1 h2 h3 h4
        exact ⟨_, I2, R2, m⟩
      · exact ⟨H, I, R, .rfl⟩
    obtain ⟨H1, I1, R1, m1⟩ := one
    obtain ⟨H2, I2, R2, m2⟩ := frz_run r I1 R1
    exact ⟨H2, I2, R2, m1.tr m2⟩
/-- the state of the lambda's maker, seen while the other def runs -/
theorem RS.seen {K : PySem.W.Frag} {B Bz : B3} {σ σz : L2.St} {H HZ : Hp} {S Sz : S3} (R : RS K B σ H S) (Rz : RS K Bz σz HZ Sz) (em : Bz.ms = B.ms) (m : Mono H HZ) : RS K ⟨HZ, B.ms⟩ σ HZ ⟨hideOwn S.G, Sz.C⟩ := by
  refine ⟨fun i r e => ?_, fun i j xs ys v ne e1 _ _ _ => absurd rfl ((hideOwn_get e1).2 xs), ?_, R.nd, fun n a xs e1 e2 => ?_, fun b o e _ => ⟨o, e, .rfl⟩, by simp [hideOwn, R.len], Rz.tabs⟩
  · obtain ⟨q, n⟩ := hideOwn_get e
    obtain ⟨v, h1, h2⟩ := R.slot i r q
    exact ⟨v, h1, (RR.base (B := B) (B' := ⟨HZ, B.ms⟩) rfl (.of (h2.mono m n) n)).sr⟩
  · rw [show (⟨HZ, B.ms⟩ : B3).ms = Bz.ms from em.symm]
    exact Rz.cn
  · refine Rz.cell n a xs ?_ e2
    rw [em]
    exact e1
section
variable {X : Cx} {pins : List (Addr × Obj)} {σ : L2.St} {H : Hp} {s : Shared} {B : B3} {S : S3}
/-- the lambda, called in the def that got it -/
theorem d_act {Eg : XK} {Ng : List Str} {qg : Str} {sg : Scope} {g f co : Addr} {cdg pm ctv : Value} {params : Arguments} {body : Expr} {scope : Scope} {k : Nat} {a : Str} {te : DTE}
    (I : Inv X pins σ H s) (R : RS X.K B σ H S) (L : LamX.LamS X.env.scope scope) (hf : s.heap.get? f = some (PySem.W.kla_obj "<lambda>" (X.env.qual ++ "<lambda>") params body scope (cloFrom X.env.cells scope.names []) pm co ctv)) (hfn : H f = none) (hfr : f ∉ frs X.stack)
    (hbind : bindArgs (PySem.W.kla_fn "<lambda>" (X.env.qual ++ "<lambda>") params body scope (cloFrom X.env.cells scope.names []) pm (.ref co) ctv) ⟨[], []⟩ = pure []) (hr : Room (k + 1) (X.A.deeper (envOfC qg sg s.heap.objs.size g cdg))) (hgd : X.A.guards = some [])
    (hbody : ∀ (A : Around) (outer : List Env) (s : Shared) (H : Hp) (E : XK), Room k (A.deeper (LamX.lamEnv X scope s.heap.objs.size f co)) → A.guards = some [] → DE (LamX.lamCx X A outer s H E scope f co) (fun cls d _ H' => E cls d H') body te)
    (hN : Ng[0]? = some a) (hv : Vis sg a) (hd : (a == ("__debug__" : Str)) = false) (hcd : (a == ("__classdict__" : Str)) = false) {W : WX} {pn : List (Addr × Obj)} {xe : Value → Shared → Prop} {p1 p2 : Pos}
    (tk : Takes ((cxOf (L2.CX X.prog X.w) X.prog X.w X.K X.mg X.base Ng qg sg g cdg X.A X.stack s H Eg).tr pn xe) W) :
    DE ((cxOf (L2.CX X.prog X.w) X.prog X.w X.K X.mg X.base Ng qg sg g cdg X.A X.stack s H Eg).tr pn xe) W (.Call (.Name a p1) [] [] p2) (dThk (.thk f co (X.env.qual ++ "<lambda>") H B.ms) (thP S te)) := by
  refine .mk fun pinsZ sZ σZ HZ Bz Sz kz er IZ RZ q hx => ?_
  obtain ⟨q0, q⟩ := q
  obtain ⟨v, hs, ev, hc, em, mz⟩ := RZ.slot 0 _ q0
  subst ev
  refine wpAny_Call_Name_kw (thn ((pe_var (pos := p1) (i := 0) hN hv hd hcd).run pinsZ sZ σZ HZ (fun v H2 => v = .ref f ∧ H2 = HZ) IZ ⟨.ref f, hs, rfl, rfl⟩) fun u s1 ⟨v, H2, I1, r1, ev, eH⟩ => ?_)
  subst ev eH
  cases (show u = Value.ref f from r1)
  have objF := I1.base.keep f _ hf hfn hfr (fun z => nomatch (show f ∈ ([] : List Addr) from z))
  refine PySem.W.callWith_F0 ⟨_, _, _, _, objF⟩ ?_
  have un : Un (frs X.stack) [] H H2 s.heap s1.heap := I1.base
  obtain ⟨⟨oc, flds, tt, hoc, dt, nm⟩, _, _⟩ := I1.hok co _ hc
  have rc : codeAny (model X.prog X.w) (X.A.deeper (envOfC qg sg s.heap.objs.size g cdg)) (.call (.ref f) ⟨[], []⟩) (CR (L2.CX X.prog X.w) (envOfC qg sg s.heap.objs.size g cdg :: X.stack) X.prog X.w H2 s1 (KD X.K Bz σZ H2 kz) (WE W σZ)) s1 := by
    refine PySem.W.kla_callFunE hr.depth objF rfl L.co L.gen rfl ⟨co, oc, flds, tt, rfl, hoc, dt, nm⟩ ?_
    rw [hbind]
    refine wpAny_pure (wpAny_newFunctionEnv (fun y hy => (L.own y hy).2) (fun y hy => absurd hy (by simp)) (fun hp hns hsb => ⟨I1.nolimit.fresh _ hsb, ?_⟩) L.kind)
    show codeAny _ _ (.expr body (LamX.lamEnv X scope s1.heap.objs.size f co)) _ _
    have kp : ∀ b o, s1.heap.get? b = some o → hp.get? b = some o := fun b o e => hsb.extBut b o (Nat.ne_of_lt (Heap.lt_size e)) (Heap.get?_push_of_some _ e)
    have J : Inv (LamX.lamCx X (X.A.deeper (envOfC qg sg s.heap.objs.size g cdg)) (envOfC qg sg s.heap.objs.size g cdg :: X.stack) s1 H2 (WE W σZ) scope f co) [] σ H2 { s1 with heap := hp, toks := s1.toks + ([] : List (Str × Value)).length } :=
      LamX.lam_start2 I L I1.env0 hr.hd un hns kp
    have RP : RS X.K ⟨H2, B.ms⟩ σ H2 ⟨hideOwn S.G, Sz.C⟩ := R.seen RZ em mz
    have back : ∀ {σ' : L2.St} {H' : Hp} {S' : S3}, RS X.K ⟨H2, B.ms⟩ σ' H' S' → RS X.K Bz σZ H' { Sz with C := S'.C } ∧ Mono H2 H' := fun {σ' H' S'} R' => by
      have kp' : Kept Bz.ms H2 H' := by
        rw [em]
        exact R'.keep
      have rc' : RC X.K Bz.ms H' S'.C := by
        rw [em]
        exact R'.rc
      exact ⟨RZ.after kp' rc', RZ.rc.mono kp'⟩
    refine PySem.W.kla_codeExpr (wpAny_mono ((hbody _ _ s1 H2 (WE W σZ) (hr.deeper _) hgd).go J RP q fun x S' σ' cls d H' R' xr z => ?_) (fun v s' hq => ?_) fun e s' hq => hq)
    · obtain ⟨RB, _⟩ := back R'
      exact hx x _ σZ cls d H' RB xr z
    · obtain ⟨w', H', J', rv, r, S', R', m', rr, z⟩ := hq
      obtain ⟨RB, _⟩ := back R'
      exact ⟨w', H', J'.os, J'.bare, J'.base, J'.hok, rv, r, _, RB, m', RR.base (B := ⟨H2, B.ms⟩) (B' := Bz) em.symm rr, z⟩
  refine wpAny_call (codeAny_mono rc fun r s' hq => ?_)
  have z := endG (passAt tk σZ) I1 hq
  cases r with
  | error e => exact z
  | ok fl =>
    cases fl with
    | ret u => exact z
    | _ => exact z.elim
end
/-! ### x(lambda: body) -/
/-- what a def makes of a thing that it calls -/
abbrev PT1 := TP → DP
def dLamCall (fz : List Nat) (PG : TP → List (List PyData) → (SV → List (List PyData) → Prop) → (Xd → List (List PyData) → Prop) → Prop) (te : DTE) : DTE := fun S k e =>
  PG (thP (frzG fz S) te) (frzG fz S).C (fun r C' => k r { frzG fz S with C := C' }) fun x C' => e x { frzG fz S with C := C' }
section
variable {X : Cx} {W : WX}
theorem d_lamcall {fz : List Nat} {PG : TP → List (List PyData) → (SV → List (List PyData) → Prop) → (Xd → List (List PyData) → Prop) → Prop} {tg : SV → TP → DTS} {x a : Str} {st : Stmt} {g c P : Addr} {gd : FuncData} {k : Nat} {Ng : List Str}
    {params : Arguments} {body : Expr} {scope : Scope} {te : DTE} {p lpos pos : Pos} (hg : Gl X x) (hm : X.mg x = some (.ref g)) (F : Fun X.K x x st g gd) (hb : Binds X.K gd [a] []) (Sg : FnScope Ng [a] (defScope st)) (hNg : Ng[0]? = some a) (hva : Vis (defScope st) a)
    (hG : ∀ (cdv : Value) (s : Shared) (H1 : Hp) (E : XK) (T : SV) (Pt : TP), Room (k + 1) (X.A.deeper (envOfC x (defScope st) s.heap.objs.size g cdv)) → X.A.guards = some [] →
      (∀ (W : WX) (pn : List (Addr × Obj)) (xe : Value → Shared → Prop) (p1 p2 : Pos), Takes ((cxOf (L2.CX X.prog X.w) X.prog X.w X.K X.mg X.base Ng x (defScope st) g cdv X.A X.stack s H1 E).tr pn xe) W →
        DE ((cxOf (L2.CX X.prog X.w) X.prog X.w X.K X.mg X.base Ng x (defScope st) g cdv X.A X.stack s H1 E).tr pn xe) W (.Call (.Name a p1) [] [] p2) (dThk T Pt)) →
      DSs (cxOf (L2.CX X.prog X.w) X.prog X.w X.K X.mg X.base Ng x (defScope st) g cdv X.A X.stack s H1 E) (fun cls d _ H' => E cls d H') (defBody st) (tg T Pt))
    (hP : ∀ Pt C k e T, PG Pt C k e → tg T Pt (defEnds k) ⟨start3 Ng.length [T], C⟩ (defExc e))
    (TB : LamX.TabB X.base X.mg c P) (hcode : X.env.code = .ref c) (hmT : (P, X.env.qual ++ "<lambda>") ∈ Tb.T) (hu : ∀ p ∈ Tb.T, p.1 = P → p.2 = X.env.qual ++ "<lambda>") (hr : Room (k + 2) X.A) (hgd : X.A.guards = some []) (tk : Takes X W)
    (L : LamX.LamS X.env.scope scope) (hdef : defaultsOf params X.env = ([], []))
    (hbind : ∀ (q : Str) (cl : List (Str × Addr)) (pm cv ctv : Value), bindArgs (PySem.W.kla_fn "<lambda>" q params body scope cl pm cv ctv) ⟨[], []⟩ = pure [])
    (hbody : ∀ (A : Around) (outer : List Env) (s : Shared) (H : Hp) (E : XK) (f co : Addr), Room k (A.deeper (LamX.lamEnv X scope s.heap.objs.size f co)) → A.guards = some [] → DE (LamX.lamCx X A outer s H E scope f co) (fun cls d _ H' => E cls d H') body te)
    (hdb : (x == ("__debug__" : Str)) = false := by decide) (hd : (a == ("__debug__" : Str)) = false := by decide) (hcd : (a == ("__classdict__" : Str)) = false := by decide) :
    DE X W (.Call (.Name x p) [.Lambda params body scope lpos] [] pos) (dLamCall fz PG te) := by
  refine .mk fun pins s σ H B S kk er I R q hx => ?_
  obtain ⟨Hf, If, Rf, mf⟩ := frz_run fz I R
  obtain ⟨oc, od, kV, doc, pm, an, cdv, ct, osl, rfl, lk, hcg⟩ := F.ex
  refine wpAny_Call_Name_kw (ld_glob If hg hm ?_ hdb)
  refine PySem.W.callWith_K (h₀ := X.base) If.ok.mod.kin F.kp ?_ (by rfl) (by rfl)
  show wpAny _ _ (spliced ((false, eval (.Lambda params body scope lpos) X.env) :: backTo pos (starEach [] X.env))) _ _ s
  refine Calls.spliced_cons (lam_made If TB hcode hmT hu Rf.tabs hdef (L.has If.ok) fun f co pmv ctv H1 s1 I1 eK T1 hf hfn hfr hco => ?_)
  refine Calls.spliced_nil ⟨I1.kIn, ?_⟩
  have R1 : RS X.K B σ H1 (frzG fz S) := Rf.ext eK T1
  have rc : codeAny (model X.prog X.w) X.A (.call (.ref g) ⟨[.ref f], []⟩) (CR (L2.CX X.prog X.w) X.stack X.prog X.w H1 s1 (KD X.K B σ H kk) (WE W σ)) s1 := by
    refine LamX.run_ofS (N := Ng) (ps := [a]) (us := [.ref f]) (vs := [.ref f]) lk hcg Sg hr I1.env0 (hb s1 [.ref f] I1.kIn rfl) (.cons rfl .nil) rfl fun hr2 => ?_
    refine ⟨_, hG cdv s1 H1 (WE W σ) (.thk f co (X.env.qual ++ "<lambda>") H1 B.ms) (thP (frzG fz S) te) hr2 hgd (fun W2 pn xe p1 p2 tk2 => d_act I1 R1 L hf hfn hfr (hbind _ _ _ _ _) hr2 hgd (fun A outer s H E hr3 hg3 => hbody A outer s H E f co hr3 hg3) hNg hva hd hcd tk2), ?_⟩
    have begin_ : RS X.K ⟨H1, B.ms⟩ (L2.start Ng [.ref f]) H1 ⟨start3 Ng.length [.thk f co (X.env.qual ++ "<lambda>") H1 B.ms], (frzG fz S).C⟩ :=
      RS.begin (.cons (show RR X.K ⟨H1, B.ms⟩ H1 (.thk f co (X.env.qual ++ "<lambda>") H1 B.ms) (.ref f) from ⟨rfl, hco, rfl, .rfl⟩) .nil) R1.rc
    refine ⟨⟨H1, B.ms⟩, _, _, _, begin_, hP _ _ _ _ _ q, fun y S2 σ2 cls d H2 R2 xr z => ?_, fun σ2 H2 ⟨S2, R2, m2, z⟩ => ?_, fun v H2 ⟨r, S2, σ2, R2, rr, z⟩ => ?_, fun _ _ ⟨_, _, _, z⟩ => z, fun _ _ ⟨_, _, _, z⟩ => z⟩
    · exact hx y _ σ cls d H2 (R1.after R2.keep R2.rc) xr z
    · exact ⟨.d .none, _, R1.after R2.keep R2.rc, (mf.tr eK.mono).tr m2, Dz.non, z⟩
    · exact ⟨r, _, R1.after R2.keep R2.rc, (mf.tr eK.mono).tr (R1.rc.mono R2.keep), RR.base (B := ⟨H1, B.ms⟩) (B' := B) rfl rr, z⟩
  refine wpAny_call (codeAny_mono rc fun r s2 hq => ?_)
  have z := endG (passAt tk σ) I1 hq
  cases r with
  | error e => exact z
  | ok fl =>
    cases fl with
    | ret u => exact z
    | _ => exact z.elim
end
end
end D3
/-! D3m: slices; the law's shared cells. -/
namespace D3
open PySem PySem.Spec PyProof.Rows L2
section
variable [Tb]
/-! ### slices -/
def pickL {α : Type} (xs : List α) (lo hi st : Option Int) : List α := (sliceRange (sliceBounds lo hi st xs.length).1 (sliceBounds lo hi st xs.length).2.1 (sliceBounds lo hi st xs.length).2.2).filterMap (xs[·]?)
def cutL {α : Type} (xs : List α) (lo hi : Option Int) : List α := (xs.drop (HT.sIx xs.length 0 lo)).take (HT.sIx xs.length xs.length hi - HT.sIx xs.length 0 lo)
def slD (xs : List PyData) (lo hi st : Option Int) : List PyData := match st with
  | none => cutL xs lo hi
  | some c => pickL xs lo hi (some c)
theorem fm_vals {vs : List V} {its : List Value} (h : Vals vs its) : ∀ is : List Nat, Vals (is.filterMap (vs[·]?)) (is.filterMap (its[·]?))
  | [] => .nil
  | i :: r => by
    have l := h.length
    by_cases hi : i < vs.length
    · have e1 : vs[i]? = some vs[i] := List.getElem?_eq_getElem hi
      have e2 : its[i]? = some its[i] := List.getElem?_eq_getElem (by omega)
      simp only [List.filterMap_cons, e1, e2]
      obtain ⟨u, e3, z⟩ := h.get e1
      rw [e2] at e3
      cases e3
      exact .cons z (fm_vals h r)
    · have e1 : vs[i]? = none := List.getElem?_eq_none (by omega)
      have e2 : its[i]? = none := List.getElem?_eq_none (by omega)
      simp only [List.filterMap_cons, e1, e2]
      exact fm_vals h r
theorem fm_dz {K : PySem.W.Frag} {H : Hp} {vs : List V} {ds : List PyData} (h : DzA K H vs ds) : ∀ is : List Nat, DzA K H (is.filterMap (vs[·]?)) (is.filterMap (ds[·]?))
  | [] => .nil
  | i :: r => by
    cases e2 : ds[i]? with
    | some d =>
      obtain ⟨v, e1, z⟩ := h.get e2
      simp only [List.filterMap_cons, e1, e2]
      exact .cons z (fm_dz h r)
    | none =>
      have e1 : vs[i]? = none := by
        rw [List.getElem?_eq_none_iff] at e2 ⊢
        rw [h.len]
        exact e2
      simp only [List.filterMap_cons, e1, e2]
      exact fm_dz h r
theorem pickL_dz {K : PySem.W.Frag} {H : Hp} {vs : List V} {ds : List PyData} (h : DzA K H vs ds) (lo hi st : Option Int) : DzA K H (pickL vs lo hi st) (pickL ds lo hi st) := by
  unfold pickL
  rw [h.len]
  exact fm_dz h _
theorem cutL_dz {K : PySem.W.Frag} {H : Hp} {vs : List V} {ds : List PyData} (h : DzA K H vs ds) (lo hi : Option Int) : DzA K H (cutL vs lo hi) (cutL ds lo hi) := by
  unfold cutL
  rw [h.len]
  exact (h.drop _).take _
theorem pickL_le {α : Type} (xs : List α) (lo hi st : Option Int) : (pickL xs lo hi st).length ≤ xs.length := by
  have z := slicePick_size_le (List.replicate xs.length Value.none).toArray lo hi st
  unfold slicePick at z
  simp only [List.size_toArray, List.length_replicate, List.getElem?_toArray] at z
  have e : ∀ is : List Nat, (is.filterMap (xs[·]?)).length = (is.filterMap ((List.replicate xs.length Value.none)[·]?)).length := fun is => by
    induction is with
    | nil => rfl
    | cons i r ih =>
      by_cases hi : i < xs.length
      · have e1 : xs[i]? = some xs[i] := List.getElem?_eq_getElem hi
        have e2 : (List.replicate xs.length Value.none)[i]? = some Value.none := by simp [hi]
        simp only [List.filterMap_cons, e1, e2, List.length_cons, ih]
      · have e1 : xs[i]? = none := List.getElem?_eq_none (by omega)
        have e2 : (List.replicate xs.length Value.none)[i]? = none := by simp; omega
        simp only [List.filterMap_cons, e1, e2, ih]
  unfold pickL
  rw [e]
  exact z
abbrev DTO := S3 → (Option Int → S3 → Prop) → ED → Prop
def KO (K : PySem.W.Frag) (B : B3) (σ : L2.St) (H : Hp) (k : Option Int → S3 → Prop) : Option Int → Hp → Prop := fun o H' => ∃ S', RS K B σ H' S' ∧ Mono H H' ∧ k o S'
def liftO (K : PySem.W.Frag) (W : WX) (t : DTO) : TO := fun σ H Q => ∃ B S k e, RS K B σ H S ∧ t S k e ∧ HX K W B e ∧ ∀ o H', KO K B σ H k o H' → Q o H'
def DO (X : Cx) (W : WX) (e : Option Expr) (t : DTO) : Prop := PO X e (liftO X.K W t)
def dNoPart : DTO := fun S k _ => k none S
def dPart (te : DTE) : DTO := fun S k e => te S (fun r S1 => match r with
  | .d (.int i) => k (some i) S1
  | _ => False) e
section
variable {X : Cx} {W : WX} {e : Expr} {lo hi st : Option Expr} {te : DTE} {tl th ts : DTO} {pos p2 : Pos}
theorem do_none : DO X W none dNoPart := ⟨fun pins s σ H Q I ⟨B, S, k, er, R, q, hx, f⟩ => po_none.run pins s σ H Q I (f none H ⟨S, R, .rfl, q⟩)⟩
theorem do_some (h : DE X W e te) : DO X W (some e) (dPart te) := ⟨fun pins s σ H Q I ⟨B, S, k, er, R, q, hx, f⟩ =>
  (po_some h).run pins s σ H Q I (liftE.in (t := te) R q hx fun v H1 r S1 R1 m1 rr q1 => by
    match r, rr, q1 with
    | .d (.int i), rr, q1 =>
      cases (show Dz _ _ _ _ from rr)
      exact ⟨i, rfl, f (some i) H1 ⟨S1, R1, m1, q1⟩⟩)⟩
theorem DO.go (h : DO X W lo tl) {pins : List (Addr × Obj)} {s : Shared} {σ : L2.St} {H : Hp} {B : B3} {S : S3} (I : Inv X pins σ H s) (R : RS X.K B σ H S) {k : Option Int → S3 → Prop} {er : ED} (q : tl S k er) (hx : HX X.K W B er) :
    wpAny (model X.prog X.w) X.A (evalPart lo X.env) (fun u s1 => ∃ o H1, Inv X pins σ H1 s1 ∧ IsPart u o ∧ KO X.K B σ H k o H1) X.xe s := h.run pins s σ H _ I ⟨B, S, k, er, R, q, hx, fun _ _ z => z⟩
/-- the four parts of e[lo:hi:st], then f -/
theorem slice_parts (he : DE X W e te) (hl : DO X W lo tl) (hh : DO X W hi th) (hs : DO X W st ts) {pins : List (Addr × Obj)} {s : Shared} {σ : L2.St} {H : Hp} {B : B3} {S : S3} (I : Inv X pins σ H s) (R : RS X.K B σ H S) {k4 : SV → Option Int → Option Int → Option Int → S3 → Prop} {er : ED}
    (q : te S (fun r S1 => tl S1 (fun a S2 => th S2 (fun b S3 => ts S3 (fun c S4 => k4 r a b c S4) er) er) er) er) (hx : HX X.K W B er) {Q : Value → Shared → Prop}
    (hf : ∀ (v vl vu vs : Value) (s4 : Shared) (r : SV) (x : V) (a b c : Option Int) (H4 : Hp) (S4 : S3), Inv X pins σ H4 { s4 with heap := s4.heap.push { cls := .type "slice", data := .fields #[vl, vu, vs] } } → RS X.K B σ H4 S4 → Mono H H4 → RR X.K B H4 r x → RelV x v → IsPart vl a → IsPart vu b → IsPart vs c → k4 r a b c S4 →
      wpAny (model X.prog X.w) X.A (subscriptTail e (.Slice lo hi st p2) v (.ref s4.heap.objs.size)) Q X.xe { s4 with heap := s4.heap.push { cls := .type "slice", data := .fields #[vl, vu, vs] } }) :
    wpAny (model X.prog X.w) X.A (eval (.Subscript e (.Slice lo hi st p2) pos) X.env) Q X.xe s := by
  refine Subscript_ (thn (he.go I R q hx) fun v s1 ⟨x, H1, I1, r1, r, S1, R1, m1, rr, q1⟩ => ?_)
  refine wpAny_Slice (thn (hl.go I1 R1 q1 hx) fun vl s2 ⟨a, H2, I2, pl, S2, R2, m2, q2⟩ => thn (hh.go I2 R2 q2 hx) fun vu s3 ⟨b, H3, I3, pu, S3, R3, m3, q3⟩ => thn (hs.go I3 R3 q3 hx) fun vs s4 ⟨c, H4, I4, ps, S4, R4, m4, q4⟩ => ?_)
  exact hf v vl vu vs s4 r x a b c H4 S4 (I4.kept (t' := s4.toks) fun b ob q => Heap.get?_push_of_some _ q) R4 (((m1.tr m2).tr m3).tr m4) (rr.mono ((m2.tr m3).tr m4)) r1 pl pu ps q4
theorem sub_ops (o i : Value) : ∃ ops, subscripted (.Slice lo hi st p2) false o i = operate ops (getItem o i) := by
  cases st with
  | none => exact ⟨_, rfl⟩
  | some c => exact ⟨_, rfl⟩
/-- xs[lo:hi:st], a list -/
theorem list_cut {pins : List (Addr × Obj)} {s4 : Shared} {σ : L2.St} {H4 : Hp} {adr : Addr} {vs : List V} {vl vu vt : Value} {a b c : Option Int} {Q : VK} (I : Inv X pins σ H4 { s4 with heap := s4.heap.push { cls := .type "slice", data := .fields #[vl, vu, vt] } }) (h1 : SqL X.K H4 adr vs)
    (pl : IsPart vl a) (pu : IsPart vu b) (ps : IsPart vt c) (hc : c ≠ some 0) (q : ∀ p, H4 p = none → Q (.ref p) (upd H4 p (.lst (pickL vs a b c)))) :
    wpAny (model X.prog X.w) X.A (subscriptTail e (.Slice lo hi st p2) (.ref adr) (.ref s4.heap.objs.size)) (EP X pins σ Q) X.xe { s4 with heap := s4.heap.push { cls := .type "slice", data := .fields #[vl, vu, vt] } } := by
  obtain ⟨its, rv, pl1, hz⟩ := I.list h1
  have hlen := rv.length
  obtain ⟨ops, hop⟩ := sub_ops (lo := lo) (hi := hi) (st := st) (p2 := p2) (.ref adr) (.ref s4.heap.objs.size)
  refine tail_any (ops := ops) pl1.isList.typeIs (PySem.slot_list_getitem.lookup) ?_ hop
  refine wpAny_getItem_list_slice pl1.isList (Heap.IsSliceOf.new _ vl vu vt) pl pu ps hc ?_ (by rw [List.size_toArray]; omega)
  have ep : (slicePick its.toArray a b c) = (pickL its a b c).toArray := by
    unfold slicePick pickL
    simp only [List.size_toArray, List.getElem?_toArray]
  rw [ep]
  refine ⟨.ref _, _, I.laid (t' := s4.toks) (o := .lst (pickL vs a b c)) (fun b ob q => Heap.get?_push_of_some _ q) (Nat.le_refl _) ?_, rfl, q _ (I.hok.fresh (Nat.le_refl _))⟩
  have lp := pickL_le vs a b c
  refine ⟨by omega, _, 0, ?_, Heap.get?_push_size _ rfl⟩
  unfold pickL
  rw [hlen]
  exact fm_vals rv _
theorem pick_cut {α : Type} (xs : List α) (lo hi : Option Int) : pickL xs lo hi none = cutL xs lo hi := by
  obtain ⟨h1, h2, h3⟩ := slice_bounds lo hi xs.length
  have z := pick_run xs.toArray (HT.sIx xs.length 0 lo) (HT.sIx xs.length xs.length hi - HT.sIx xs.length 0 lo)
  simp only [List.getElem?_toArray] at z
  unfold pickL cutL
  rw [h1, h2, h3, sliceRange_one, z]
/-- xs[lo:hi:st] of a list: a new list -/
def dSlL (te : DTE) (tl th ts : DTO) : DTL := fun S k er => te S (fun r S1 => tl S1 (fun a S2 => th S2 (fun b S3 => ts S3 (fun c S4 => match r with
  | .d (.list xs) => c ≠ some 0 ∧ k (pickL xs a b c) S4
  | _ => False) er) er) er) er
theorem d_slL (he : DE X W e te) (hl : DO X W lo tl) (hh : DO X W hi th) (hs : DO X W st ts) : DL X W (.Subscript e (.Slice lo hi st p2) pos) (dSlL te tl th ts) := by
  refine .mk fun pins s σ H B S k er I R q hx => ?_
  refine slice_parts he hl hh hs I R q hx fun v vl vu vs s4 r x a b c H4 S4 I4 R4 m rr rx pl pu ps q4 => ?_
  match r, rr, q4 with
  | .d (.list xs), rr, q4 =>
    cases (show Dz _ _ _ _ from rr) with
    | lst h1 h2 =>
      cases (show v = _ from rx)
      exact list_cut I4 h1.sq pl pu ps q4.1 fun p hp => ⟨_, S4, R4.new hp, m.tr (.new hp), .new R4 hp (pickL_dz h2 a b c), q4.2⟩
/-- x[lo:hi] of a tuple or a text -/
def dSlT (te : DTE) (tl th : DTO) : DTE := fun S k er => te S (fun r S1 => tl S1 (fun a S2 => th S2 (fun b S3 => match r with
  | .d (.tuple xs) => k (.d (.tuple (cutL xs a b))) S3
  | .d (.str z) => z.length ≤ sizeLine ∧ k (.d (.str (cutS z a b))) S3
  | _ => False) er) er) er
theorem none_part {pins : List (Addr × Obj)} {s : Shared} {Q : Value → Shared → Prop} {E : Value → Shared → Prop} (h : Q .none s) : wpAny (model X.prog X.w) X.A (evalPart none X.env) Q E s := by
  rw [evalPart_none]
  exact wpAny_pure h
theorem d_slT (he : DE X W e te) (hl : DO X W lo tl) (hh : DO X W hi th) : DE X W (.Subscript e (.Slice lo hi none p2) pos) (dSlT te tl th) := by
  refine .of (pe_slice (sl_tupA.or sl_str) he hl hh) fun σ H B S k er R q hx => liftE.in (t := te) R q hx fun v H1 r S1 R1 m1 rr q1 => ?_
  refine ⟨B, S1, _, er, R1, q1, hx, fun a H2 ⟨S2, R2, m2, q2⟩ => ?_⟩
  refine ⟨B, S2, _, er, R2, q2, hx, fun b H3 ⟨S3, R3, m3, q3⟩ => ?_⟩
  replace rr := rr.mono (m2.tr m3)
  match r, rr, q3 with
  | .d (.tuple xs), rr, q3 =>
    cases (show Dz _ _ _ _ from rr) with
    | @tup adr vs ds h1 h2 =>
      refine .inl ⟨adr, vs, rfl, h1, fun w => ?_, fun _ p hp => ?_⟩
      · have e : cutL xs a b = xs := by
          unfold cutL
          rw [← h2.len, w.1, w.2]
          simp [h2.len]
        have q3 : k (.d (.tuple (cutL xs a b))) S3 := q3
        rw [e] at q3
        exact ⟨.d (.tuple xs), S3, R3, (m1.tr m2).tr m3, Dz.tup h1 h2, q3⟩
      · exact ⟨.d (.tuple (cutL xs a b)), S3, R3.new hp, ((m1.tr m2).tr m3).tr (.new hp), Dz.tup (.of upd_same) ((cutL_dz h2 a b).mono (.new hp)), q3⟩
  | .d (.str z), rr, q3 =>
    cases (show Dz _ _ _ _ from rr)
    exact .inr ⟨z, rfl, q3.1, .d (.str (cutS z a b)), S3, R3, (m1.tr m2).tr m3, Dz.str _, q3.2⟩
end
/-! ### a shared list is made -/
def noThk (G : List (Option SV)) : List (Option SV) := G.map fun o => match o with
  | some (.thk _ _ _ _ _) => none
  | o => o
theorem noThk_get {G : List (Option SV)} {i : Nat} {r : SV} (h : (noThk G)[i]? = some (some r)) : G[i]? = some (some r) ∧ ∀ f c q H ms, r ≠ .thk f c q H ms := by
  unfold noThk at h
  rw [List.getElem?_map] at h
  cases e : G[i]? with
  | none => rw [e] at h; cases h
  | some o =>
    rw [e] at h
    cases o with
    | none => cases h
    | some q =>
      cases q with
      | thk _ _ _ _ _ => cases h
      | _ => cases h; exact ⟨rfl, fun _ _ _ _ _ z => nomatch z⟩
/-- x = [e, ..], from now on a cell, to the def's end -/
def dCell (i : Nat) (t : DTL) (rest : DTS) : DTS := fun D S e => t S (fun xs S1 => rest { nx := fun _ => False, rt := fun r S2 => (∃ x, r = .d x) ∧ D.rt r { G := S2.G.map fun _ => none, C := S2.C.take S1.C.length } }
  { G := (noThk S1.G).set i (some (.cell S1.C.length)), C := S1.C ++ [xs] } fun _ _ => False) e
section
variable {X : Cx} {W : WX} {e : Expr} {rest : List Stmt} {pos pos' : Pos} {x : Str}
theorem dss_cell {i : Nat} {tl : DTL} {tr : DTS} (hN : X.N.Nodup) (hi : X.N[i]? = some x) (hx : Loc X.env.scope x) (he : DL X W e tl) (hr : DSs X W rest tr) (hs : swapsWith e (some (.Name x pos')) pos.line X.env = pure false := by rfl)
    (hf : X.fn x = true ∨ X.env.scope.names.lookup x = some .local := by first | exact .inl rfl | exact .inr rfl | assumption) : DSs X W (.Assign [.Name x pos'] e pos :: rest) (dCell i tl tr) := by
  refine .of (pss_cons (ps_set hN hi hx he hs hf) hr) fun σ H B S D er R q hx => liftL.in (t := tl) R q hx fun v H1 xs S1 R1 m1 rl q1 => ?_
  obtain ⟨p, vs, rfl, h1, h2, h3, h4, h5⟩ := rl
  have hlen : B.ms.length = S1.C.length := R1.cn
  refine ⟨⟨B.H0, B.ms ++ [p]⟩, _, _, _, ?_, q1, fun _ _ _ _ _ _ _ _ z => z.elim, fun _ _ ⟨_, _, _, z⟩ => z.elim, fun v H2 ⟨r, S2, σ2, R2, rr, ⟨y, ey⟩, z⟩ => ?_, fun _ _ ⟨_, _, _, z⟩ => z.elim, fun _ _ ⟨_, _, _, z⟩ => z.elim⟩
  · have old : ∀ {n : Nat} {a : Addr}, B.ms[n]? = some a → (B.ms ++ [p])[n]? = some a := fun {n a} q => by
      have hl := (List.getElem?_eq_some_iff.mp q).1
      rw [List.getElem?_append_left hl]
      exact q
    have len1 : σ.length = S1.G.length := R1.len.symm
    refine ⟨fun j r q => ?_, fun j k ys zs u ne e1 e2 e3 e4 => ?_, by simp [hlen], ?_, fun n a ys e1 e2 => ?_, fun b o e1 e2 => R1.keep b o e1 (fun z => e2 (by simp [show b ∈ B.ms from z])), by simp [noThk, R1.len], R1.tabs⟩
    · rcases set_get q with ⟨rfl, q, hl⟩ | ⟨ne, q⟩
      · cases q
        have hl2 : i < σ.length := by
          rw [len1]
          simpa [noThk] using hl
        refine ⟨.ref p, by rw [List.getElem?_set_self hl2], p, ?_, rfl⟩
        show (B.ms ++ [p])[S1.C.length]? = some p
        rw [← hlen]
        simp
      · obtain ⟨q, nt⟩ := noThk_get q
        obtain ⟨w, g1, g2⟩ := R1.slot j r q
        refine ⟨w, by rw [List.getElem?_set_ne ne]; exact g1, ?_⟩
        cases r with
        | own ys =>
          obtain ⟨a, ws, q1, q2, q3, q4, q5⟩ := g2
          have ha : a ≠ p := fun zz => h5 j ys q (by rw [g1, q1, zz])
          exact ⟨a, ws, q1, q2, q3, q4, fun z => (List.mem_append.mp z).elim q5 (fun z => ha (List.mem_singleton.mp z))⟩
        | cell n =>
          obtain ⟨a, q1, q2⟩ := g2
          exact ⟨a, old q1, q2⟩
        | thk f c t H3 ms => exact absurd rfl (nt f c t H3 ms)
        | _ => exact g2
    · rcases set_get e1 with ⟨_, q, _⟩ | ⟨n1, e1⟩
      · cases q
      · rcases set_get e2 with ⟨_, q, _⟩ | ⟨n2, e2⟩
        · cases q
        · rw [List.getElem?_set_ne n1] at e3
          rw [List.getElem?_set_ne n2] at e4
          exact R1.sep j k ys zs u ne (noThk_get e1).1 (noThk_get e2).1 e3 e4
    · rw [List.nodup_append]
      exact ⟨R1.nd, by simp, fun a ha b hb => by
        cases List.mem_singleton.mp hb
        exact fun z => h4 (z ▸ ha)⟩
    · by_cases hn : n < B.ms.length
      · rw [show (⟨B.H0, B.ms ++ [p]⟩ : B3).ms = B.ms ++ [p] from rfl, List.getElem?_append_left hn] at e1
        rw [show ({ G := (noThk S1.G).set i (some (.cell S1.C.length)), C := S1.C ++ [xs] } : S3).C = S1.C ++ [xs] from rfl, List.getElem?_append_left (by omega)] at e2
        exact R1.cell n a ys e1 e2
      · have en : n = B.ms.length := by
          have := (List.getElem?_eq_some_iff.mp e1).1
          simp at this
          omega
        subst en
        have ea : p = a := by simpa using e1
        have ex : xs = ys := by
          have z : (S1.C ++ [xs])[B.ms.length]? = some ys := e2
          rw [hlen] at z
          simpa using z
        subst ea ex
        exact ⟨vs, h1, h2⟩
  · subst ey
    refine ⟨.d y, _, σ2, ?_, rr, z⟩
    refine ⟨fun j r q => ?_, fun j k ys zs u ne e1 _ _ _ => ?_, ?_, R1.nd, fun n a ys e1 e2 => ?_, fun b o e1 e2 => ?_, by simp [R2.len], R2.tabs⟩
    · simp at q
    · simp at e1
    · have z2 := R2.cn
      simp at z2
      simp only [List.length_take]
      omega
    · have hn : n < B.ms.length := (List.getElem?_eq_some_iff.mp e1).1
      refine R2.cell n a ys ?_ ?_
      · show (B.ms ++ [p])[n]? = some a
        rw [List.getElem?_append_left hn]
        exact e1
      · have e2 : (S2.C.take S1.C.length)[n]? = some ys := e2
        rw [List.getElem?_take] at e2
        split at e2
        · exact e2
        · cases e2
    · refine R2.keep b o e1 fun zz => ?_
      rcases List.mem_append.mp zz with zz | zz
      · exact e2 zz
      · cases List.mem_singleton.mp zz
        rw [h3] at e1
        cases e1
end
end
end D3
/-! D3n: how readings are computed. -/
namespace D3
open PySem PySem.Spec PyProof.Rows L2
theorem seq_abs {t u : DTS} {D : DEnds} {S : S3} {e : ED} (h : ∀ v : DTS, v = u → t { D with nx := fun S1 => v D S1 e } S e) : dSeq t u D S e := h u rfl
theorem ends_nx {k : SV → List (List PyData) → Prop} {S : S3} : (defEnds k).nx S = k (.d .none) S.C := rfl
theorem ends_rt {k : SV → List (List PyData) → Prop} {r : SV} {S : S3} : (defEnds k).rt r S = k r S.C := rfl
theorem exc_at {e : Xd → List (List PyData) → Prop} {x : Xd} {S : S3} : defExc e x S = e x S.C := rfl
theorem iteB_iff {b : Bool} {P Q : Prop} : iteB b P Q ↔ (b = true → P) ∧ (b = false → Q) := by
  cases b
  · exact ⟨fun h => ⟨nofun, fun _ => h⟩, fun h => h.2 rfl⟩
  · exact ⟨fun h => ⟨fun _ => h, nofun⟩, fun h => h.1 rfl⟩
theorem sh_int {i : Int} : SeqAt.shaped (.int i) = true := by simp [SeqAt.shaped, PyData.canLay0, PyData.depth]
theorem sh_bool {b : Bool} : SeqAt.shaped (.bool b) = true := by simp [SeqAt.shaped, PyData.canLay0, PyData.depth]
theorem sh_none : SeqAt.shaped .none = true := by simp [SeqAt.shaped, PyData.canLay0, PyData.depth]
theorem eqv_int {i j : Int} : PyData.eqv (.int i) (.int j) = (i == j) := by simp [PyData.eqv]
theorem eqv_bool {i j : Bool} : PyData.eqv (.bool i) (.bool j) = (i == j) := by simp [PyData.eqv]
theorem eqv_str {i j : Str} : PyData.eqv (.str i) (.str j) = (i == j) := by simp [PyData.eqv]
theorem eqv_list {i j : List PyData} : PyData.eqv (.list i) (.list j) = PyData.eqvAll i j := by simp [PyData.eqv]
theorem eqv_tuple {i j : List PyData} : PyData.eqv (.tuple i) (.tuple j) = PyData.eqvAll i j := by simp [PyData.eqv]
theorem eqv_nil : PyData.eqvAll [] [] = true := by simp [PyData.eqvAll]
theorem eqv_cons {a b : PyData} {r s : List PyData} : PyData.eqvAll (a :: r) (b :: s) = (PyData.eqv a b && PyData.eqvAll r s) := by simp [PyData.eqvAll]
mutual
theorem eqv_refl : ∀ d : PyData, d.hasDict = false → PyData.eqv d d = true
  | .none, _ => by simp [PyData.eqv]
  | .bool _, _ => by simp [PyData.eqv]
  | .int _, _ => by simp [PyData.eqv]
  | .str _, _ => by simp [PyData.eqv]
  | .list xs, h => by
    rw [eqv_list]
    exact eqv_reflAll xs (by simpa [PyData.hasDict] using h)
  | .tuple xs, h => by
    rw [eqv_tuple]
    exact eqv_reflAll xs (by simpa [PyData.hasDict] using h)
  | .dict _, h => by simp [PyData.hasDict] at h
theorem eqv_reflAll : ∀ ds : List PyData, PyData.hasDictAll ds = false → PyData.eqvAll ds ds = true
  | [], _ => by simp [PyData.eqvAll]
  | d :: r, h => by
    have z : d.hasDict = false ∧ PyData.hasDictAll r = false := by simpa [PyData.hasDictAll] using h
    rw [eqv_cons, eqv_refl d z.1, eqv_reflAll r z.2]
    rfl
end
theorem szl : sizeLine = 16777216 := sizeLine_eq
/-! ### isinstance of data -/
def qInt : PyData → Bool
  | .int _ => true
  | .bool _ => true
  | _ => false
def qBool : PyData → Bool
  | .bool _ => true
  | _ => false
def qStr : PyData → Bool
  | .str _ => true
  | _ => false
def qLst : PyData → Bool
  | .list _ => true
  | _ => false
def qTup : PyData → Bool
  | .tuple _ => true
  | _ => false
def qDct : PyData → Bool
  | .dict _ => true
  | _ => false
theorem kb_int (y : PyData) : kitB (tyD y) "int" = some (qInt y) := by cases y <;> simp only [tyD, qInt] <;> decide +kernel
theorem kb_bool (y : PyData) : kitB (tyD y) "bool" = some (qBool y) := by cases y <;> simp only [tyD, qBool] <;> decide +kernel
theorem kb_str (y : PyData) : kitB (tyD y) "str" = some (qStr y) := by cases y <;> simp only [tyD, qStr] <;> decide +kernel
theorem kb_list (y : PyData) : kitB (tyD y) "list" = some (qLst y) := by cases y <;> simp only [tyD, qLst] <;> decide +kernel
theorem kb_tuple (y : PyData) : kitB (tyD y) "tuple" = some (qTup y) := by cases y <;> simp only [tyD, qTup] <;> decide +kernel
theorem kb_dict (y : PyData) : kitB (tyD y) "dict" = some (qDct y) := by cases y <;> simp only [tyD, qDct] <;> decide +kernel
theorem isi_ty {K : PySem.W.Frag} {x : PyData} {n : String} {k : SV → Prop} {b : Bool} (h : kitB (tyD x) n = some b) : gIsiX K [.d x, .raw (.ty n)] k ↔ k (.d (.bool b)) := by
  cases x <;> simp only [gIsiX] <;> simp only [h]
theorem is_int {K : PySem.W.Frag} {x : PyData} {k : SV → Prop} : gIsiX K [.d x, .raw (.ty "int")] k ↔ k (.d (.bool (qInt x))) := isi_ty (kb_int x)
theorem is_bool {K : PySem.W.Frag} {x : PyData} {k : SV → Prop} : gIsiX K [.d x, .raw (.ty "bool")] k ↔ k (.d (.bool (qBool x))) := isi_ty (kb_bool x)
theorem is_str {K : PySem.W.Frag} {x : PyData} {k : SV → Prop} : gIsiX K [.d x, .raw (.ty "str")] k ↔ k (.d (.bool (qStr x))) := isi_ty (kb_str x)
theorem is_list {K : PySem.W.Frag} {x : PyData} {k : SV → Prop} : gIsiX K [.d x, .raw (.ty "list")] k ↔ k (.d (.bool (qLst x))) := isi_ty (kb_list x)
theorem is_tuple {K : PySem.W.Frag} {x : PyData} {k : SV → Prop} : gIsiX K [.d x, .raw (.ty "tuple")] k ↔ k (.d (.bool (qTup x))) := isi_ty (kb_tuple x)
theorem is_dict {K : PySem.W.Frag} {x : PyData} {k : SV → Prop} : gIsiX K [.d x, .raw (.ty "dict")] k ↔ k (.d (.bool (qDct x))) := isi_ty (kb_dict x)
/-- and, or of bools -/
theorem andV_iff {b : Bool} {P : Prop} {Q : SV → S3 → Prop} {S : S3} : (match (SV.d (.bool b)) with
  | .d (.bool true) => P
  | .d (.bool false) => Q (.d (.bool false)) S
  | _ => False) ↔ iteB b P (Q (.d (.bool false)) S) := by cases b <;> rfl
theorem dAndV_eq {t u : DTE} {S : S3} {k : SV → S3 → Prop} {e : ED} : dAndV t u S k e = t S (fun r S1 => match r with
  | .d (.bool b) => iteB b (u S1 k e) (k (.d (.bool false)) S1)
  | _ => False) e := by
  unfold dAndV
  congr 1
  funext r S1
  cases r with
  | d x =>
    cases x with
    | bool b => cases b <;> rfl
    | _ => rfl
  | _ => rfl
theorem dOrV_eq {t u : DTE} {S : S3} {k : SV → S3 → Prop} {e : ED} : dOrV t u S k e = t S (fun r S1 => match r with
  | .d (.bool b) => iteB b (k (.d (.bool true)) S1) (u S1 k e)
  | _ => False) e := by
  unfold dOrV
  congr 1
  funext r S1
  cases r with
  | d x =>
    cases x with
    | bool b => cases b <;> rfl
    | _ => rfl
  | _ => rfl
/-! ### sizes -/
theorem log2_of {n a : Nat} (h : n < 2 ^ a) : n.log2 < a ∨ n = 0 := by
  by_cases z : n = 0
  · exact .inr z
  · exact .inl ((Nat.log2_lt z).mpr h)
theorem log2_le_of {n a : Nat} (h : n < 2 ^ (a + 1)) : n.log2 ≤ a := by
  rcases log2_of h with z | z
  · omega
  · subst z
    simp
theorem mulOk {i j : Int} {a b : Nat} (h1 : i.natAbs < 2 ^ (a + 1)) (h2 : j.natAbs < 2 ^ (b + 1)) (h : a + b < 1000000) : MulOk i j := by
  have l1 := log2_le_of h1
  have l2 := log2_le_of h2
  unfold MulOk
  omega
theorem divOk {i j : Int} {a : Nat} (h0 : j ≠ 0) (h1 : j.natAbs < 2 ^ (a + 1)) (h : a < 9000) : DivOk i j := by
  have l1 := log2_le_of h1
  exact ⟨h0, by omega⟩
theorem powOk {i j : Int} {a : Nat} (h0 : 0 ≤ j) (h1 : i.natAbs < 2 ^ (a + 1)) (h : ((a + 1 : Nat) : Int) * j ≤ 134217728) : PowOk i j := by
  have l1 := log2_le_of h1
  refine ⟨h0, Int.le_trans (Int.mul_le_mul_of_nonneg_right (by omega) h0) h⟩
/-! ### loops -/
theorem loop_all {g : DTG} {tb : DTS} {D : DEnds} {e : ED} (I : List PyData → S3 → Prop) (h0 : ∀ S, I [] S → D.nx S) (hs : ∀ x xs S (N : S3 → Prop), I (x :: xs) S → (∀ S1, I xs S1 → N S1) → g x S fun S1 => tb { D with nx := N, ct := N, bk := D.nx } S1 e) : ∀ xs S, I xs S → dLoop g tb D e xs S
  | [], S, h => h0 S h
  | x :: xs, S, h => hs x xs S _ h (loop_all I h0 hs xs)
theorem while_of {tc : DTT} {tb : DTS} {D : DEnds} {S : S3} {e : ED} (I : Nat → S3 → Prop) (m : Nat) (h : I m S) (hs : ∀ m S (N : S3 → Prop), I m S → (∀ S1 m1, m1 < m → I m1 S1 → N S1) →
    tc S (fun b S1 => iteB b (tb { D with nx := N, ct := N, bk := D.nx } S1 e) (D.nx S1)) e) : dWhile tc tb D S e :=
  ⟨I, ⟨m, h⟩, fun m S i => hs m S _ i fun S1 m1 l z => ⟨m1, l, z⟩⟩
theorem set_nn {α : Type} {l : List α} {n : Nat} {x y : α} : (l.set n x).set n y = l.set n y := by simp
/-- an item by its place, from the left -/
theorem atK_nat {xs : List PyData} {i : Int} {n : Nat} {d : PyData} {k : SV → Prop} (hi : i = (n : Int)) (h : xs[n]? = some d) (q : k (.d d)) : atK xs i k := by
  have hn : n < xs.length := (List.getElem?_eq_some_iff.mp h).1
  have e : atI xs i = some d := by
    subst hi
    exact atI_nat h
  unfold atK
  rw [e]
  exact q
theorem at_iff {xs : List PyData} {i : Int} {n : Nat} {d : PyData} {k : SV → Prop} (hi : i = (n : Int)) (h : xs[n]? = some d) : atK xs i k ↔ k (.d d) := by
  have e : atI xs i = some d := by
    subst hi
    exact atI_nat h
  unfold atK
  rw [e]
theorem at_0 {a0 : PyData} {r : List PyData} {k : SV → Prop} : atK (a0 :: r) 0 k ↔ k (.d a0) := at_iff (n := 0) rfl rfl
theorem at_1 {a0 a1 : PyData} {r : List PyData} {k : SV → Prop} : atK (a0 :: a1 :: r) 1 k ↔ k (.d a1) := at_iff (n := 1) rfl rfl
theorem at_2 {a0 a1 a2 : PyData} {r : List PyData} {k : SV → Prop} : atK (a0 :: a1 :: a2 :: r) 2 k ↔ k (.d a2) := at_iff (n := 2) rfl rfl
theorem at_3 {a0 a1 a2 a3 : PyData} {r : List PyData} {k : SV → Prop} : atK (a0 :: a1 :: a2 :: a3 :: r) 3 k ↔ k (.d a3) := at_iff (n := 3) rfl rfl
theorem at_4 {a0 a1 a2 a3 a4 : PyData} {r : List PyData} {k : SV → Prop} : atK (a0 :: a1 :: a2 :: a3 :: a4 :: r) 4 k ↔ k (.d a4) := at_iff (n := 4) rfl rfl
theorem at_5 {a0 a1 a2 a3 a4 a5 : PyData} {r : List PyData} {k : SV → Prop} : atK (a0 :: a1 :: a2 :: a3 :: a4 :: a5 :: r) 5 k ↔ k (.d a5) := at_iff (n := 5) rfl rfl
theorem at_6 {a0 a1 a2 a3 a4 a5 a6 : PyData} {r : List PyData} {k : SV → Prop} : atK (a0 :: a1 :: a2 :: a3 :: a4 :: a5 :: a6 :: r) 6 k ↔ k (.d a6) := at_iff (n := 6) rfl rfl
theorem at_7 {a0 a1 a2 a3 a4 a5 a6 a7 : PyData} {r : List PyData} {k : SV → Prop} : atK (a0 :: a1 :: a2 :: a3 :: a4 :: a5 :: a6 :: a7 :: r) 7 k ↔ k (.d a7) := at_iff (n := 7) rfl rfl
theorem ix_10 : ixN 1 0 = some 0 := by decide
theorem at_map {ns : List Int} {i : Int} {k : SV → Prop} (h0 : 0 ≤ i) (h1 : i < (ns.length : Int)) (hk : ∀ z ∈ ns, k (.d (.int z))) : atK (ns.map .int) i k := by
  have hn : i.toNat < ns.length := by omega
  refine atK_nat (n := i.toNat) (d := .int ns[i.toNat]) (by omega) ?_ (hk _ (List.getElem_mem hn))
  rw [List.getElem?_map, List.getElem?_eq_getElem hn]
  rfl
end D3
/-! D3o: repr of data without texts and dicts. -/
namespace D3
open PySem PySem.Spec PyProof.Rows L2
mutual
def rOk : PyData → Prop
  | .none => True
  | .bool _ => True
  | .int i => i.natAbs.log2 < 1920
  | .str _ => False
  | .list xs => rOkAll xs
  | .tuple xs => rOkAll xs
  | .dict _ => False
def rOkAll : List PyData → Prop
  | [] => True
  | x :: xs => rOk x ∧ rOkAll xs
end
mutual
def szR : PyData → Nat
  | .none => 4
  | .bool _ => 5
  | .int _ => 1921
  | .str _ => 0
  | .list xs => 2 + szRAll xs
  | .tuple xs => 4 + szRAll xs
  | .dict _ => 0
def szRAll : List PyData → Nat
  | [] => 0
  | x :: xs => szR x + 2 + szRAll xs
end
theorem from_le : ∀ (ts : List Str) (k : Nat) (acc : Str), (textFrom k acc ts).length ≤ acc.length + (ts.map fun t => t.length + 2).sum
  | [], k, acc => by
    show acc.length ≤ _
    simp
  | t :: r, k, acc => by
    have ih := from_le r (k + 1) (acc ++ (if k > 0 then ", " else "" : String) ++ t)
    show (textFrom (k + 1) (acc ++ (if k > 0 then ", " else "" : String) ++ t) r).length ≤ _
    have e1 : (Str.ofString (if k > 0 then ", " else "" : String)).length ≤ 2 := by split <;> decide
    have e : (acc ++ (if k > 0 then ", " else "" : String) ++ t).length ≤ acc.length + 2 + t.length := by
      rw [Str.length_append, Str.length_append]
      omega
    simp only [List.map_cons, List.sum_cons]
    omega
theorem join_le : ∀ ts : List Str, (Str.join ", " ts).length ≤ (ts.map fun t => t.length + 2).sum
  | [] => by
    show (Str.join ", " []).length ≤ 0
    exact Nat.le_of_eq rfl
  | [x] => by
    show x.length ≤ _
    simp
  | x :: y :: r => by
    have ih := join_le (y :: r)
    show (x ++ ", " ++ Str.join ", " (y :: r)).length ≤ _
    have e2 : ((", " : String) : Str).length = 2 := rfl
    rw [Str.length_append, Str.length_append, e2]
    rw [List.map_cons, List.sum_cons]
    omega
mutual
theorem shown_le : ∀ d : PyData, rOk d → d.shown.length ≤ szR d
  | .none, _ => by
    simp only [PyData.shown, szR]
    decide
  | .bool b, _ => by
    simp only [PyData.shown, szR]
    cases b <;> decide
  | .int i, h => by
    simp only [rOk] at h
    simp only [PyData.shown, szR]
    exact int_text_len_1921 h
  | .str _, h => by simp only [rOk] at h
  | .dict _, h => by simp only [rOk] at h
  | .list xs, h => by
    simp only [rOk] at h
    have z := shownAll_le xs h
    simp only [PyData.shown, szR]
    unfold listText
    have f := from_le (PyData.shownAll xs) 0 "["
    have e1 : ((("[" : String) : Str)).length = 1 := rfl
    have e2 : ((("]" : String) : Str)).length = 1 := rfl
    rw [Str.length_append, e2]
    omega
  | .tuple xs, h => by
    simp only [rOk] at h
    have z := shownAll_le xs h
    simp only [PyData.shown, szR]
    unfold tupleText
    have f := join_le (PyData.shownAll xs)
    have e1 : ((("(" : String) : Str)).length = 1 := rfl
    have e2 : (Str.ofString (if (PyData.shownAll xs).length == 1 then ",)" else ")" : String)).length ≤ 2 := by split <;> decide
    rw [Str.length_append, Str.length_append, e1]
    omega
theorem shownAll_le : ∀ ds : List PyData, rOkAll ds → ((PyData.shownAll ds).map fun t => t.length + 2).sum ≤ szRAll ds
  | [], _ => by simp [PyData.shownAll, szRAll]
  | d :: r, h => by
    simp only [rOkAll] at h
    have a := shown_le d h.1
    have b := shownAll_le r h.2
    simp only [PyData.shownAll, szRAll, List.map_cons, List.sum_cons]
    omega
end
mutual
theorem rOk_show : ∀ d : PyData, rOk d → d.showable = true ∧ d.hasDict = false
  | .none, _ => by simp [PyData.showable, PyData.hasDict]
  | .bool _, _ => by simp [PyData.showable, PyData.hasDict]
  | .int i, h => by
    simp only [rOk] at h
    simp [PyData.showable, PyData.hasDict, h]
  | .str _, h => by simp only [rOk] at h
  | .dict _, h => by simp only [rOk] at h
  | .list xs, h => by
    simp only [rOk] at h
    have z := rOk_showAll xs h
    simp [PyData.showable, PyData.hasDict, z.1, z.2]
  | .tuple xs, h => by
    simp only [rOk] at h
    have z := rOk_showAll xs h
    simp [PyData.showable, PyData.hasDict, z.1, z.2]
theorem rOk_showAll : ∀ ds : List PyData, rOkAll ds → PyData.showableAll ds = true ∧ PyData.hasDictAll ds = false
  | [], _ => by simp [PyData.showableAll, PyData.hasDictAll]
  | d :: r, h => by
    simp only [rOkAll] at h
    have a := rOk_show d h.1
    have b := rOk_showAll r h.2
    simp [PyData.showableAll, PyData.hasDictAll, a.1, a.2, b.1, b.2]
end
theorem repr_of {d : PyData} {k : SV → Prop} (h : rOk d) (hs : szR d ≤ 16777216) (hd : d.depth ≤ 60) (q : k (.d (.str d.shown))) : gRepr [.d d] k := by
  have z := rOk_show d h
  have l := shown_le d h
  exact ⟨z.2, z.1, by rw [sizeLine_eq]; omega, hd, q⟩
/-- nothing is asked, nothing promised -/
theorem fnG_none [Tb] {P : Program} {w : World} {K : PySem.W.Frag} {mg : Str → Option Value} {base : Heap} {k n : Nat} {f : Addr} {fd : FuncData} {ps : List Str} (h : ps.length = n) : FnG P w K mg base k f fd ps (spD K n (fun _ _ _ _ => False)) := by
  have no : ∀ vs H Q E, ¬ spD K n (fun _ _ _ _ => False) vs H Q E := fun vs H Q E ⟨_, _, _, _, _, _, _, _, z, _⟩ => z
  exact ⟨fun vs H Q E z => (no vs H Q E z).elim, fun A outer s H args us vs Q E _ _ _ _ _ z => (no vs H Q E z).elim⟩
end D3
/-! D3p: the module's constants; chained comparisons; augmented stores; in; list(..), n * tuple. -/
namespace D3
open PySem PySem.Spec PyProof.Rows L2
section
variable [Tb]
section
variable {X : Cx} {W : WX} {x : Str} {pos : Pos}
theorem d_globI {i : Int} (hg : Gl X x) (hm : ∃ t, X.mg x = some (.int i t)) (hd : (x == ("__debug__" : Str)) = false := by decide) : DE X W (.Name x pos) (dC (.d (.int i))) := by
  obtain ⟨t, e⟩ := hm
  exact d_glob (v := .int i) hg e ⟨t, rfl⟩ (fun _ _ => Dz.int i) hd
theorem d_globS {z : Str} (hg : Gl X x) (hm : ∃ t, X.mg x = some (.str z t)) (hd : (x == ("__debug__" : Str)) = false := by decide) : DE X W (.Name x pos) (dC (.d (.str z))) := by
  obtain ⟨t, e⟩ := hm
  exact d_glob (v := .str z) hg e ⟨t, rfl⟩ (fun _ _ => Dz.str z) hd
/-- a datum that stands in the written part -/
def KDat (K : PySem.W.Frag) (v : V) (d : PyData) : Prop := ∀ H, Dz K H v d
theorem d_globD {a : Addr} {d : PyData} (hg : Gl X x) (hm : X.mg x = some (.ref a)) (h : KDat X.K (.ref a) d) (hd : (x == ("__debug__" : Str)) = false := by decide) : DE X W (.Name x pos) (dC (.d d)) :=
  d_glob (r := .d d) (v := .ref a) hg hm rfl (fun _ H => h H) hd
end
/-! ### a < b < c -/
def dChain (g g' : SV → SV → (SV → Prop) → Prop) (ta tb tc : DTE) : DTE := fun S k e => ta S (fun x S1 => tb S1 (fun y S2 => g x y fun z => match z with
  | .d (.bool b) => iteB b (tc S2 (fun w S3 => g' y w fun r => k r S3) e) (k (.d (.bool false)) S2)
  | _ => False) e) e
section
variable {X : Cx} {W : WX} {a b c : Expr} {ta tb tc : DTE} {pos : Pos} {op op' : CmpOp} {g g' : SV → SV → (SV → Prop) → Prop}
theorem d_chain (ho : OpD X (compareOp op) g) (ho' : OpD X (compareOp op') g') (ha : DE X W a ta) (hb : DE X W b tb) (hc : DE X W c tc) (hm : lastMarks [op, op'] [b, c] = false := by with_unfolding_all rfl) :
    DE X W (.Compare a [op, op'] [b, c] pos) (dChain g g' ta tb tc) := by
  refine .mk fun pins s σ H B S k er I R q hx => ?_
  refine Compare_chain (thn (ha.go I R q hx) fun v s1 ⟨vx, H1, I1, r1, x, S1, R1, m1, x1, q1⟩ => chain_link (thn (hb.go I1 R1 q1 hx) fun u s2 ⟨vy, H2, I2, r2, y, S2, R2, m2, y2, q2⟩ => ?_)) hm
  refine thn (ho pins s2 σ H2 B S2 x y vx vy v u _ I2 R2 (x1.mono m2) r1 y2 r2 q2) fun d s3 ⟨vz, H3, I3, r3, z, S3', R3, m3, zz, es, q3⟩ => ?_
  subst es
  match z, zz, q3 with
  | .d (.bool t), zz, q3 =>
    have e := RR.bool zz
    subst e
    cases r3
    refine wpAny_truthy_bool ?_
    cases t with
    | false => exact ite_ff ⟨.bl false, H3, I3, rfl, .d (.bool false), _, R3, (m1.tr m2).tr m3, Dz.bl _, q3⟩
    | true =>
      refine ite_tt (chain_last (thn (hc.go I3 R3 q3 hx) fun w' s4 ⟨vw, H4, I4, r4, w, S4, R4, m4, w4, q4⟩ => ?_))
      exact thn (ho' pins s4 σ H4 B S4 y w vy vw u w' _ I4 R4 (y2.mono (m3.tr m4)) r2 w4 r4 q4) fun d' s5 h => EP.kd (((m1.tr m2).tr m3).tr m4) h
theorem d_chainT (ho : OpD X (compareOp op) g) (ho' : OpD X (compareOp op') g') (ha : DE X W a ta) (hb : DE X W b tb) (hc : DE X W c tc) (hm : lastMarks [op, op'] [b, c] = false := by with_unfolding_all rfl) :
    DT X W (.Compare a [op, op'] [b, c] pos) (dTst (dChain g g' ta tb tc)) := by
  refine .mk fun pins s σ H B S k er I R q hx => ?_
  refine isTrue_chain (thn (ha.go I R q hx) fun v s1 ⟨vx, H1, I1, r1, x, S1, R1, m1, x1, q1⟩ => test_link (thn (hb.go I1 R1 q1 hx) fun u s2 ⟨vy, H2, I2, r2, y, S2, R2, m2, y2, q2⟩ => ?_)) hm
  refine thn (ho pins s2 σ H2 B S2 x y vx vy v u _ I2 R2 (x1.mono m2) r1 y2 r2 q2) fun d s3 ⟨vz, H3, I3, r3, z, S3', R3, m3, zz, es, q3⟩ => ?_
  subst es
  match z, zz, q3 with
  | .d (.bool t), zz, q3 =>
    have e := RR.bool zz
    subst e
    cases r3
    refine wpAny_truthy_bool ?_
    cases t with
    | false => exact ite_ff ⟨H3, I3, _, R3, (m1.tr m2).tr m3, q3⟩
    | true =>
      refine ite_tt (test_last (thn (hc.go I3 R3 q3 hx) fun w' s4 ⟨vw, H4, I4, r4, w, S4, R4, m4, w4, q4⟩ => ?_))
      refine thn (ho' pins s4 σ H4 B S4 y w vy vw u w' _ I4 R4 (y2.mono (m3.tr m4)) r2 w4 r4 q4) fun d' s5 ⟨v5, H5, I5, r5, z5, S5, R5, m5, zz5, es5, q5⟩ => ?_
      subst es5
      match z5, zz5, q5 with
      | .d (.bool t5), zz5, q5 =>
        have e5 := RR.bool zz5
        subst e5
        cases r5
        exact wpAny_truthy_bool ⟨H5, I5, _, R5, (((m1.tr m2).tr m3).tr m4).tr m5, q5⟩
end
/-! ### x in ys, ys a list or a tuple of data without lists -/
def flatD : PyData → Bool
  | .none => true
  | .bool _ => true
  | .int _ => true
  | .str _ => true
  | _ => false
def inD (x : PyData) (ys : List PyData) : Bool := ys.any fun y => PyData.eqv y x
def gIn (neg : Bool) : SV → SV → (SV → Prop) → Prop := fun x y k => match x, y with
  | .d a, .d (.list ys) => flatD a = true ∧ ys.all flatD = true ∧ k (.d (.bool (if neg then !inD a ys else inD a ys)))
  | .d a, .d (.tuple ys) => flatD a = true ∧ ys.all flatD = true ∧ k (.d (.bool (if neg then !inD a ys else inD a ys)))
  | _, _ => False
theorem flat_v {K : PySem.W.Frag} {H : Hp} {d : PyData} {v : V} (h : Dz K H v d) (f : flatD d = true) : flatV v = true := by
  cases h <;> first | rfl | (simp [flatD] at f; done)
theorem eq_flat {K : PySem.W.Frag} {H : Hp} {d e : PyData} {v w : V} (h : Dz K H v d) (h2 : Dz K H w e) (f : flatD d = true) (f2 : flatD e = true) : eqV v w = PyData.eqv d e := by
  cases h <;> first | (simp [flatD] at f; done) | (cases h2 <;> first | (simp [flatD] at f2; done) | simp [eqV, PyData.eqv])
theorem all_flat {K : PySem.W.Frag} {H : Hp} : ∀ {ds : List PyData} {vs : List V}, DzA K H vs ds → ds.all flatD = true → vs.all flatV = true
  | [], _, h, _ => by
    cases h
    rfl
  | d :: r, _, .cons h1 h2, f => by
    simp only [List.all_cons, Bool.and_eq_true] at f ⊢
    exact ⟨flat_v h1 f.1, all_flat h2 f.2⟩
theorem any_flat {K : PySem.W.Frag} {H : Hp} {x : PyData} {v : V} (hx : Dz K H v x) (fx : flatD x = true) : ∀ {ds : List PyData} {vs : List V}, DzA K H vs ds → ds.all flatD = true → inV v vs = inD x ds
  | [], _, h, _ => by
    cases h
    rfl
  | d :: r, _, .cons h1 h2, f => by
    simp only [List.all_cons, Bool.and_eq_true] at f
    have ih := any_flat hx fx h2 f.2
    unfold inV inD at ih ⊢
    simp only [List.any_cons]
    rw [ih, eq_flat h1 hx f.1 fx]
theorem in_meet {X : Cx} {σ : L2.St} {H : Hp} {B : B3} {S : S3} {x y : SV} {vx vy : V} {k : SV → Prop} {neg : Bool} (R : RS X.K B σ H S) (a : RR X.K B H x vx) (b : RR X.K B H y vy) (q : gIn neg x y k) : rIn X.K neg vx vy H (KD X.K B σ H fun r S' => S' = S ∧ k r) := by
  unfold gIn at q
  split at q
  · obtain ⟨f1, f2, q⟩ := q
    have a : Dz X.K H vx _ := a
    cases (show Dz _ _ _ _ from b) with
    | lst h1 h2 =>
      refine ⟨_, _, rfl, .inl h1.sq, flat_v a f1, all_flat h2 f2, ?_⟩
      rw [any_flat a f1 h2 f2]
      exact ⟨.d (.bool _), S, R, .rfl, Dz.bl _, rfl, q⟩
  · obtain ⟨f1, f2, q⟩ := q
    have a : Dz X.K H vx _ := a
    cases (show Dz _ _ _ _ from b) with
    | tup h1 h2 =>
      refine ⟨_, _, rfl, .inr h1, flat_v a f1, all_flat h2 f2, ?_⟩
      rw [any_flat a f1 h2 f2]
      exact ⟨.d (.bool _), S, R, .rfl, Dz.bl _, rfl, q⟩
  · exact q.elim
theorem oIn {X : Cx} : OpD X (compareOp .In) (gIn false) := .of op_in_seq fun σ H B S x y vx vy k R a b q => in_meet R a b q
theorem oNotIn {X : Cx} : OpD X (compareOp .NotIn) (gIn true) := .of op_notIn_seq fun σ H B S x y vx vy k R a b q => in_meet R a b q
/-! ### x += e of ints -/
def dAugI (i : Nat) (te : DTE) (f : Int → Int → Int) (C : Int → Int → Prop) : DTS := fun D S e => hasG S i ∧ te S (fun r S1 => match S1.G[i]?, r with
  | some (some (.d (.int a))), .d (.int b) => C a b ∧ D.nx { S1 with G := S1.G.set i (some (.d (.int (f a b)))) }
  | _, _ => False) e
end
end D3
/-! D3q: own errors with a field: made, raised, caught, read. -/
namespace D3
open PySem PySem.Spec PyProof.Rows L2
section
variable [Tb]
/-- what the written part says of an own class whose __init__ is a built-in's -/
structure OwnIni (K : PySem.W.Frag) (C : Addr) : Prop where
  ga : PySem.W.specialIn K (.ref C) "__getattribute__" = some (some (.builtin "type.__getattribute__"))
  rd : PySem.W.readsIn K C (.type "type") = true
  fi : PySem.W.findCls K (.ref C) (.type "type") "__init__" = some (.val (.builtin "ValueError.__init__"))
section
variable {X : Cx} {e : Expr} {es : List Expr} {ta : TA} {x : Str} {C : Addr} {p1 p2 pos : Pos}
/-- C.__init__(self, ..), C an own class without one of its own -/
theorem pe_ownInit {pl : Sem Bool} (hg : Gl X x) (hm : X.mg x = some (.ref C)) (T : OwnIni X.K C) (ha : PA X (e :: es) ta)
    (hc : eval (.Call (.Attribute (.Name x p1) "__init__" p2) (e :: es) [] pos) X.env = (do
      let ov ← eval (.Name x p1) X.env
      standAt p2.atName
      let (f, first) ← holding [ov] (getMethod ov "__init__" pl)
      callWith pos f first (backTo pos (starEach (e :: es) X.env)) (backToKw pos (keywordEach [] X.env))) := by rfl)
    (hdb : (x == ("__debug__" : Str)) = false := by decide)
    (he : starEach (e :: es) X.env = (false, eval e X.env) :: starEach es X.env := by rfl) (hpl : (backTo pos (starEach es X.env)).any (·.1) = false := by rfl) :
    PE X (.Call (.Attribute (.Name x p1) "__init__" p2) (e :: es) [] pos) (tVeI X.K ta) := by
  refine ⟨fun pins s σ H Q I h => ?_⟩
  refine PySem.W.methodCall_KW (ld_glob I hg hm ?_ hdb) hc
  refine PySem.W.method_cls I.kIn T.ga (PySem.W.cls_value I.kIn T.rd T.fi (by decide +kernel) ?_)
  show wpAny _ _ (callWith pos (Value.builtin "ValueError.__init__") [] (backTo pos (starEach (e :: es) X.env)) []) _ _ _
  refine PyProof.Rows.callWith_method1 (thn (ha.run pos pins _ σ H _ (I.tok _) h) fun us s1 ⟨vs, H1, I1, r1, a, D, ws, ev, hl, O, ea, q⟩ => ?_) he hpl
  subst ev
  cases r1 with
  | @cons _ u0 _ ur ra rw2 =>
    cases (show u0 = Value.ref a from ra)
    have hlen : ur.length ≤ sizeLine := by
      have l2 := Paired.length rw2
      rw [sizeLine_eq]
      omega
    exact oinit_ok O I1 ea hlen fun s2 J => ⟨.non, H1, J, rfl, q⟩
end
/-- what __init__(self, y) promises of a fresh error: its field f is y -/
def spIni (C : Addr) (f : Str) : Sp := fun vs H Q _ => ∃ (a : Addr) (y : V), vs = [.ref a, y] ∧ H a = some (exo a C none) ∧ ∀ dx, H dx = none → dx ≠ a → Q .non (upd (upd H dx (exd dx [(f, y)])) a (exo a C (some dx)))
section
variable {P : Program} {w : World} {K : PySem.W.Frag} {mg : Str → Option Value} {base : Heap} {f C B0 : Addr} {fd : FuncData} {qual b n m : Str} {sc : Scope} {params : Arguments} {body : List Stmt} {dvs : List V} {p1 p2 p3 p4 p5 p6 p7 p8 p9 p10 : Pos} {j : Nat}
theorem ini_ok (F : FunD K "__init__" qual params body sc dvs [] f fd) (S : FnScope ["self", n] ["self", n] sc) (hb : body = [.Expr (.Call (.Attribute (.Name b p1) "__init__" p2) [.Name "self" p3, .Constant (.str m) j p4] [] p5) p6, .Assign [.Attribute (.Name "self" p7) n p8] (.Name n p9) p10])
    (hg : sc.names.lookup b = some .globalImplicit) (hs : Vis sc "self") (hn : Vis sc n) (hm : mg b = some (.ref B0)) (T : OwnIni K B0) (O : OexC K C) (no : PySem.W.findIn K (.ref C) n = some none) (hd1 : (b == ("__debug__" : Str)) = false) (hd2 : (n == ("__debug__" : Str)) = false) (hd3 : (n == ("__classdict__" : Str)) = false)
    (hs1 : ∀ env, swapsWith (.Call (.Attribute (.Name b p1) "__init__" p2) [.Name "self" p3, .Constant (.str m) j p4] [] p5) none p6.line env = pure false)
    (hs2 : ∀ env, swapsWith (.Name n p9) (some (.Attribute (.Name "self" p7) n p8)) p10.line env = pure false)
    (hc : ∀ env : Env, ∃ pl : Sem Bool, eval (.Call (.Attribute (.Name b p1) "__init__" p2) [.Name "self" p3, .Constant (.str m) j p4] [] p5) env = (do
      let ov ← eval (.Name b p1) env
      standAt p2.atName
      let (f, first) ← holding [ov] (getMethod ov "__init__" pl)
      callWith p5 f first (backTo p5 (starEach [.Name "self" p3, .Constant (.str m) j p4] env)) (backToKw p5 (keywordEach [] env)))) :
    FnOk P w K mg base CX0 2 f fd ["self", n] (spIni C n) := by
  subst hb
  refine F.ok S (fun vs H Q E h => ?_) (fun cdv A outer s H vs Q E hr h => ?_)
  · obtain ⟨a, y, rfl, _⟩ := h
    rfl
  obtain ⟨a, y, rfl, ha, q⟩ := h
  obtain ⟨pl, hc⟩ := hc (cxOf CX0 P w K mg base ["self", n] qual sc f cdv A outer s H E).env
  refine ⟨_, pss_cons (ps_expr (pe_ownInit (X := cxOf CX0 P w K mg base ["self", n] qual sc f cdv A outer s H E) hg hm T (pa_cons (pe_var (i := 0) rfl hs (by decide) (by decide)) (pa_cons pe_str pa_nil)) hc hd1) (hs1 _))
    (pss_one (ps_ost (pe_var (i := 0) rfl hs (by decide) (by decide)) (pe_var (i := 1) rfl hn hd2 hd3) (hs2 _))), ?_⟩
  refine ⟨.ref a, rfl, a, C, [.str m], rfl, (by simp), O, ha, ?_⟩
  refine ⟨y, rfl, .ref a, rfl, a, C, rfl, O, no, .inl ⟨ha, fun dx h1 h2 => q dx h1 h2⟩⟩
end
/-! ### raise C(e) -/
def dRaiseF (C : Addr) (f : Str) (te : DTE) : DTS := fun _ S er => te S (fun r S1 => match r with
  | .d x => er ⟨C, [(f, x)]⟩ S1
  | _ => False) er
section
variable {X : Cx} {W : WX} {x n : Str} {C fI : Addr} {fd : FuncData} {e : Expr} {te : DTE} {p pos p3 : Pos} {k : Nat}
theorem ds_raiseF (hc : X.calm = true) (tk : Takes X W) (T : OexC X.K C) (iC : PySem.W.findIn X.K (.ref C) "__init__" = some (some (.ref fI))) (tI : PySem.W.typeIn X.K (.ref fI) = some (.type "function")) (F1 : FnOk X.prog X.w X.K X.mg X.base CX0 k fI fd ["self", n] (spIni C n)) (hr : Room (k + 1) X.A)
    (hb : Binds X.K fd ["self", n] []) (hg : Gl X x) (hm : X.mg x = some (.ref C)) (ha : DE X W e te) (hdb : (x == ("__debug__" : Str)) = false := by decide) (he : starEach [e] X.env = (false, eval e X.env) :: starEach [] X.env := by rfl) (hpl : (backTo pos (starEach [] X.env)).any (·.1) = false := by rfl) :
    DS X W (.Raise (some (.Call (.Name x p) [e] [] pos)) none p3) (dRaiseF C n te) := by
  refine .of (ps_raise hc tk (pmk_oex T iC tI F1 hr hb .nil (fun _ _ _ _ _ _ _ z => z.elim) hg hm (da_cons ha da_nil he) hdb he hpl)) fun σ H B S D er R q hx => ?_
  refine liftA.in (t := dCons te dNil) (k := fun rs S1 => ∃ r, rs = [r] ∧ (match r with
    | .d x => er ⟨C, [(n, x)]⟩ S1
    | _ => False)) R (one_arg q fun r S1 => ⟨fun z => ⟨r, rfl, z⟩, fun ⟨r', e', z⟩ => by cases e'; exact z⟩) hx fun vs H1 rs S1 R1 m1 rrs q1 => ?_
  obtain ⟨r, rfl, q1⟩ := q1
  obtain ⟨y, rfl, rr⟩ := rrs.one
  match r, rr, q1 with
  | .d d, rr, q1 =>
    refine ⟨(by simp), fun a hna => ⟨a, y, rfl, upd_same, fun dx hdx ne => ⟨rfl, dx, [(n, y)], upd_same, ?_, ?_, ?_⟩⟩⟩
    · rw [upd_ne ne, upd_same]
    · rw [upd_ne ne] at hdx
      exact hdx
    · have hd1 : H1 dx = none := by
        rw [upd_ne ne] at hdx
        exact hdx
      have eh : upd (del (upd (upd (upd H1 a (exo a C none)) dx (exd dx [(n, y)])) a (exo a C (some dx))) a) dx (.xd [(n, y)]) = upd H1 dx (.xd [(n, y)]) := by
        funext b
        by_cases h1 : b = dx
        · subst h1
          rw [upd_same, upd_same]
        · rw [upd_ne h1, upd_ne h1]
          by_cases h2 : b = a
          · subst h2
            rw [del_same, hna]
          · rw [del_ne h2, upd_ne h2, upd_ne h1, upd_ne h2]
      rw [eh]
      refine hx ⟨C, [(n, d)]⟩ S1 σ (.ref C) (some dx) _ (R1.new hd1) ⟨rfl, (fun z => absurd z (by simp)), fun _ => ⟨dx, [(n, y)], rfl, upd_same, fun g z hz => ?_⟩⟩ q1
      by_cases hgn : g = n
      · subst hgn
        have e1 : [(g, d)].lookup g = some d := by simp [List.lookup]
        rw [e1] at hz
        cases hz
        exact ⟨y, by simp [List.lookup], Dz.mono (.new hd1) _ _ rr⟩
      · have e1 : (g == n) = false := by simpa using hgn
        have e2 : [(n, d)].lookup g = none := by simp [List.lookup, e1]
        rw [e2] at hz
        cases hz
end
end
end D3
/-! D3r: a caught error's field; isinstance of an error with fields. -/
namespace D3
open PySem PySem.Spec PyProof.Rows L2
section
variable [Tb]
/-- the object of an error that a name holds -/
theorem exc_inst {X : Cx} {pins : List (Addr × Obj)} {σ : L2.St} {H : Hp} {s : Shared} {a C : Addr} {fs : List (Str × PyData)} (I : Inv X pins σ H s) (h : ExcAt X.K H a C fs) : ∃ oe od, PySem.W.InstAt s.heap a oe C od := by
  obtain ⟨d, h1, h2, h3⟩ := h
  obtain ⟨⟨oe, g1, ⟨g2, g3⟩, vs, g4⟩, _⟩ := (show ObjOk X.prog X.w H s.heap a (.ext _) from I.hok a _ h1)
  have no : PySem.W.notCls oe = true := by
    unfold PySem.W.notCls
    rw [g4]
  by_cases e : fs = []
  · refine ⟨oe, none, g1, g2, no, ?_⟩
    rw [g3, h2 e]
    trivial
  · obtain ⟨dd, ws, rfl, e2, _⟩ := h3 e
    obtain ⟨mA, ⟨o, es, ep, ho, _⟩, _⟩ := (show ObjOk X.prog X.w H s.heap dd (.xd ws) from I.hok dd _ e2)
    refine ⟨oe, some o, g1, g2, no, ?_⟩
    rw [g3]
    exact ho
/-- x.f, x an error that was caught -/
def dFld (K : PySem.W.Frag) (i : Nat) (f : Str) : DTE := fun S k _ => match S.G[i]? with
  | some (some (.exc C fs)) => XfC K C ∧ PySem.W.findIn K (.ref C) f = some none ∧ (match fs.lookup f with
    | some d => k (.d d) S
    | none => False)
  | _ => False
section
variable {X : Cx} {W : WX} {x n : Str} {i : Nat} {p pos : Pos}
theorem d_fld (hN : X.N[i]? = some x) (hv : Vis X.env.scope x) (hb : attributeBase (.Name x p) n X.env (eval (.Name x p) X.env) = eval (.Name x p) X.env := by rfl) (hd : (x == ("__debug__" : Str)) = false := by decide) (hcd : (x == ("__classdict__" : Str)) = false := by decide) :
    DE X W (.Attribute (.Name x p) n pos) (dFld X.K i n) := by
  refine .mk fun pins s σ H B S k er I R q hx => ?_
  unfold dFld at q
  split at q
  · rename_i C fs e
    obtain ⟨T, hno, q⟩ := q
    split at q
    · rename_i d el
      obtain ⟨v, hσ, a, rfl, hA⟩ := R.slot i _ e
      refine attr_of hb (thn ((pe_var (pos := p) (i := i) hN hv hd hcd).run pins s σ H (fun v H1 => v = .ref a ∧ H1 = H) I ⟨.ref a, hσ, rfl, rfl⟩) fun u s1 ⟨v, H1, I1, r1, ev, eH⟩ => ?_)
      subst ev eH
      cases (show u = Value.ref a from r1)
      obtain ⟨dc, h1, _, h3⟩ := hA
      obtain ⟨⟨oe, g1, ⟨g2, g3⟩, vs, g4⟩, _⟩ := (show ObjOk X.prog X.w H1 s1.heap a (.ext _) from I1.hok a _ h1)
      obtain ⟨dd, ws, rfl, e2, e3⟩ := h3 (fun z => by rw [z] at el; cases el)
      obtain ⟨w, l, z⟩ := e3 n d el
      have hxd : ObjOk X.prog X.w H1 s1.heap dd (.xd ws) := I1.hok dd _ e2
      obtain ⟨mA, hns, hr⟩ := hxd
      obtain ⟨od, ho, hl⟩ := lookIn_ns hns
      obtain ⟨u, hu, ru⟩ := RelO.some_of (v := w) (o := mA n) (by rw [← l]; exact hr n)
      have J : PySem.W.InstAt s1.heap a oe C (some od) := ⟨g1, g2, by unfold PySem.W.notCls; rw [g4], by rw [g3]; exact ho⟩
      exact HandSPX.exc_get I1.kIn J T.ga T.gg T.exC (PySem.W.findObj_own T.hdC hno rfl (by rw [hl, hu])) (handed_of ru) ⟨w, H1, I1.tok _, ru, .d d, S, R, .rfl, z, q⟩
    · exact q.elim
  · exact q.elim
end
/-! ### isinstance -/
/-- isinstance(x, T): x data or an error, T a class or a built-in type -/
def gIsiF (K : PySem.W.Frag) : List SV → (SV → Prop) → Prop := fun rs k => match rs with
  | [.exc C _, .raw (.ref D)] => ExcC K C ∧ ∃ b, PySem.W.kitOne K (.ref C) (.ref D) = some b ∧ k (.d (.bool b))
  | [.exc C _, .raw (.ty n)] => ExcC K C ∧ ∃ b, PySem.W.kitOne K (.ref C) (.type n) = some b ∧ k (.d (.bool b))
  | [.d .none, .raw (.ref D)] => ∃ b, PySem.W.kitOne K (.type "NoneType") (.ref D) = some b ∧ k (.d (.bool b))
  | [.d x, .raw (.ty n)] => (match kitB (tyD x) n with
    | some b => k (.d (.bool b))
    | none => False)
  | _ => False
theorem isi_excF {X : Cx} {pins : List (Addr × Obj)} {σ : L2.St} {H : Hp} {s : Shared} {B : B3} {S : S3} {C : Addr} {fs : List (Str × PyData)} {v : V} {u c : Value} {b : Bool} {k : SV → Prop} (I : Inv X pins σ H s) (R : RS X.K B σ H S) (h : RR X.K B H (.exc C fs) v) (ru : RelV v u) (F : ExcC X.K C) (e : PySem.W.kitOne X.K (.ref C) c = some b) (q : k (.d (.bool b))) :
    wpAny (model X.prog X.w) X.A (call (.builtin "isinstance") [u, c]) (EP X pins σ (KD X.K B σ H fun r S' => S' = S ∧ k r)) X.xe s := by
  obtain ⟨a, rfl, hA⟩ := h
  cases (show u = Value.ref a from ru)
  obtain ⟨oe, od, J⟩ := exc_inst I hA
  have hcl : (PySem.W.clsIn X.K C).isSome = true := by
    have z := F.hd
    unfold PySem.W.hasDictIn at z
    cases hq : PySem.W.clsIn X.K C with
    | none => rw [hq] at z; cases z
    | some cd => rfl
  exact PySem.W.kia_one (PySem.W.kitx_exc hcl F.hg F.hk F.hs F.ha F.hn F.ht F.hm) I.kIn J e (fun z => nomatch z) fun tk => ⟨.bl b, H, I.kept (t' := tk) fun _ _ z => z, rfl, .d (.bool b), S, R, .rfl, Dz.bl b, rfl, q⟩
theorem cIsiF {X : Cx} : CallD X (.builtin "isinstance") (gIsiF X.K) := by
  intro pins s σ H B S rs vs us k I R a rv q
  unfold gIsiF at q
  split at q
  · rename_i C fs D
    obtain ⟨F, b, e, q⟩ := q
    obtain ⟨v, w, rfl, z, z'⟩ := a.two
    cases (show w = _ from z')
    obtain ⟨u1, u2, rfl, r1, r2⟩ := vals2 rv
    cases (show u2 = Value.ref D from r2)
    exact isi_excF I R z r1 F e q
  · rename_i C fs n
    obtain ⟨F, b, e, q⟩ := q
    obtain ⟨v, w, rfl, z, z'⟩ := a.two
    cases (show w = _ from z')
    obtain ⟨u1, u2, rfl, r1, r2⟩ := vals2 rv
    cases (show u2 = Value.type n from r2)
    exact isi_excF I R z r1 F e q
  · rename_i D
    exact cIsiX pins s σ H B S _ vs us k I R a rv (by unfold gIsiX; exact q)
  · rename_i y n
    exact cIsi pins s σ H B S _ vs us k I R a rv (by unfold gIsi; exact q)
  · exact q.elim
end
end D3
/-! D3s: walks over whatever gives data: lists, tuples, ranges, enumerate, zip; loops and comprehensions over them. -/
namespace D3
open PySem PySem.Spec PyProof.Rows L2
section
variable [Tb]
/-- J walks over the items xs, from H1 on; a turn may lay new objects -/
structure ItOver (K : PySem.W.Frag) (J : It) (H1 : Hp) (xs : List PyData) : Prop where
  go : ∀ (i : Nat) (H2 : Hp), Mono H1 H2 → i < xs.length → J.go i H2
  yld : ∀ (i : Nat) (H2 : Hp) (x : V) (H3 : Hp), Mono H1 H2 → i < xs.length → J.yld i H2 x H3 → (∀ b o, H2 b = some o → H3 b = some o) ∧ ∃ d, xs[i]? = some d ∧ Dz K H3 x d
  stop : ∀ (i : Nat) (H2 : Hp), Mono H1 H2 → xs.length ≤ i → J.stop i H2
theorem over_list {K : PySem.W.Frag} {a : Addr} {vs : List V} {ds : List PyData} {H1 : Hp} (h1 : FzL K H1 a vs) (h2 : DzA K H1 vs ds) : ItOver K (Itl K a) H1 ds := by
  refine ⟨fun i H2 m hi => ?_, fun i H2 x H3 m lt y => ?_, fun i H2 m hi => ⟨vs, sqL_mono m h1, by rw [h2.len]; exact hi⟩⟩
  · have hi2 : i < vs.length := by rw [h2.len]; exact hi
    exact ⟨vs, vs[i], sqL_mono m h1, List.getElem?_eq_getElem hi2⟩
  · obtain ⟨e, y⟩ := y
    subst e
    obtain ⟨d, e2, z⟩ := h2.getV (y vs (sqL_mono m h1))
    exact ⟨fun _ _ q => q, d, e2, Dz.mono m _ _ z⟩
theorem over_tup {K : PySem.W.Frag} {a : Addr} {vs : List V} {ds : List PyData} {H1 : Hp} (h1 : SqT K H1 a vs) (h2 : DzA K H1 vs ds) : ItOver K (Itt K a) H1 ds := by
  refine ⟨fun i H2 m hi => ?_, fun i H2 x H3 m lt y => ?_, fun i H2 m hi => ⟨vs, sqT_mono m h1, by rw [h2.len]; exact hi⟩⟩
  · have hi2 : i < vs.length := by rw [h2.len]; exact hi
    exact ⟨vs, vs[i], sqT_mono m h1, List.getElem?_eq_getElem hi2⟩
  · obtain ⟨e, y⟩ := y
    subst e
    obtain ⟨d, e2, z⟩ := h2.getV (y vs (sqT_mono m h1))
    exact ⟨fun _ _ q => q, d, e2, Dz.mono m _ _ z⟩
/-- 0, 1, .. beside the items -/
def enumD : Nat → List PyData → List PyData
  | _, [] => []
  | i, x :: xs => .tuple [.int (i : Int), x] :: enumD (i + 1) xs
theorem enumD_len : ∀ (xs : List PyData) (n : Nat), (enumD n xs).length = xs.length
  | [], _ => rfl
  | x :: xs, n => by rw [enumD, List.length_cons, List.length_cons, enumD_len xs]
theorem enumD_get : ∀ (xs : List PyData) (n i : Nat) (d : PyData), xs[i]? = some d → (enumD n xs)[i]? = some (.tuple [.int ((n + i : Nat) : Int), d])
  | [], n, i, d, h => by simp at h
  | x :: xs, n, 0, d, h => by
    simp only [List.getElem?_cons_zero, Option.some.injEq] at h
    subst h
    simp [enumD]
  | x :: xs, n, i + 1, d, h => by
    rw [enumD, List.getElem?_cons_succ, enumD_get xs (n + 1) i d (by simpa using h)]
    congr 4
    omega
theorem over_enum {K : PySem.W.Frag} {a : Addr} {vs : List V} {ds : List PyData} {H1 : Hp} (h1 : FzL K H1 a vs) (h2 : DzA K H1 vs ds) : ItOver K (Ite K a) H1 (enumD 0 ds) := by
  refine ⟨fun i H2 m hi => ?_, fun i H2 x H3 m lt y => ?_, fun i H2 m hi => ⟨vs, sqL_mono m h1, by rw [h2.len]; rw [enumD_len] at hi; exact hi⟩⟩
  · have hi2 : i < vs.length := by rw [h2.len]; rw [enumD_len] at hi; exact hi
    exact ⟨vs, vs[i], sqL_mono m h1, List.getElem?_eq_getElem hi2⟩
  · obtain ⟨T, w, e1, hT, e2, y⟩ := y
    subst e1 e2
    obtain ⟨d, e3, z⟩ := h2.getV (y vs (sqL_mono m h1))
    have m3 : Mono H2 (upd H2 T (.tup [.int (i : Nat), w])) := .new hT
    refine ⟨fun b o q => by rw [upd_ne (ne_of_none q hT)]; exact q, _, enumD_get ds 0 i d e3, Dz.tup (.of upd_same) ?_⟩
    rw [Nat.zero_add]
    exact .cons (.int _) (.cons (Dz.mono (m.tr m3) _ _ z) .nil)
theorem over_range {K : PySem.W.Frag} {lo : Int} {n : Nat} {H1 : Hp} : ItOver K (Itr lo n) H1 (rangeD lo n) := by
  refine ⟨fun i H2 m hi => ?_, fun i H2 x H3 m lt y => ?_, fun i H2 m hi => ?_⟩
  · rw [rangeD_len] at hi
    exact hi
  · obtain ⟨e, y⟩ := y
    subst e
    rw [rangeD_len] at lt
    subst y
    exact ⟨fun _ _ q => q, _, rangeD_get _ _ _ lt, Dz.int _⟩
  · rw [rangeD_len] at hi
    exact hi
theorem over_zip {K : PySem.W.Frag} {a b : Addr} {vs ws : List V} {ds es : List PyData} {H1 : Hp} (h1 : FzL K H1 a vs) (h2 : DzA K H1 vs ds) (k1 : FzL K H1 b ws) (k2 : DzA K H1 ws es) : ItOver K (Itz K a b) H1 ((ds.zip es).map fun p => .tuple [p.1, p.2]) := by
  refine ⟨fun i H2 m hi => ?_, fun i H2 x H3 m lt y => ?_, fun i H2 m hi => ⟨vs, ws, sqL_mono m h1, sqL_mono m k1, ?_⟩⟩
  · simp only [List.length_map, List.length_zip] at hi
    have i1 : i < vs.length := by rw [h2.len]; omega
    have i2 : i < ws.length := by rw [k2.len]; omega
    exact ⟨vs, ws, vs[i], ws[i], sqL_mono m h1, sqL_mono m k1, List.getElem?_eq_getElem i1, List.getElem?_eq_getElem i2⟩
  · obtain ⟨T, w1, w2, e1, hT, e2, y1, y2⟩ := y
    subst e1 e2
    obtain ⟨d, f1, z1⟩ := h2.getV (y1 vs (sqL_mono m h1))
    obtain ⟨d2, f2, z2⟩ := k2.getV (y2 ws (sqL_mono m k1))
    have m3 : Mono H2 (upd H2 T (.tup [w1, w2])) := .new hT
    refine ⟨fun b o q => by rw [upd_ne (ne_of_none q hT)]; exact q, .tuple [d, d2], ?_, Dz.tup (.of upd_same) (.cons (Dz.mono (m.tr m3) _ _ z1) (.cons (Dz.mono (m.tr m3) _ _ z2) .nil))⟩
    rw [List.getElem?_map, (List.getElem?_zip_eq_some (z := (d, d2))).mpr ⟨f1, f2⟩]
    rfl
  · simp only [List.length_map, List.length_zip] at hi
    rw [h2.len, k2.len]
    omega
theorem over_zipT {K : PySem.W.Frag} {a b : Addr} {vs ws : List V} {ds es : List PyData} {H1 : Hp} (h1 : SqT K H1 a vs) (h2 : DzA K H1 vs ds) (k1 : SqT K H1 b ws) (k2 : DzA K H1 ws es) : ItOver K (RZ.ItzT K a b) H1 ((ds.zip es).map fun p => .tuple [p.1, p.2]) := by
  refine ⟨fun i H2 m hi => ?_, fun i H2 x H3 m lt y => ?_, fun i H2 m hi => ⟨vs, ws, sqT_mono m h1, sqT_mono m k1, ?_⟩⟩
  · simp only [List.length_map, List.length_zip] at hi
    have i1 : i < vs.length := by rw [h2.len]; omega
    have i2 : i < ws.length := by rw [k2.len]; omega
    exact ⟨vs, ws, vs[i], ws[i], sqT_mono m h1, sqT_mono m k1, List.getElem?_eq_getElem i1, List.getElem?_eq_getElem i2⟩
  · obtain ⟨T, w1, w2, e1, hT, e2, y1, y2⟩ := y
    subst e1 e2
    obtain ⟨d, f1, z1⟩ := h2.getV (y1 vs (sqT_mono m h1))
    obtain ⟨d2, f2, z2⟩ := k2.getV (y2 ws (sqT_mono m k1))
    have m3 : Mono H2 (upd H2 T (.tup [w1, w2])) := .new hT
    refine ⟨fun b o q => by rw [upd_ne (ne_of_none q hT)]; exact q, .tuple [d, d2], ?_, Dz.tup (.of upd_same) (.cons (Dz.mono (m.tr m3) _ _ z1) (.cons (Dz.mono (m.tr m3) _ _ z2) .nil))⟩
    rw [List.getElem?_map, (List.getElem?_zip_eq_some (z := (d, d2))).mpr ⟨f1, f2⟩]
    rfl
  · simp only [List.length_map, List.length_zip] at hi
    rw [h2.len, k2.len]
    omega
/-! ### the judgement -/
def liftI (K : PySem.W.Frag) (W : WX) (t : DTL) : TI := fun σ H R => ∃ B S k e, RS K B σ H S ∧ t S k e ∧ HX K W B e ∧ ∀ J H1 xs S1, RS K B σ H1 S1 → Mono H H1 → ItOver K J H1 xs → k xs S1 → R J H1
def DI (X : Cx) (W : WX) (tg it : Expr) (t : DTL) : Prop := PI X tg it (liftI X.K W t)
section
variable {X : Cx} {W : WX} {tg it e a b : Expr} {ti te ta tb : DTE} {t : DTL} {p pos : Pos}
theorem DI.of {wi : TI} (h : PI X tg it wi) (f : ∀ σ H B S k er R, RS X.K B σ H S → t S k er → HX X.K W B er → (∀ J H1 xs S1, RS X.K B σ H1 S1 → Mono H H1 → ItOver X.K J H1 xs → k xs S1 → R J H1) → wi σ H R) : DI X W tg it t :=
  ⟨fun pins s σ H R I ⟨B, S, k, er, RR_, q, hx, g⟩ => h.run pins s σ H R I (f σ H B S k er R RR_ q hx g)⟩
def dItems (te : DTE) : DTL := fun S k e => te S (fun r S1 => match r with
  | .d (.list xs) => k xs S1
  | .d (.tuple xs) => k xs S1
  | _ => False) e
theorem di_seq (he : DE X W e te) : DI X W tg e (dItems te) :=
  .of (pi_seq he) fun σ H B S k er R RS_ q hx g => liftE.in (t := te) RS_ q hx fun v H1 r S1 R1 m1 rr q1 => by
    match r, rr, q1 with
    | .d (.list xs), rr, q1 =>
      cases (show Dz _ _ _ _ from rr) with
      | @lst ad vs ds h1 h2 => exact ⟨ad, rfl, .inl ⟨⟨vs, h1.sq⟩, g _ _ _ _ R1 m1 (over_list h1 h2) q1⟩⟩
    | .d (.tuple xs), rr, q1 =>
      cases (show Dz _ _ _ _ from rr) with
      | @tup ad vs ds h1 h2 => exact ⟨ad, rfl, .inr ⟨⟨vs, h1⟩, g _ _ _ _ R1 m1 (over_tup h1 h2) q1⟩⟩
def dRg1 (ta : DTE) : DTL := fun S k e => ta S (fun r S1 => match r with
  | .d (.int j) => inR j ∧ k (rangeD 0 j.toNat) S1
  | _ => False) e
theorem di_range1 (hgl : Gl X "range") (hm : X.mg "range" = none) (ha : DE X W a ta) (hA : starEach [a] X.env = (false, eval a X.env) :: starEach [] X.env := by rfl) (hA2 : starEach [a] X.env = [(false, eval a X.env)] := by rfl) : DI X W tg (.Call (.Name "range" p) [a] [] pos) (dRg1 ta) :=
  .of (pi_range1 hgl hm (da_cons (W := W) ha da_nil hA) hA2) fun σ H B S k er R RS_ q hx g =>
    liftA.in (t := dCons ta dNil) (k := fun rs S1 => ∃ j, rs = [.d (.int j)] ∧ inR j ∧ k (rangeD 0 j.toNat) S1) RS_ (by
      refine one_arg (P := fun r S1 => ∃ j, [r] = [SV.d (.int j)] ∧ inR j ∧ k (rangeD 0 j.toNat) S1) q fun r S1 => ?_
      constructor
      · intro z
        match r, z with
        | .d (.int j), z => exact ⟨j, rfl, z⟩
      · rintro ⟨j, e, z⟩
        cases e
        exact z) hx fun vs H1 rs S1 R1 m1 rrs q1 => by
      obtain ⟨j, rfl, ⟨j1, j2⟩, q1⟩ := q1
      obtain ⟨v, rfl, r1⟩ := rrs.one
      cases (show Dz _ _ _ _ from r1)
      exact ⟨j, rfl, j1, j2, g _ _ _ _ R1 m1 over_range q1⟩
def dEnum (te : DTE) : DTL := fun S k e => te S (fun r S1 => match r with
  | .d (.list xs) => k (enumD 0 xs) S1
  | _ => False) e
theorem di_enum {elts : List Expr} {kk : Nat} {tpos : Pos} (hgl : Gl X "enumerate") (hm : X.mg "enumerate" = none) (ha : DE X W a ta) (hA : starEach [a] X.env = (false, eval a X.env) :: starEach [] X.env := by rfl) (hA2 : starEach [a] X.env = [(false, eval a X.env)] := by rfl) :
    DI X W (.Tuple elts kk tpos) (.Call (.Name "enumerate" p) [a] [] pos) (dEnum ta) :=
  .of (pi_enum hgl hm (da_cons (W := W) ha da_nil hA) hA2) fun σ H B S k er R RS_ q hx g =>
    liftA.in (t := dCons ta dNil) (k := fun rs S1 => ∃ xs, rs = [.d (.list xs)] ∧ k (enumD 0 xs) S1) RS_ (by
      refine one_arg (P := fun r S1 => ∃ xs, [r] = [SV.d (.list xs)] ∧ k (enumD 0 xs) S1) q fun r S1 => ?_
      constructor
      · intro z
        match r, z with
        | .d (.list xs), z => exact ⟨xs, rfl, z⟩
      · rintro ⟨j, e, z⟩
        cases e
        exact z) hx fun vs H1 rs S1 R1 m1 rrs q1 => by
      obtain ⟨xs, rfl, q1⟩ := q1
      obtain ⟨v, rfl, r1⟩ := rrs.one
      cases (show Dz _ _ _ _ from r1) with
      | @lst ad vs ds h1 h2 => exact ⟨ad, vs, rfl, h1.sq, g _ _ _ _ R1 m1 (over_enum h1 h2) q1⟩
end
end
end D3
/-! D3t: for and comprehensions over any walk. -/
namespace D3
open PySem PySem.Spec PyProof.Rows L2
section
variable [Tb]
theorem ExtK.of {H H' : Hp} (k : ∀ b o, H b = some o → H' b = some o) : ExtK H H' := fun b o e => ⟨o, k b o e, .rfl⟩
theorem RS.grow {K : PySem.W.Frag} {B : B3} {σ : L2.St} {H H' : Hp} {S : S3} (R : RS K B σ H S) (k : ∀ b o, H b = some o → H' b = some o) : RS K B σ H' S := R.ext (.of k) (R.tabs.ext k)
theorem mono_of {H H' : Hp} (k : ∀ b o, H b = some o → H' b = some o) : Mono H H' := fun b o _ e => k b o e
section
variable {X : Cx} {W : WX} {us : List Nat} {tg it elt : Expr} {body : List Stmt} {ifs : List Expr} {ti : DTL} {t : DTS} {g : DTG} {tt : DTT} {te : DTE} {pos : Pos} {scope : Scope} {own : List (Str × Nat)}
def dForI (ti : DTL) (g : DTG) (tb : DTS) : DTS := fun D S e => ti S (fun xs S1 => dLoop g tb D e xs S1) e
theorem ds_forI (hp : PassesOwn (model X.prog X.w) X.A X.env X.xe) (hc : X.calm = true) (hi : DI X W tg it ti) (hg : DG X tg us g) (hb : DSs X W body t) (hs : ∀ x, foldedSetIterable it X.env x = pure x := by intro _; rfl) : DS X W (.For tg it body [] pos) (dForI ti g t) := by
  refine .of (ps_for hp hc hi hg hb hs) fun σ H B S D er R q hx => ⟨B, S, _, er, R, q, hx, fun J H1 xs S1 R1 m1 O q1 => ?_⟩
  refine ⟨fun i m σ2 H2 => m = xs.length - i ∧ i ≤ xs.length ∧ LoopI X.K B g t D er H1 xs i σ2 H2, ⟨_, rfl, Nat.zero_le _, S1, R1, .rfl, q1⟩, ?_⟩
  rintro i m σ2 H2 ⟨rfl, hi2, h⟩
  by_cases lt : i < xs.length
  · obtain ⟨S2, R2, m2, q2⟩ := h
    refine .inr ⟨O.go i H2 m2 lt, LoopI X.K B g t D er H1 xs (i + 1), fun σ' H' p => ⟨xs.length - (i + 1), by omega, rfl, lt, p⟩, fun x H3 y => ?_⟩
    obtain ⟨kp, d, e, z⟩ := O.yld i H2 x H3 m2 lt y
    rw [drop_of e] at q2
    exact loop_turn hx (m1.tr (m2.tr (mono_of kp))) (R2.grow kp) z q2 fun σ' H' S' R' m' q' => ⟨S', R', (m2.tr (mono_of kp)).tr m', q'⟩
  · have en : i = xs.length := by omega
    obtain ⟨S2, R2, m2, q2⟩ := h
    exact .inl ⟨O.stop i H2 m2 (by omega), loop_done m1 en ⟨S2, R2, m2, q2⟩⟩
/-! ### one for -/
theorem liftG_mono {K : PySem.W.Frag} {v : V} {σ : L2.St} {H : Hp} {Q Q' : L2.St → Hp → Prop} (h : liftG K us g v σ H Q) (f : ∀ σ' H', Q σ' H' → Q' σ' H') : liftG K us g v σ H Q' := by
  obtain ⟨B, S, x, k, a, b, c, d⟩ := h
  exact ⟨B, S, x, k, a, b, c, fun σ' H' S' r m l n q => f _ _ (d σ' H' S' r m l n q)⟩
theorem liftT_mono {K : PySem.W.Frag} {σ : L2.St} {H : Hp} {Q Q' : Bool → Hp → Prop} (h : liftT K W tt σ H Q) (f : ∀ b H', Q b H' → Q' b H') : liftT K W tt σ H Q' := by
  obtain ⟨B, S, k, e, a, b, c, d⟩ := h
  exact ⟨B, S, k, e, a, b, c, fun v H' z => f _ _ (d v H' z)⟩
theorem liftE_mono {K : PySem.W.Frag} {σ : L2.St} {H : Hp} {Q Q' : VK} (h : liftE K W te σ H Q) (f : ∀ b H', Q b H' → Q' b H') : liftE K W te σ H Q' := by
  obtain ⟨B, S, k, e, a, b, c, d⟩ := h
  exact ⟨B, S, k, e, a, b, c, fun v H' z => f _ _ (d v H' z)⟩
theorem CompI.base {K : PySem.W.Frag} {B : B3} {vs : List Nat} {k : List PyData → S3 → Prop} {xs : List PyData} {σ : L2.St} {H1 H3 H2 : Hp} {D : Addr} {i : Nat} (m : Mono H1 H3) (h : CompI K B vs g tt te k xs σ H3 D i H2) : CompI K B vs g tt te k xs σ H1 D i H2 := by
  obtain ⟨S2, av, ac, r, m2, a, b, c, d⟩ := h
  exact ⟨S2, av, ac, r, m.tr m2, a, b, c, d⟩
theorem comp_over {K : PySem.W.Frag} {B : B3} {vs : List Nat} {k : List PyData → S3 → Prop} {xs : List PyData} {σ : L2.St} {Hs H1 : Hp} {S1 : S3} {J : It} (hus : ∀ i ∈ us, i ∈ vs) (R1 : RS K B σ H1 S1) (m1 : Mono Hs H1) (O : ItOver K J H1 xs) (q1 : dComp vs g tt te k xs [] (S1.wipe vs)) {Q : VK}
    (hQ : ∀ v H2, KL K B σ Hs k v H2 → Q v H2) : ∀ D, H1 D = none → ∃ Wd : Nat → Nat → Hp → Prop, (∃ m, Wd 0 m (upd H1 D (.lst []))) ∧ ∀ i m H, Wd i m H →
      (J.stop i H ∧ Q (.ref D) H) ∨ (J.go i H ∧ ∃ Nx : Hp → Prop, (∀ H', Nx H' → ∃ m', m' < m ∧ Wd (i + 1) m' H') ∧ ∀ x H', J.yld i H x H' → liftG K us g x (L2.wipe σ vs) H' fun σ2 H2 => L2.wipe σ2 vs = L2.wipe σ vs ∧ liftT K noW tt σ2 H2 fun b H3 =>
        if b = true then liftE K noW te σ2 H3 fun y H4 => ∃ acc, H4 D = some (.lst acc) ∧ acc.length < sizeLine ∧ Nx (upd H4 D (.lst (acc ++ [y]))) else Nx H3) := by
  intro D hD
  obtain ⟨h0, hm⟩ := R1.fresh0 hD
  refine ⟨fun i m H2 => m = xs.length - i ∧ i ≤ xs.length ∧ CompI K B vs g tt te k xs σ H1 D i H2, ⟨_, rfl, Nat.zero_le _, comp_start R1 hD q1⟩, ?_⟩
  rintro i m H2 ⟨rfl, hi2, h⟩
  have mm : Mono H1 H2 := let ⟨_, _, _, _, m2, _⟩ := h; m2
  by_cases lt : i < xs.length
  · refine .inr ⟨O.go i H2 mm lt, CompI K B vs g tt te k xs σ H1 D (i + 1), fun H' p => ⟨xs.length - (i + 1), by omega, rfl, lt, p⟩, fun x H3 y => ?_⟩
    obtain ⟨kp, d, e, z⟩ := O.yld i H2 x H3 mm lt y
    have h3 : CompI K B vs g tt te k xs σ H3 D i H3 := by
      obtain ⟨S2, av, ac, r, m2, a, b, c, dd⟩ := h
      exact ⟨S2, av, ac, r.grow kp, .rfl, kp _ _ a, b.mono (mono_of kp), c, dd⟩
    have m13 : Mono H1 H3 := mm.tr (mono_of kp)
    refine liftG_mono (comp_step h0 hm hus e (fun H2 m2 => Dz.mono m2 _ _ z) h3) fun σ3 H4 ⟨e1, q⟩ => ⟨e1, liftT_mono q fun b H5 q => ?_⟩
    cases b with
    | false =>
      rw [if_neg Bool.false_ne_true] at q ⊢
      exact q.base m13
    | true =>
      rw [if_pos rfl] at q ⊢
      exact liftE_mono q fun y H6 ⟨acc, a1, a2, a3⟩ => ⟨acc, a1, a2, a3.base m13⟩
  · have en : i = xs.length := by omega
    exact .inl ⟨O.stop i H2 mm (by omega), hQ _ _ (comp_done h0 hm m1 en h)⟩
def dLcI (vs : List Nat) (ti : DTL) (g : DTG) (tt : DTT) (te : DTE) : DTL := fun S k e => ti S (fun xs S1 => dComp vs g tt te k xs [] (S1.wipe vs)) e
theorem d_lcI (hc : X.calm = true) (hN : X.N.Nodup) (hi : DI X W tg it ti) (ok : BlkOk X.N X.env.scope scope own) (hus : ∀ i ∈ us, i ∈ own.map (·.2))
    (hg : ∀ (s : Shared) (H : Hp) (C : Addr) (cl : List (Str × Addr)) (fp : List Addr), DG (X.blk s H scope (compEnvC scope cl C X.env) fp) tg us g)
    (ht : ∀ (s : Shared) (H : Hp) (C : Addr) (cl : List (Str × Addr)) (fp : List Addr), DPs (X.blk s H scope (compEnvC scope cl C X.env) fp) ifs tt)
    (he : ∀ (s : Shared) (H : Hp) (C : Addr) (cl : List (Str × Addr)) (fp : List Addr), DE (X.blk s H scope (compEnvC scope cl C X.env) fp) noW elt te) (hs : ∀ x, foldedSetIterable it X.env x = pure x := by intro _; rfl) :
    DL X W (.ListComp elt [⟨tg, it, ifs, 0⟩] scope pos) (dLcI (own.map (·.2)) ti g tt te) :=
  .of (pe_lc (g := liftG X.K us g) (tt := liftT X.K noW tt) (te := liftE X.K noW te) hc hN hi ok hg ht he hs) fun σ H B S k er R q hx =>
    ⟨B, S, _, er, R, q, hx, fun J H1 xs S1 R1 m1 O q1 => comp_over hus R1 m1 O q1 fun _ _ z => z⟩
/-- y = [..] on one line -/
theorem ds_setLcI {i : Nat} {y : Str} {py spos : Pos} (hc : X.calm = true) (hN : X.N.Nodup) (hy : X.N[i]? = some y) (hyl : X.env.scope.names.lookup y = some .local) (hsw : swapsWith (.ListComp elt [⟨tg, it, ifs, 0⟩] scope pos) (some (.Name y py)) spos.line X.env = pure true)
    (hi : DI X W tg it ti) (ok : BlkOk X.N X.env.scope scope own) (hus : ∀ i ∈ us, i ∈ own.map (·.2))
    (hg : ∀ (s : Shared) (H : Hp) (C : Addr) (cl : List (Str × Addr)) (fp : List Addr), DG (X.blk s H scope (compEnvC scope cl C X.env) fp) tg us g)
    (ht : ∀ (s : Shared) (H : Hp) (C : Addr) (cl : List (Str × Addr)) (fp : List Addr), DPs (X.blk s H scope (compEnvC scope cl C X.env) fp) ifs tt)
    (he : ∀ (s : Shared) (H : Hp) (C : Addr) (cl : List (Str × Addr)) (fp : List Addr), DE (X.blk s H scope (compEnvC scope cl C X.env) fp) noW elt te) (hs : ∀ x, foldedSetIterable it X.env x = pure x := by intro _; rfl) :
    DS X W (.Assign [.Name y py] (.ListComp elt [⟨tg, it, ifs, 0⟩] scope pos) spos) (dSetFz i (dLcI (own.map (·.2)) ti g tt te)) :=
  .of (ps_setLc (g := liftG X.K us g) (tt := liftT X.K noW tt) (te := liftE X.K noW te) hc hN hy hyl hsw hi ok hg ht he hs) fun σ H B S D er R q hx =>
    ⟨B, S, _, er, R, q, hx, fun J H1 xs S1 R1 m1 O q1 => comp_over (Q := fun v H2 => (KS X.K B H D).nx (σ.set i (some v)) H2) (k := fun xs S1 => D.nx { S1 with G := S1.G.set i (some (.own xs)) }) hus R1 m1 O q1 fun v H2 ⟨ys, S2, R2, m2, rl, q2⟩ => ⟨_, R2.setO rl, m2, q2⟩⟩
end
end
end D3
/-! D3u: comprehensions with two fors. -/
namespace D3
open PySem PySem.Spec PyProof.Rows L2
section
variable [Tb]
theorem wipe_sub {σ : L2.St} {vs ws : List Nat} (h : ∀ i ∈ ws, i ∈ vs) : L2.wipe (L2.wipe σ ws) vs = L2.wipe σ vs := by
  apply List.ext_getElem?
  intro j
  simp only [wipe_get]
  by_cases q : j ∈ vs
  · simp only [if_pos q]
    by_cases q2 : j ∈ ws
    · simp only [if_pos q2]
      cases σ[j]? <;> rfl
    · simp only [if_neg q2]
  · have q2 : j ∉ ws := fun z => q (h j z)
    simp only [if_neg q, if_neg q2]
def dComp2 (vs vs1 : List Nat) (g : DTG) (tt : DTT) (ti1 : DTL) (g1 : DTG) (tt1 : DTT) (te : DTE) (k : List PyData → S3 → Prop) : List PyData → List PyData → S3 → Prop
  | [], acc, S => k acc (S.wipe vs)
  | x :: xs, acc, S => g x S fun S1 => tt S1 (fun b S2 => iteB b (ti1 S2 (fun ys S3 => dComp vs1 g1 tt1 te (fun acc2 S4 => dComp2 vs vs1 g tt ti1 g1 tt1 te k xs acc2 (S4.wipe vs)) ys acc (S3.wipe vs1)) noE)
      (dComp2 vs vs1 g tt ti1 g1 tt1 te k xs acc (S2.wipe vs))) noE
section
variable {K : PySem.W.Frag} {B : B3} {us us1 vs vs1 : List Nat} {g g1 : DTG} {tt tt1 : DTT} {te : DTE} {ti1 : DTL} {k : List PyData → S3 → Prop} {xs : List PyData} {σ : L2.St} {H1 : Hp} {D : Addr} {J : It}
/-- a walk that fills the list at D -/
theorem comp_loop (h0 : B.H0 D = none) (hm : D ∉ B.ms) (hus : ∀ i ∈ us, i ∈ vs) (O : ItOver K J H1 xs) {Q : Hp → Prop} (hQ : ∀ H2, CompI K B vs g tt te k xs σ H1 D xs.length H2 → Q H2) :
    ∀ i m H2, (m = xs.length - i ∧ i ≤ xs.length ∧ CompI K B vs g tt te k xs σ H1 D i H2) →
      (J.stop i H2 ∧ Q H2) ∨ (J.go i H2 ∧ ∃ Nx : Hp → Prop, (∀ H', Nx H' → ∃ m', m' < m ∧ (m' = xs.length - (i + 1) ∧ i + 1 ≤ xs.length ∧ CompI K B vs g tt te k xs σ H1 D (i + 1) H')) ∧ ∀ x H', J.yld i H2 x H' → liftG K us g x (L2.wipe σ vs) H' fun σ2 H2 => L2.wipe σ2 vs = L2.wipe σ vs ∧ liftT K noW tt σ2 H2 fun b H3 =>
        if b = true then liftE K noW te σ2 H3 fun y H4 => ∃ acc, H4 D = some (.lst acc) ∧ acc.length < sizeLine ∧ Nx (upd H4 D (.lst (acc ++ [y]))) else Nx H3) := by
  rintro i m H2 ⟨rfl, hi2, h⟩
  have mm : Mono H1 H2 := let ⟨_, _, _, _, m2, _⟩ := h; m2
  by_cases lt : i < xs.length
  · refine .inr ⟨O.go i H2 mm lt, CompI K B vs g tt te k xs σ H1 D (i + 1), fun H' p => ⟨xs.length - (i + 1), by omega, rfl, lt, p⟩, fun x H3 y => ?_⟩
    obtain ⟨kp, d, e, z⟩ := O.yld i H2 x H3 mm lt y
    have h3 : CompI K B vs g tt te k xs σ H3 D i H3 := by
      obtain ⟨S2, av, ac, r, m2, a, b, c, dd⟩ := h
      exact ⟨S2, av, ac, r.grow kp, .rfl, kp _ _ a, b.mono (mono_of kp), c, dd⟩
    have m13 : Mono H1 H3 := mm.tr (mono_of kp)
    refine liftG_mono (comp_step h0 hm hus e (fun H2 m2 => Dz.mono m2 _ _ z) h3) fun σ3 H4 ⟨e1, q⟩ => ⟨e1, liftT_mono q fun b H5 q => ?_⟩
    cases b with
    | false =>
      rw [if_neg Bool.false_ne_true] at q ⊢
      exact q.base m13
    | true =>
      rw [if_pos rfl] at q ⊢
      exact liftE_mono q fun y H6 ⟨acc, a1, a2, a3⟩ => ⟨acc, a1, a2, a3.base m13⟩
  · have en : i = xs.length := by omega
    subst en
    exact .inl ⟨O.stop _ H2 mm (Nat.le_refl _), hQ _ h⟩
def CompI2 (K : PySem.W.Frag) (B : B3) (vs vs1 : List Nat) (g : DTG) (tt : DTT) (ti1 : DTL) (g1 : DTG) (tt1 : DTT) (te : DTE) (k : List PyData → S3 → Prop) (xs : List PyData) (σ : L2.St) (H1 : Hp) (D : Addr) (i : Nat) (H2 : Hp) : Prop :=
  ∃ S2 accV acc, RS K B (L2.wipe σ vs) H2 S2 ∧ Mono H1 H2 ∧ H2 D = some (.lst accV) ∧ DzA K H2 accV acc ∧ (∀ (i : Nat) ys, S2.G[i]? = some (some (.own ys)) → (L2.wipe σ vs)[i]? ≠ some (some (.ref D))) ∧ dComp2 vs vs1 g tt ti1 g1 tt1 te k (xs.drop i) acc S2
/-- from a frame that agrees but at vs: what the list at D holds -/
theorem own_wiped {σ σ2 : L2.St} {S : S3} {H : Hp} (e : L2.wipe σ2 vs = L2.wipe σ vs) (h : ∀ (i : Nat) ys, S.G[i]? = some (some (.own ys)) → σ2[i]? ≠ some (some (.ref D))) : ∀ (i : Nat) ys, (S.wipe vs).G[i]? = some (some (.own ys)) → (L2.wipe σ vs)[i]? ≠ some (some (.ref D)) := by
  intro i ys q z
  obtain ⟨q1, q2⟩ := wipeG_some q
  refine h i ys q1 ?_
  rw [← e, wipe_get, if_neg q2] at z
  exact z
theorem comp2_over (hus : ∀ i ∈ us, i ∈ vs) (hus1 : ∀ i ∈ us1, i ∈ vs1) (hvs : ∀ i ∈ vs1, i ∈ vs) {Hs : Hp} {S1 : S3} (R1 : RS K B σ H1 S1) (m1 : Mono Hs H1) (O : ItOver K J H1 xs) (q1 : dComp2 vs vs1 g tt ti1 g1 tt1 te k xs [] (S1.wipe vs)) {Q : VK}
    (hQ : ∀ v H2, KL K B σ Hs k v H2 → Q v H2) : ∀ D, H1 D = none → ∃ Wd : Nat → Nat → Hp → Prop, (∃ m, Wd 0 m (upd H1 D (.lst []))) ∧ ∀ i m H, Wd i m H →
      (J.stop i H ∧ Q (.ref D) H) ∨ (J.go i H ∧ ∃ Nx : Hp → Prop, (∀ H', Nx H' → ∃ m', m' < m ∧ Wd (i + 1) m' H') ∧ ∀ x H', J.yld i H x H' → liftG K us g x (L2.wipe σ vs) H' fun σ2 H2 => L2.wipe σ2 vs = L2.wipe σ vs ∧ liftT K noW tt σ2 H2 fun b H3 =>
        if b = true then liftI K noW ti1 σ2 H3 fun J1 H4 => ∃ W1 : Nat → Nat → Hp → Prop, (∃ m, W1 0 m H4) ∧ ∀ j k H, W1 j k H →
          (J1.stop j H ∧ Nx H) ∨ (J1.go j H ∧ ∃ Nx1 : Hp → Prop, (∀ H', Nx1 H' → ∃ k', k' < k ∧ W1 (j + 1) k' H') ∧ ∀ x H', J1.yld j H x H' → liftG K us1 g1 x (L2.wipe σ2 vs1) H' fun σ3 H5 => L2.wipe σ3 vs1 = L2.wipe σ2 vs1 ∧ liftT K noW tt1 σ3 H5 fun b H6 =>
            if b = true then liftE K noW te σ3 H6 fun y H7 => ∃ acc, H7 D = some (.lst acc) ∧ acc.length < sizeLine ∧ Nx1 (upd H7 D (.lst (acc ++ [y]))) else Nx1 H6)
        else Nx H3) := by
  intro D hD
  obtain ⟨h0, hm⟩ := R1.fresh0 hD
  have start : CompI2 K B vs vs1 g tt ti1 g1 tt1 te k xs σ H1 D 0 (upd H1 D (.lst [])) := by
    have R2 : RS K B (L2.wipe σ vs) H1 (S1.wipe vs) := R1.wiped wipe_idem
    obtain ⟨a, ws, e, _, _, _, _, h⟩ := RL.new (vs := []) (ds := []) R2 hD .nil
    cases e
    exact ⟨S1.wipe vs, [], [], R2.new hD, .new hD, upd_same, .nil, h, q1⟩
  refine ⟨fun i m H2 => m = xs.length - i ∧ i ≤ xs.length ∧ CompI2 K B vs vs1 g tt ti1 g1 tt1 te k xs σ H1 D i H2, ⟨_, rfl, Nat.zero_le _, start⟩, ?_⟩
  rintro i m H2 ⟨rfl, hi2, h⟩
  have mm : Mono H1 H2 := let ⟨_, _, _, _, m2, _⟩ := h; m2
  by_cases lt : i < xs.length
  · refine .inr ⟨O.go i H2 mm lt, CompI2 K B vs vs1 g tt ti1 g1 tt1 te k xs σ H1 D (i + 1), fun H' p => ⟨xs.length - (i + 1), by omega, rfl, lt, p⟩, fun x H3 y => ?_⟩
    obtain ⟨kp, d, e, z⟩ := O.yld i H2 x H3 mm lt y
    obtain ⟨S2, accV, acc, R2, m2, hD2, za, ho, q⟩ := h
    rw [drop_of e] at q
    have R3 := R2.grow kp
    have hD3 := kp _ _ hD2
    have za3 := za.mono (mono_of kp)
    have m3 : Mono H1 H3 := m2.tr (mono_of kp)
    refine ⟨⟨upd B.H0 D (.lst accV), B.ms⟩, S2, d, _, R3.push hD3 hm ho, z, q, fun σ3 H4 S4 R4 m4 l4 _ q4 => ?_⟩
    have ew : L2.wipe σ3 vs = L2.wipe σ vs := (l4 vs hus).trans wipe_idem
    refine ⟨ew, liftT.in (t := tt) R4 q4 HX.no fun b H5 S5 R5 m5 q5 => ?_⟩
    have m15 : Mono H1 H5 := (m3.tr m4).tr m5
    cases b with
    | false =>
      rw [if_neg Bool.false_ne_true]
      obtain ⟨R6, hD6, ho6⟩ := RS.pop (R5.wiped (σ' := L2.wipe σ vs) (vs := vs) (wipe_idem.trans ew.symm)) h0 hm
      exact ⟨_, accV, acc, R6, m15, hD6, za3.mono (m4.tr m5), ho6, q5⟩
    | true =>
      rw [if_pos rfl]
      refine ⟨_, S5, _, _, R5, q5, HX.no, fun J1 H6 ys S6 R6 m6 O1 q6 => ?_⟩
      obtain ⟨R7, hD7, ho7⟩ := RS.pop R6 h0 hm
      have za7 := za3.mono ((m4.tr m5).tr m6)
      have m16 : Mono H1 H6 := m15.tr m6
      refine ⟨fun j m H7 => m = ys.length - j ∧ j ≤ ys.length ∧ CompI K B vs1 g1 tt1 te (fun acc2 S4 => dComp2 vs vs1 g tt ti1 g1 tt1 te k (xs.drop (i + 1)) acc2 (S4.wipe vs)) ys σ3 H6 D j H7, ⟨_, rfl, Nat.zero_le _, ?_⟩, comp_loop h0 hm hus1 O1 fun H7 h7 => ?_⟩
      · exact ⟨S6.wipe vs1, accV, acc, R7.wiped wipe_idem, .rfl, hD7, za7, own_wiped (H := H6) rfl ho7, q6⟩
      · obtain ⟨S8, av8, ac8, R8, m8, hD8, za8, ho8, q8⟩ := h7
        rw [List.drop_length] at q8
        have q8 : dComp2 vs vs1 g tt ti1 g1 tt1 te k (xs.drop (i + 1)) ac8 ((S8.wipe vs1).wipe vs) := q8
        have R9 : RS K B (L2.wipe σ3 vs1) H7 (S8.wipe vs1) := R8.wiped rfl
        have ew2 : L2.wipe (L2.wipe σ3 vs1) vs = L2.wipe σ vs := (wipe_sub hvs).trans ew
        have R10 : RS K B (L2.wipe σ vs) H7 ((S8.wipe vs1).wipe vs) := R9.wiped (wipe_idem.trans ew2.symm)
        refine ⟨_, av8, ac8, R10, m16.tr m8, hD8, za8, own_wiped (H := H7) ew2 fun i ys q z => ?_, q8⟩
        obtain ⟨g1', _⟩ := wipeG_some q
        exact ho8 i ys g1' z
  · have en : i = xs.length := by omega
    subst en
    refine .inl ⟨O.stop _ H2 mm (Nat.le_refl _), hQ _ _ ?_⟩
    obtain ⟨S2, accV, acc, R2, m2, hD2, za, ho, q⟩ := h
    rw [List.drop_length] at q
    have R3 : RS K B σ H2 (S2.wipe vs) := R2.wiped wipe_idem.symm
    refine ⟨acc, S2.wipe vs, R3, m1.tr m2, ⟨D, accV, rfl, hD2, za, h0, hm, fun i ys e1 e2 => ?_⟩, q⟩
    obtain ⟨q1, q2⟩ := wipeG_some e1
    refine ho i ys q1 ?_
    rw [wipe_get, if_neg q2]
    exact e2
end
section
variable {X : Cx} {W : WX} {us us1 vs1 : List Nat} {tg it tg1 it1 elt : Expr} {ifs ifs1 : List Expr} {ti ti1 : DTL} {g g1 : DTG} {tt tt1 : DTT} {te : DTE} {pos : Pos} {scope : Scope} {own : List (Str × Nat)}
def dLc2 (vs vs1 : List Nat) (ti : DTL) (g : DTG) (tt : DTT) (ti1 : DTL) (g1 : DTG) (tt1 : DTT) (te : DTE) : DTL := fun S k e => ti S (fun xs S1 => dComp2 vs vs1 g tt ti1 g1 tt1 te k xs [] (S1.wipe vs)) e
theorem d_lc2 (hc : X.calm = true) (hN : X.N.Nodup) (hi : DI X W tg it ti) (ok : BlkOk X.N X.env.scope scope own) (hv : ∀ i ∈ vs1, i ∈ own.map (·.2)) (hus : ∀ i ∈ us, i ∈ own.map (·.2)) (hus1 : ∀ i ∈ us1, i ∈ vs1)
    (hg : ∀ (s : Shared) (H : Hp) (C : Addr) (cl : List (Str × Addr)) (fp : List Addr), DG (X.blk s H scope (compEnvC scope cl C X.env) fp) tg us g)
    (ht : ∀ (s : Shared) (H : Hp) (C : Addr) (cl : List (Str × Addr)) (fp : List Addr), DPs (X.blk s H scope (compEnvC scope cl C X.env) fp) ifs tt)
    (hi1 : ∀ (s : Shared) (H : Hp) (C : Addr) (cl : List (Str × Addr)) (fp : List Addr), DI (X.blk s H scope (compEnvC scope cl C X.env) fp) noW tg1 it1 ti1)
    (hg1 : ∀ (s : Shared) (H : Hp) (C : Addr) (cl : List (Str × Addr)) (fp : List Addr), DG (X.blk s H scope (compEnvC scope cl C X.env) fp) tg1 us1 g1)
    (ht1 : ∀ (s : Shared) (H : Hp) (C : Addr) (cl : List (Str × Addr)) (fp : List Addr), DPs (X.blk s H scope (compEnvC scope cl C X.env) fp) ifs1 tt1)
    (he : ∀ (s : Shared) (H : Hp) (C : Addr) (cl : List (Str × Addr)) (fp : List Addr), DE (X.blk s H scope (compEnvC scope cl C X.env) fp) noW elt te) (hs : ∀ x, foldedSetIterable it X.env x = pure x := by intro _; rfl) (hs1 : ∀ env x, foldedSetIterable it1 env x = pure x := by intro _ _; rfl) :
    DL X W (.ListComp elt [⟨tg, it, ifs, 0⟩, ⟨tg1, it1, ifs1, 0⟩] scope pos) (dLc2 (own.map (·.2)) vs1 ti g tt ti1 g1 tt1 te) :=
  .of (pe_lc2 (vs1 := vs1) (g := liftG X.K us g) (tt := liftT X.K noW tt) (wi1 := liftI X.K noW ti1) (g1 := liftG X.K us1 g1) (tt1 := liftT X.K noW tt1) (te := liftE X.K noW te) hc hN hi ok hv hg ht hi1 hg1 ht1 he hs hs1) fun σ H B S k er R q hx =>
    ⟨B, S, _, er, R, q, hx, fun J H1 xs S1 R1 m1 O q1 => comp2_over hus hus1 hv R1 m1 O q1 fun _ _ z => z⟩
end
end
end D3
/-! D3v: x += e; list(..); what a walk goes over. -/
namespace D3
open PySem PySem.Spec PyProof.Rows L2
section
variable [Tb]
section
variable {X : Cx} {W : WX} {x : Str} {i : Nat} {e a b : Expr} {te ta tb : DTE} {op : Operator} {f : Int → Int → Int} {pos pos' p : Pos}
/-- x += e of ints -/
def dAug (i : Nat) (f : Int → Int → Int) (te : DTE) : DTS := fun D S er => match S.G[i]? with
  | some (some (.d (.int a))) => te S (fun r S1 => match r with
    | .d (.int b) => D.nx { S1 with G := S1.G.set i (some (.d (.int (f a b)))) }
    | _ => False) er
  | _ => False
theorem ds_aug (ho : PIp X op (ipI f)) (hN : X.N.Nodup) (hi : X.N[i]? = some x) (hx : L2.Loc X.env.scope x) (he : DE X W e te) (hf : X.fn x = true ∨ X.env.scope.names.lookup x = some .local := by first | exact .inl rfl | exact .inr rfl | assumption) :
    DS X W (.AugAssign (.Name x pos') op e pos) (dAug i f te) := by
  refine .of (ps_aug hN hi hx he ho hf) fun σ H B S D er R q hx => ?_
  unfold dAug at q
  split at q
  · rename_i n e1
    obtain ⟨v, hσ, hv⟩ := R.slot i _ e1
    cases (show Dz _ _ _ _ from hv)
    refine ⟨.int n, hσ, liftE.in (t := te) R q hx fun w H1 r S1 R1 m1 rr q1 => ?_⟩
    match r, rr, q1 with
    | .d (.int m), rr, q1 =>
      cases (show Dz _ _ _ _ from rr)
      exact ⟨n, m, rfl, rfl, _, R1.setD (r := .d (.int (f n m))) (Dz.int _), m1, q1⟩
  · exact q.elim
/-- list(xs): a new one -/
def dListOf (ta : DTE) : DTL := fun S k e => ta S (fun r S1 => match r with
  | .d (.list xs) => k xs S1
  | .d (.tuple xs) => k xs S1
  | _ => False) e
theorem d_listOf (hg : Gl X "list") (hm : X.mg "list" = none) (hv : bootBuiltins "list" = some (.type "list")) (ha : DE X W a ta) (he : starEach [a] X.env = (false, eval a X.env) :: starEach [] X.env := by rfl) (hpl : (backTo pos (starEach [] X.env)).any (·.1) = false := by rfl) :
    DL X W (.Call (.Name "list" p) [a] [] pos) (dListOf ta) := by
  refine .mk fun pins s σ H B S k er I R q hx => ?_
  refine wpAny_Call_Name_kw (ld_blt I hg hm hv ?_ (by decide) (by decide))
  refine PyProof.Rows.callWith_type1 (thn ((da_cons ha da_nil he).go I R (k := fun rs S1 => ∃ r, rs = [r] ∧ (match r with
    | .d (.list xs) => k xs S1
    | .d (.tuple xs) => k xs S1
    | _ => False)) (one_arg q fun r S1 => ⟨fun z => ⟨r, rfl, z⟩, fun ⟨r', e', z⟩ => by cases e'; exact z⟩) hx) fun us s1 ⟨vs, H1, I1, rv, rs, S1, R1, m1, rr, r, er, q1⟩ => ?_) he hpl
  subst er
  obtain ⟨v, rfl, r1⟩ := rr.one
  clear rr
  match r, r1, q1 with
  | .d (.list xs), rr, q1 =>
    cases (show Dz _ _ _ _ from rr) with
    | lst h1 h2 => exact call_list_of pins s1 σ H1 _ us _ I1 rv ⟨_, _, rfl, .inl h1.sq, fun l hl => ⟨xs, S1, R1.new hl, m1.tr (.new hl), .new R1 hl h2, q1⟩⟩
  | .d (.tuple xs), rr, q1 =>
    cases (show Dz _ _ _ _ from rr) with
    | tup h1 h2 => exact call_list_of pins s1 σ H1 _ us _ I1 rv ⟨_, _, rfl, .inr h1, fun l hl => ⟨xs, S1, R1.new hl, m1.tr (.new hl), .new R1 hl h2, q1⟩⟩
end
/-! ### two more walks -/
section
variable {X : Cx} {W : WX} {tg a b : Expr} {ta tb : DTE} {p pos : Pos}
def dRg2 (ta tb : DTE) : DTL := fun S k e => ta S (fun r S1 => tb S1 (fun r' S2 => match r, r' with
  | .d (.int i), .d (.int j) => inR i ∧ inR j ∧ k (rangeD i (j - i).toNat) S2
  | _, _ => False) e) e
theorem two_args {ta tb : DTE} {S : S3} {er : ED} {k P : SV → SV → S3 → Prop} (q : ta S (fun r S1 => tb S1 (fun r' S2 => k r r' S2) er) er) (h : ∀ r r' S2, k r r' S2 ↔ P r r' S2) : ta S (fun r S1 => tb S1 (fun r' S2 => P r r' S2) er) er :=
  cast (congrArg (fun k => ta S k er) (funext fun r => funext fun S1 => congrArg (fun k => tb S1 k er) (funext fun r' => funext fun S2 => propext (h r r' S2)))) q
theorem di_range2 (hgl : Gl X "range") (hm : X.mg "range" = none) (ha : DE X W a ta) (hb : DE X W b tb) (hA : starEach [a, b] X.env = (false, eval a X.env) :: starEach [b] X.env := by rfl) (hB : starEach [b] X.env = (false, eval b X.env) :: starEach [] X.env := by rfl)
    (hA2 : starEach [a, b] X.env = [(false, eval a X.env), (false, eval b X.env)] := by rfl) (hB2 : starEach [b] X.env = [(false, eval b X.env)] := by rfl) : DI X W tg (.Call (.Name "range" p) [a, b] [] pos) (dRg2 ta tb) :=
  .of (pi_range2 hgl hm (da_cons (W := W) ha (da_cons hb da_nil hB) hA) hA2 hB2) fun σ H B S k er R RS_ q hx g =>
    liftA.in (t := dCons ta (dCons tb dNil)) (k := fun rs S1 => ∃ i j, rs = [.d (.int i), .d (.int j)] ∧ inR i ∧ inR j ∧ k (rangeD i (j - i).toNat) S1) RS_ (by
      refine two_args (P := fun r r' S1 => ∃ i j, [r, r'] = [SV.d (.int i), SV.d (.int j)] ∧ inR i ∧ inR j ∧ k (rangeD i (j - i).toNat) S1) q fun r r' S1 => ?_
      constructor
      · intro z
        match r, r', z with
        | .d (.int i), .d (.int j), z => exact ⟨i, j, rfl, z⟩
      · rintro ⟨i, j, e, z⟩
        cases e
        exact z) hx fun vs H1 rs S1 R1 m1 rrs q1 => by
      obtain ⟨i, j, rfl, ⟨i1, i2⟩, ⟨j1, j2⟩, q1⟩ := q1
      obtain ⟨v, w, rfl, r1, r2⟩ := rrs.two
      cases (show Dz _ _ _ _ from r1)
      cases (show Dz _ _ _ _ from r2)
      exact ⟨i, j, rfl, ⟨i1, i2, j1, j2⟩, g _ _ _ _ R1 m1 over_range q1⟩
def pairD (xs ys : List PyData) : List PyData := (xs.zip ys).map fun p => .tuple [p.1, p.2]
def dZip (ta tb : DTE) : DTL := fun S k e => ta S (fun r S1 => tb S1 (fun r' S2 => match r, r' with
  | .d (.list xs), .d (.list ys) => k (pairD xs ys) S2
  | .d (.tuple xs), .d (.tuple ys) => k (pairD xs ys) S2
  | _, _ => False) e) e
theorem di_zip {elts : List Expr} {kk : Nat} {tpos : Pos} (hgl : Gl X "zip") (hm : X.mg "zip" = none) (ha : DE X W a ta) (hb : DE X W b tb) (hA : starEach [a, b] X.env = (false, eval a X.env) :: starEach [b] X.env := by rfl) (hB : starEach [b] X.env = (false, eval b X.env) :: starEach [] X.env := by rfl) (hpl : (backTo pos (starEach [b] X.env)).any (·.1) = false := by rfl) :
    DI X W (.Tuple elts kk tpos) (.Call (.Name "zip" p) [a, b] [] pos) (dZip ta tb) :=
  .of (RZ.pi_zipA hgl hm (da_cons (W := W) ha (da_cons hb da_nil hB) hA) hA hpl) fun σ H B S k er R RS_ q hx g =>
    liftA.in (t := dCons ta (dCons tb dNil)) (k := fun rs S1 => ∃ r r', rs = [r, r'] ∧ (match r, r' with
      | .d (.list xs), .d (.list ys) => k (pairD xs ys) S1
      | .d (.tuple xs), .d (.tuple ys) => k (pairD xs ys) S1
      | _, _ => False)) RS_ (two_args (P := fun r r' S1 => ∃ p p', [r, r'] = [p, p'] ∧ (match p, p' with
      | .d (.list xs), .d (.list ys) => k (pairD xs ys) S1
      | .d (.tuple xs), .d (.tuple ys) => k (pairD xs ys) S1
      | _, _ => False)) q fun r r' S1 => ⟨fun z => ⟨r, r', rfl, z⟩, fun ⟨p, p', e, z⟩ => by cases e; exact z⟩) hx fun vs H1 rs S1 R1 m1 rrs q1 => by
      obtain ⟨r, r', rfl, q1⟩ := q1
      obtain ⟨v, w, rfl, r1, r2⟩ := rrs.two
      match r, r', r1, r2, q1 with
      | .d (.list xs), .d (.list ys), r1, r2, q1 =>
        cases (show Dz _ _ _ _ from r1) with
        | lst h1 h2 =>
          cases (show Dz _ _ _ _ from r2) with
          | lst k1 k2 => exact ⟨_, _, _, _, rfl, .inl ⟨h1.sq, k1.sq, g _ _ _ _ R1 m1 (over_zip h1 h2 k1 k2) q1⟩⟩
      | .d (.tuple xs), .d (.tuple ys), r1, r2, q1 =>
        cases (show Dz _ _ _ _ from r1) with
        | tup h1 h2 =>
          cases (show Dz _ _ _ _ from r2) with
          | tup k1 k2 => exact ⟨_, _, _, _, rfl, .inr ⟨h1, k1, g _ _ _ _ R1 m1 (over_zipT h1 h2 k1 k2) q1⟩⟩
end
end
end D3
/-! D3w: a, b = x, y with lists of one's own; three at once. -/
namespace D3
open PySem PySem.Spec PyProof.Rows L2
section
variable [Tb]
theorem RL.setD {K : PySem.W.Frag} {B : B3} {σ : L2.St} {S : S3} {H : Hp} {xs : List PyData} {v w : V} {i : Nat} {r : SV} (h : RL K B σ S H xs w) (n : ∀ ys, r ≠ .own ys) : RL K B (σ.set i (some v)) { S with G := S.G.set i (some r) } H xs w := by
  obtain ⟨a, vs, e, h1, h2, h3, h4, h5⟩ := h
  refine ⟨a, vs, e, h1, h2, h3, h4, fun j ys q z => ?_⟩
  rcases set_get q with ⟨_, q, _⟩ | ⟨ne, q⟩
  · cases q
    exact n ys rfl
  · rw [List.getElem?_set_ne ne] at z
    exact h5 j ys q z
section
variable {X : Cx} {W : WX} {i j : Nat} {x y : Str} {a b : Expr} {ta tb : DTE} {la lb : DTL} {px py pt : Pos} {kt k2 : Nat} {pt2 pos : Pos}
/-- the second is a new list -/
def dParEL (i j : Nat) (ta : DTE) (lb : DTL) : DTS := fun D S e => ta S (fun r S1 => lb S1 (fun ys S2 => D.nx { S2 with G := (S2.G.set i (some r)).set j (some (.own ys)) }) e) e
theorem ds_parEL (hc : X.calm = true) (hN : X.N.Nodup) (hi : X.N[i]? = some x) (hj : X.N[j]? = some y) (hij : i ≠ j) (hx : X.env.scope.names.lookup x = some .local) (hy : X.env.scope.names.lookup y = some .local) (ha : DE X W a ta) (hb : DL X W b lb)
    (hw : swappedStores [.Tuple [.Name x px, .Name y py] kt pt] (.Tuple [a, b] k2 pt2) X.env = pure (some [x, y]))
    (hs : swapsWithSole [.Tuple [.Name x px, .Name y py] kt pt] (.Tuple [a, b] k2 pt2) pos.line X.env = pure false := by rfl)
    (hA : starEach [a, b] X.env = (false, eval a X.env) :: starEach [b] X.env := by rfl) (hB : starEach [b] X.env = (false, eval b X.env) :: starEach [] X.env := by rfl) :
    DS X W (.Assign [.Tuple [.Name x px, .Name y py] kt pt] (.Tuple [a, b] k2 pt2) pos) (dParEL i j ta lb) :=
  .of (ps_par hc hN hi hj hij hx hy (pa_cons ha (pa_cons hb pa_nil hB) hA) hw hs) fun σ H B S D er R q hx =>
    liftE.in (t := ta) R q hx fun v H1 r S1 R1 m1 rr q1 => liftL.in (t := lb) R1 q1 hx fun w H2 ys S2 R2 m2 rl q2 =>
      ⟨v, w, rfl, _, (R2.setD (rr.mono m2)).setO (rl.setD rr.no), m1.tr m2, q2⟩
/-- the first is a new list -/
def dParLE (i j : Nat) (la : DTL) (tb : DTE) : DTS := fun D S e => la S (fun xs S1 => tb S1 (fun r S2 => D.nx { S2 with G := (S2.G.set i (some (.own xs))).set j (some r) }) e) e
/-- beside a new list an expression is read -/
theorem beside {K : PySem.W.Frag} {B : B3} {σ : L2.St} {H1 : Hp} {S1 : S3} {xs : List PyData} {v : V} (R1 : RS K B σ H1 S1) (rl : RL K B σ S1 H1 xs v) (hx : ∀ e : ED, HX K W B e → HX K W B e) :
    ∃ a vs, v = .ref a ∧ RS K ⟨upd B.H0 a (.lst vs), B.ms⟩ σ H1 S1 ∧ B.H0 a = none ∧ a ∉ B.ms ∧ DzA K H1 vs xs := by
  obtain ⟨a, vs, e, h1, h2, h3, h4, h5⟩ := rl
  exact ⟨a, vs, e, R1.push h1 h4 h5, h3, h4, h2⟩
theorem HX.push {K : PySem.W.Frag} {B : B3} {er : ED} {a : Addr} {vs : List V} (hx : HX K W B er) (h0 : B.H0 a = none) (hm : a ∉ B.ms) : HX K W ⟨upd B.H0 a (.lst vs), B.ms⟩ er := fun x S' σ' cls d H' R xr q =>
  hx x S' σ' cls d H' (RS.pop R h0 hm).1 xr q
theorem ds_parLE (hc : X.calm = true) (hN : X.N.Nodup) (hi : X.N[i]? = some x) (hj : X.N[j]? = some y) (hij : i ≠ j) (hx : X.env.scope.names.lookup x = some .local) (hy : X.env.scope.names.lookup y = some .local) (ha : DL X W a la) (hb : DE X W b tb)
    (hw : swappedStores [.Tuple [.Name x px, .Name y py] kt pt] (.Tuple [a, b] k2 pt2) X.env = pure (some [x, y]))
    (hs : swapsWithSole [.Tuple [.Name x px, .Name y py] kt pt] (.Tuple [a, b] k2 pt2) pos.line X.env = pure false := by rfl)
    (hA : starEach [a, b] X.env = (false, eval a X.env) :: starEach [b] X.env := by rfl) (hB : starEach [b] X.env = (false, eval b X.env) :: starEach [] X.env := by rfl) :
    DS X W (.Assign [.Tuple [.Name x px, .Name y py] kt pt] (.Tuple [a, b] k2 pt2) pos) (dParLE i j la tb) :=
  .of (ps_par hc hN hi hj hij hx hy (pa_cons ha (pa_cons hb pa_nil hB) hA) hw hs) fun σ H B S D er R q hx =>
    liftL.in (t := la) R q hx fun v H1 xs S1 R1 m1 rl q1 => by
      obtain ⟨p, vs, rfl, RP, h0, hm, z⟩ := beside (W := W) R1 rl fun _ h => h
      refine liftE.in (t := tb) RP q1 (hx.push h0 hm) fun w H2 r S2 R2 m2 rr q2 => ?_
      obtain ⟨R3, hp, ho⟩ := RS.pop R2 h0 hm
      have rl2 : RL X.K B σ S2 H2 xs (.ref p) := ⟨p, vs, rfl, hp, z.mono m2, h0, hm, ho⟩
      exact ⟨_, w, rfl, _, (R3.setO rl2).setD (RR.base (B := ⟨upd B.H0 p (.lst vs), B.ms⟩) (B' := B) rfl rr), m1.tr m2, q2⟩
/-- both are new lists -/
def dParLL (i j : Nat) (la lb : DTL) : DTS := fun D S e => la S (fun xs S1 => lb S1 (fun ys S2 => D.nx { S2 with G := (S2.G.set i (some (.own xs))).set j (some (.own ys)) }) e) e
theorem ds_parLL (hc : X.calm = true) (hN : X.N.Nodup) (hi : X.N[i]? = some x) (hj : X.N[j]? = some y) (hij : i ≠ j) (hx : X.env.scope.names.lookup x = some .local) (hy : X.env.scope.names.lookup y = some .local) (ha : DL X W a la) (hb : DL X W b lb)
    (hw : swappedStores [.Tuple [.Name x px, .Name y py] kt pt] (.Tuple [a, b] k2 pt2) X.env = pure (some [x, y]))
    (hs : swapsWithSole [.Tuple [.Name x px, .Name y py] kt pt] (.Tuple [a, b] k2 pt2) pos.line X.env = pure false := by rfl)
    (hA : starEach [a, b] X.env = (false, eval a X.env) :: starEach [b] X.env := by rfl) (hB : starEach [b] X.env = (false, eval b X.env) :: starEach [] X.env := by rfl) :
    DS X W (.Assign [.Tuple [.Name x px, .Name y py] kt pt] (.Tuple [a, b] k2 pt2) pos) (dParLL i j la lb) :=
  .of (ps_par hc hN hi hj hij hx hy (pa_cons ha (pa_cons hb pa_nil hB) hA) hw hs) fun σ H B S D er R q hx =>
    liftL.in (t := la) R q hx fun v H1 xs S1 R1 m1 rl q1 => by
      obtain ⟨p, vs, rfl, RP, h0, hm, z⟩ := beside (W := W) R1 rl fun _ h => h
      refine liftL.in (t := lb) RP q1 (hx.push h0 hm) fun w H2 ys S2 R2 m2 rl2 q2 => ?_
      obtain ⟨R3, hp, ho⟩ := RS.pop R2 h0 hm
      obtain ⟨p2, ws, rfl, g1, g2, g3, g4, g5⟩ := rl2
      have ne : p2 ≠ p := fun e => by
        subst e
        have g3 : upd B.H0 p2 (.lst vs) p2 = none := g3
        rw [upd_same] at g3
        cases g3
      have rl1 : RL X.K B σ S2 H2 xs (.ref p) := ⟨p, vs, rfl, hp, z.mono m2, h0, hm, ho⟩
      have h02 : B.H0 p2 = none := by
        have g3 : upd B.H0 p (.lst vs) p2 = none := g3
        rw [upd_ne ne] at g3
        exact g3
      have R4 := R3.setO (i := i) rl1
      have rl3 : RL X.K B (σ.set i (some (.ref p))) { S2 with G := S2.G.set i (some (.own xs)) } H2 ys (.ref p2) := by
        refine ⟨p2, ws, rfl, g1, g2, h02, g4, fun k zs q e => ?_⟩
        rcases set_get q with ⟨e1, _, hl⟩ | ⟨n, q⟩
        · subst e1
          rw [List.getElem?_set_self (by rw [← R3.len]; exact hl)] at e
          cases e
          exact ne rfl
        · rw [List.getElem?_set_ne n] at e
          exact g5 k zs q e
      exact ⟨_, _, rfl, _, R4.setO rl3, m1.tr m2, q2⟩
end
section
variable {X : Cx} {W : WX} {i j l : Nat} {x y z : Str} {a b c : Expr} {ta tb tc : DTE} {px py pz pt : Pos} {kt k2 : Nat} {pt2 pos : Pos}
def dPar3 (i j l : Nat) (ta tb tc : DTE) : DTS := fun D S e => ta S (fun r S1 => tb S1 (fun q S2 => tc S2 (fun p S3 => D.nx { S3 with G := ((S3.G.set i (some r)).set j (some q)).set l (some p) }) e) e) e
theorem ds_par3 (hc : X.calm = true) (hN : X.N.Nodup) (hi : X.N[i]? = some x) (hj : X.N[j]? = some y) (hl : X.N[l]? = some z) (hij : i ≠ j) (hil : i ≠ l) (hjl : j ≠ l)
    (hx : X.env.scope.names.lookup x = some .local) (hy : X.env.scope.names.lookup y = some .local) (hz : X.env.scope.names.lookup z = some .local) (ha : DE X W a ta) (hb : DE X W b tb) (hc' : DE X W c tc)
    (hw : swappedStores [.Tuple [.Name x px, .Name y py, .Name z pz] kt pt] (.Tuple [a, b, c] k2 pt2) X.env = pure (some [x, y, z]))
    (hs : swapsWithSole [.Tuple [.Name x px, .Name y py, .Name z pz] kt pt] (.Tuple [a, b, c] k2 pt2) pos.line X.env = pure false := by rfl)
    (hA : starEach [a, b, c] X.env = (false, eval a X.env) :: starEach [b, c] X.env := by rfl) (hB : starEach [b, c] X.env = (false, eval b X.env) :: starEach [c] X.env := by rfl) (hC : starEach [c] X.env = (false, eval c X.env) :: starEach [] X.env := by rfl) :
    DS X W (.Assign [.Tuple [.Name x px, .Name y py, .Name z pz] kt pt] (.Tuple [a, b, c] k2 pt2) pos) (dPar3 i j l ta tb tc) :=
  .of (ps_par3 hc hN hi hj hl hij hil hjl hx hy hz (pa_cons ha (pa_cons hb (pa_cons hc' pa_nil hC) hB) hA) hw hs) fun σ H B S D er R q hx =>
    liftE.in (t := ta) R q hx fun v H1 r S1 R1 m1 rr q1 => liftE.in (t := tb) R1 q1 hx fun w H2 r2 S2 R2 m2 rr2 q2 => liftE.in (t := tc) R2 q2 hx fun u H3 r3 S3 R3 m3 rr3 q3 =>
      ⟨v, w, u, rfl, _, ((R3.setD (rr.mono (m2.tr m3))).setD (rr2.mono m3)).setD rr3, (m1.tr m2).tr m3, q3⟩
end
end
end D3
/-! D3x: calls with keywords. -/
namespace D3
open PySem PySem.Spec PyProof.Rows L2
section
variable [Tb]
def pickI {α : Type} (is : List Nat) (xs : List α) : List α := is.filterMap (xs[·]?)
theorem paired_get {α β : Type} {F : α → β → Prop} : ∀ {l : List α} {m : List β}, Paired F l m → ∀ i : Nat, (l[i]? = none ∧ m[i]? = none) ∨ ∃ a b, l[i]? = some a ∧ m[i]? = some b ∧ F a b
  | _, _, .nil, i => .inl (by simp)
  | _, _, .cons h _, 0 => .inr ⟨_, _, by simp, by simp, h⟩
  | _, _, .cons _ t, i + 1 => by simpa using paired_get t i
theorem paired_pick {α β : Type} {F : α → β → Prop} {l : List α} {m : List β} (h : Paired F l m) : ∀ is : List Nat, Paired F (pickI is l) (pickI is m)
  | [] => .nil
  | i :: is => by
    have ih := paired_pick h is
    unfold pickI at ih ⊢
    rcases paired_get h i with ⟨e1, e2⟩ | ⟨a, b, e1, e2, f⟩
    · simpa [List.filterMap_cons, e1, e2] using ih
    · simpa [List.filterMap_cons, e1, e2] using Paired.cons f ih
theorem paired_app {α β : Type} {F : α → β → Prop} : ∀ {l : List α} {m : List β} {l' : List α} {m' : List β}, Paired F l m → Paired F l' m' → Paired F (l ++ l') (m ++ m')
  | _, _, _, _, .nil, h => h
  | _, _, _, _, .cons a t, h => .cons a (paired_app t h)
theorem fun_kb {K : PySem.W.Frag} {x qual : Str} {st : Stmt} {f : Addr} {fd : FuncData} {ps : List Str} {n : Nat} {ks : List Str} {is : List Nat} (F : Fun K x qual st f fd)
    (h : ∀ (kV doc pm : Value) (an : Option Addr) (cdv ct : Value) (us ws : List Value), us.length = n → ws.length = ks.length → bindArgs (PySem.W.fnOf x qual (defArgs st) (defBody st) (defScope st) .none kV doc pm an cdv ct) ⟨us, ks.zip ws⟩ = pure (ps.zip (pickI is (us ++ ws)))) : KBn K fd ps n ks (fun us ws => pickI is (us ++ ws)) (fun vs zs => pickI is (vs ++ zs)) := by
  obtain ⟨oc, od, kV, doc, pm, an, cdv, ct, osl, rfl, lk, hcd⟩ := F.ex
  exact ⟨fun s us ws _ h1 h2 => .of_eq (h kV doc pm an cdv ct us ws h1 h2), fun r1 r2 => paired_pick (paired_app r1 r2) is⟩
/-! ### the keywords' values -/
def DK (X : Cx) (W : WX) (kws : List Keyword) (t : DTA) : Prop := PK X kws (liftA X.K W t)
section
variable {X : Cx} {W : WX} {kk n : Nat} {f : Addr} {fd : FuncData} {ps ks : List Str} {P : DP} {x : Str} {p pos kpos : Pos} {e : Expr} {es : List Expr} {kws : List Keyword} {ta : DTE} {t tk : DTA} {nm : Option Str} {is : List Nat}
theorem DK.of {t : DTA} {t' : TA} (h : PK X kws t') (f : ∀ σ H B S k er, RS X.K B σ H S → t S k er → HX X.K W B er → t' σ H (KA X.K B σ H k)) : DK X W kws t :=
  ⟨fun pos pins s σ H Q I ⟨B, S, k, er, R, q, hx, g⟩ => thn (h.run pos pins s σ H _ I (f σ H B S k er R q hx)) fun us s1 ⟨vs, H1, I1, r1, q1⟩ => ⟨vs, H1, I1, r1, g vs H1 q1⟩⟩
theorem DK.go {pins : List (Addr × Obj)} {s : Shared} {σ : L2.St} {H : Hp} {B : B3} {S : S3} {t : DTA} (h : DK X W kws t) {pos : Pos} (I : Inv X pins σ H s) (R : RS X.K B σ H S) {k : List SV → S3 → Prop} {er : ED} (q : t S k er) (hx : HX X.K W B er) :
    wpAny (model X.prog X.w) X.A (evalAll ((backToKw pos (keywordEach kws X.env)).map (·.2))) (AP X pins σ (KA X.K B σ H k)) X.xe s := h.run pos pins s σ H _ I ⟨B, S, k, er, R, q, hx, fun _ _ z => z⟩
theorem dk_nil : DK X W [] dNil := .of pk_nil fun σ H B S k er R q hx => ⟨[], S, R, .rfl, .nil, q⟩
theorem dk_cons (ha : DE X W e ta) (hr : DK X W kws t) : DK X W (⟨nm, e, kpos⟩ :: kws) (dCons ta t) :=
  .of (pk_cons ha hr) fun σ H B S k er R q hx => liftE.in (t := ta) R q hx fun v H1 r S1 R1 m1 rr q1 =>
    liftA.in (t := t) R1 q1 hx fun vs H2 rs S2 R2 m2 rrs q2 => ⟨r :: rs, S2, R2, m1.tr m2, .cons (rr.mono m2) rrs, q2⟩
/-- f(.., k = v, ..) -/
def dCallK (is : List Nat) (n m : Nat) (P : DP) (ta tk : DTA) : DTE := fun S k e => ta S (fun rs S1 => tk S1 (fun zs S2 => rs.length = n ∧ zs.length = m ∧ P (pickI is (rs ++ zs)) S2.C (fun r C' => k r { S2 with C := C' }) fun x C' => e x { S2 with C := C' }) e) e
theorem run_fnGK {l : Nat} {pins : List (Addr × Obj)} {σ : L2.St} {H : Hp} {s : Shared} {Q : VK} {E : XK} {us ws : List Value} {vs zs : List V} {sp : Sp} (F : FnG X.prog X.w X.K X.mg X.base kk f fd ps sp) (hr : Room kk X.A) (hgd : X.A.guards = some []) (hb : KBn X.K fd ps l ks (fun us ws => pickI is (us ++ ws)) (fun vs zs => pickI is (vs ++ zs)))
    (hx : PassesAt (L2.CX X.prog X.w) X σ E) (I : Inv X pins σ H s) (rv : Vals vs us) (rz : Vals zs ws) (l1 : vs.length = l) (l2 : zs.length = ks.length) (h : sp (pickI is (vs ++ zs)) H Q E) : wpAny (model X.prog X.w) X.A (call (.ref f) us (ks.zip ws)) (EP X pins σ Q) X.xe s := by
  refine wpAny_call (codeAny_mono (F.run X.A X.stack s H ⟨us, ks.zip ws⟩ _ _ Q E hr hgd I.env0 (hb.to s us ws I.kIn (rv.length.symm.trans l1) (rz.length.symm.trans l2)) (hb.rel rv rz) h) fun r s' hq => ?_)
  have z := endG hx I hq
  cases r with
  | error ev => exact z
  | ok fl =>
    cases fl with
    | ret u => exact z
    | _ => exact z.elim
theorem d_callK {m : Nat} (F : FnG X.prog X.w X.K X.mg X.base kk f fd ps (spD X.K n P)) (hr : Room kk X.A) (hgd : X.A.guards = some []) (hg : Gl X x) (hm : X.mg x = some (.ref f)) (hk : PySem.W.keepIn X.K (.ref f) = true) (hb : KBn X.K fd ps m ks (fun us ws => pickI is (us ++ ws)) (fun vs zs => pickI is (vs ++ zs))) (tk' : Takes X W)
    (ha : DA X W (e :: es) t) (hkw : DK X W kws tk) (hl : ∀ rs C k er, P rs C k er → rs.length = n) (hall : (backToKw pos (keywordEach kws X.env)).all (·.1.isSome) = true := by rfl) (hks : (backToKw pos (keywordEach kws X.env)).filterMap (·.1) = ks := by rfl)
    (hdb : (x == ("__debug__" : Str)) = false := by decide) (he : starEach (e :: es) X.env = (false, eval e X.env) :: starEach es X.env := by rfl)
    (hpl : ((backTo pos (starEach (e :: es) X.env)).any (·.1) || (backToKw pos (keywordEach kws X.env)).any (·.1.isNone)) = false := by rfl) :
    DE X W (.Call (.Name x p) (e :: es) kws pos) (dCallK is m ks.length P t tk) := by
  refine .mk fun pins s σ H B S k er I R q hx => ?_
  refine wpAny_Call_Name_kw (ld_glob I hg hm ?_ hdb)
  refine PySem.W.callWith_KW (h₀ := X.base) I.ok.mod.kin hk hall (thn (ha.go I R q hx) fun us s1 ⟨vs, H1, I1, rv, rs, S1, R1, m1, rr, q1⟩ => ?_) hpl he
  refine thn (hkw.go I1 R1 q1 hx) fun ws s2 ⟨zs, H2, I2, rz, rs2, S2, R2, m2, rr2, l1, l2, q2⟩ => ⟨I2.kIn, ?_⟩
  rw [hks]
  have rp : RRs X.K B H2 (pickI is (rs ++ rs2)) (pickI is (vs ++ zs)) := paired_pick (paired_app (rr.mono m2) rr2) is
  exact run_fnGK F hr hgd hb (passAt tk' σ) I2 rv rz (by rw [← rr.len]; exact l1) (by rw [← rr2.len]; exact l2) (spD.meet R2 (m1.tr m2) (by rw [← rp.len]; exact hl _ _ _ _ q2) rp q2 hx)
theorem d_callK0 (F : FnG X.prog X.w X.K X.mg X.base kk f fd ps (spD X.K n P)) (hr : Room kk X.A) (hgd : X.A.guards = some []) (hg : Gl X x) (hm : X.mg x = some (.ref f)) (hk : PySem.W.keepIn X.K (.ref f) = true) (hb : KBn X.K fd ps 0 ks (fun us ws => pickI is (us ++ ws)) (fun vs zs => pickI is (vs ++ zs))) (tk' : Takes X W)
    (hkw : DK X W kws tk) (hl : ∀ rs C k er, P rs C k er → rs.length = n) (hall : (backToKw pos (keywordEach kws X.env)).all (·.1.isSome) = true := by rfl) (hks : (backToKw pos (keywordEach kws X.env)).filterMap (·.1) = ks := by rfl)
    (hdb : (x == ("__debug__" : Str)) = false := by decide)
    (hpl : ((backTo pos (starEach [] X.env)).any (·.1) || (backToKw pos (keywordEach kws X.env)).any (·.1.isNone)) = false := by rfl) :
    DE X W (.Call (.Name x p) [] kws pos) (dCallK is 0 ks.length P dNil tk) := by
  refine .mk fun pins s σ H B S k er I R q hx => ?_
  refine wpAny_Call_Name_kw (ld_glob I hg hm ?_ hdb)
  refine PySem.W.callWith_KW0 (h₀ := X.base) I.ok.mod.kin hk hall ?_ hpl
  refine thn (hkw.go I R q hx) fun ws s2 ⟨zs, H2, I2, rz, rs2, S2, R2, m2, rr2, _, l2, q2⟩ => ⟨I2.kIn, ?_⟩
  rw [hks]
  have rp : RRs X.K B H2 (pickI is ([] ++ rs2)) (pickI is ([] ++ zs)) := paired_pick (paired_app .nil rr2) is
  exact run_fnGK (us := []) F hr hgd hb (passAt tk' σ) I2 .nil rz rfl (by rw [← rr2.len]; exact l2) (spD.meet R2 m2 (by rw [← rp.len]; exact hl _ _ _ _ q2) rp q2 hx)
end
end
end D3
/-! D3y: >>, &, tuple * int, list * int. -/
namespace D3
open PySem PySem.Spec PyProof.Rows L2
theorem tuple_mul_same (l : Addr) (items : Array Value) (n : Nat) (dd : Option Addr) (sl : Array (Option Value)) (x : Int) (u : Tok) (c0 : (decide (x < -(2 ^ 63)) || decide (x ≥ 2 ^ 63)) = false) (c1 : (items.isEmpty || x == 1) = true) :
    Meets (Builtin.«tuple.__mul__» ⟨[.ref l, .int x u], []⟩) (fun _ R s => s.heap.get? l = some { cls := .type "tuple", dict := dd, data := .seq items n, slots := sl } ∧
      R (.ok (.ret (Value.ref l))) s) :=
  .of_wp fun prog w A R s h => by
    obtain ⟨hp, g, d, tk, os⟩ := s
    obtain ⟨hl, h⟩ := h
    have f1 := AutoSeq1.idx_int
    wp_walk using wpAny_loadPart' hl
    repeat (first
      | (refine wpAny_ite_false (decide_eq_false (by rw [c0]; exact Bool.false_ne_true)) ?_; wp_walk using wpAny_loadPart' hl)
      | (refine wpAny_ite_true (decide_eq_true c1) ?_; wp_walk using wpAny_loadPart' hl))
    exact ⟨_, rfl, h⟩
theorem tuple_mul_none (l : Addr) (items : Array Value) (n : Nat) (dd : Option Addr) (sl : Array (Option Value)) (x : Int) (u : Tok) (c0 : (decide (x < -(2 ^ 63)) || decide (x ≥ 2 ^ 63)) = false) (c1 : (items.isEmpty || x == 1) = false) (c2 : (decide (x ≤ 0) || items.isEmpty) = true) :
    Meets (Builtin.«tuple.__mul__» ⟨[.ref l, .int x u], []⟩) (fun _ R s => s.heap.get? l = some { cls := .type "tuple", dict := dd, data := .seq items n, slots := sl } ∧
      R (.ok (.ret (Value.ref s.heap.objs.size))) { s with heap := s.heap.push { cls := Value.type "tuple", data := Data.seq #[] }, toks := s.toks }) :=
  .of_wp fun prog w A R s h => by
    obtain ⟨hp, g, d, tk, os⟩ := s
    obtain ⟨hl, h⟩ := h
    have f1 := AutoSeq1.idx_int
    wp_walk using wpAny_loadPart' hl
    repeat (first
      | (refine wpAny_ite_false (decide_eq_false (by rw [c0]; exact Bool.false_ne_true)) ?_; wp_walk using wpAny_loadPart' hl)
      | (refine wpAny_ite_false (decide_eq_false (by rw [c1]; exact Bool.false_ne_true)) ?_; wp_walk using wpAny_loadPart' hl)
      | (refine wpAny_ite_true (decide_eq_true c2) ?_; wp_walk using wpAny_loadPart' hl))
    exact ⟨_, rfl, h⟩
def repL {α : Type} (xs : List α) (k : Int) : List α := (List.replicate k.toNat xs).flatten
theorem repL_len {α : Type} (xs : List α) (k : Int) : (repL xs k).length = k.toNat * xs.length := PyProof.Rows.lm_len_rep_flat _ _
theorem vals_rep {vs : List V} {us : List Value} (r : Vals vs us) (k : Int) : Vals (repL vs k) (repL us k) := Vals.rep r k.toNat
theorem dzA_rep {K : PySem.W.Frag} {H : Hp} {vs : List V} {ds : List PyData} (h : DzA K H vs ds) (k : Int) : DzA K H (repL vs k) (repL ds k) := by
  unfold repL
  induction k.toNat with
  | zero => exact .nil
  | succ n ih =>
    rw [List.replicate_succ, List.replicate_succ, List.flatten_cons, List.flatten_cons]
    exact h.app ih
/-- a tuple times an int: the very same tuple, or a new one -/
def rRepA (K : PySem.W.Frag) : R2 := fun x y H Q => ∃ l k xs, x = .ref l ∧ y = .int k ∧ SqT K H l xs ∧ -(2 ^ 62) ≤ k ∧ k < 2 ^ 62 ∧ k.toNat * xs.length ≤ sizeLine ∧ ((repL xs k = xs → Q (.ref l) H) ∧ ∀ p, H p = none → Q (.ref p) (upd H p (.tup (repL xs k))))
section
variable {X : Cx}
theorem op_repA : OpR X (binaryOp .Mult) (rRepA X.K) := by
  intro pins s σ H x y v u Q I rx ry h
  obtain ⟨l, k, xs, rfl, rfl, hT, h1, h2, hz, q0, q⟩ := h
  cases rx
  obtain ⟨t, rfl⟩ := ry
  obtain ⟨its, r, ⟨⟨cls, dd, data, sl⟩, ho, hc, n, hd⟩, hs⟩ := I.tuple hT
  simp only at hc hd
  subst hc hd
  have hle : its.length = xs.length := r.length.symm
  have hsz0 : its.toArray.size = xs.length := by rw [List.size_toArray, hle]
  have c0 : (decide (k < -(2 ^ 63)) || decide (k ≥ 2 ^ 63)) = false := by
    rw [decide_eq_false (by omega), decide_eq_false (by omega)] <;> rfl
  by_cases c1 : (its.toArray.isEmpty || k == 1) = true
  · refine wpAny_binaryOp_repeat_ref (T := "tuple") (U := "int") (by decide) ⟨_, ho, rfl⟩ (fun s' => typeIs_int s' k t) noFill_tuple_mul F.fills_int_mul F.slot_int_rmul repeat_tuple F.slot_int_index.lookup
      (call_meets F.slot_int_rmul (typeIs_int s k t) F.entry_int_rmul (F.args_int_rmul_2 _ _) (int_rmul_tuple k t l its.toArray n dd sl)
        ⟨ho, rfl, ⟨_, ho, rfl⟩, call_meets F.slot_tuple_mul ⟨_, ho, rfl⟩ F.entry_tuple_mul (F.args_tuple_mul_2 _ _) (tuple_mul_same l its.toArray n dd sl k t c0 c1) ⟨ho, ?_⟩⟩)
    have e : repL xs k = xs := by
      rw [Bool.or_eq_true] at c1
      rcases c1 with c1 | c1
      · have : xs = [] := by
          apply List.eq_nil_of_length_eq_zero
          rw [← hle]
          cases its with
          | nil => rfl
          | cons a b => simp at c1
        subst this
        unfold repL
        induction k.toNat with
        | zero => rfl
        | succ n ih => rw [List.replicate_succ, List.flatten_cons, ih]; rfl
      · have : k = 1 := by simpa using c1
        subst this
        simp [repL]
    exact ⟨.ref l, H, I, rfl, q0 e⟩
  have c1 : (its.toArray.isEmpty || k == 1) = false := by simpa using c1
  by_cases c2 : (decide (k ≤ 0) || its.toArray.isEmpty) = true
  · refine wpAny_binaryOp_repeat_ref (T := "tuple") (U := "int") (by decide) ⟨_, ho, rfl⟩ (fun s' => typeIs_int s' k t) noFill_tuple_mul F.fills_int_mul F.slot_int_rmul repeat_tuple F.slot_int_index.lookup
      (call_meets F.slot_int_rmul (typeIs_int s k t) F.entry_int_rmul (F.args_int_rmul_2 _ _) (int_rmul_tuple k t l its.toArray n dd sl)
        ⟨ho, rfl, ⟨_, ho, rfl⟩, call_meets F.slot_tuple_mul ⟨_, ho, rfl⟩ F.entry_tuple_mul (F.args_tuple_mul_2 _ _) (tuple_mul_none l its.toArray n dd sl k t c0 c1 c2) ⟨ho, ?_⟩⟩)
    have e : repL xs k = [] := by
      rw [Bool.or_eq_false_iff] at c1
      rw [c1.1, Bool.or_false] at c2
      have : k.toNat = 0 := by
        have := of_decide_eq_true c2
        omega
      simp [repL, this]
    refine ⟨.ref s.heap.objs.size, _, I.laid (t' := s.toks) (o := .tup []) (fun b ob q => Heap.get?_push_of_some _ q) (Nat.le_refl _) ?_, rfl, by have z := q _ (I.hok.fresh (Nat.le_refl _)); rw [e] at z; exact z⟩
    exact ⟨Nat.zero_le _, _, .nil, IsTup.new _ _⟩
  have c2 : (decide (k ≤ 0) || its.toArray.isEmpty) = false := by simpa using c2
  have hk : 0 < k := by
    rw [Bool.or_eq_false_iff] at c2
    have := of_decide_eq_false c2.1
    omega
  have flen : (List.replicate k.toNat its).flatten.length ≤ sizeLine := by
    rw [PyProof.Rows.lm_len_rep_flat, hle]
    exact hz
  have hm : ((its.toArray.size : Nat) : Int) * k ≤ 2 ^ 24 := by
    have e : ((its.toArray.size : Nat) : Int) * k = ((k.toNat * xs.length : Nat) : Int) := by
      rw [hsz0, Int.natCast_mul, Int.toNat_of_nonneg (by omega), Int.mul_comm]
    rw [e]
    have hz' := hz
    rw [sizeLine_eq] at hz'
    omega
  have c4 : Builtin.Tuple.tupleTooMany (((its.toArray.size : Nat) : Int) * k) = false := by
    unfold Builtin.Tuple.tupleTooMany
    rw [sizeLine_eq]
    exact decide_eq_false (by omega)
  refine wpAny_binaryOp_repeat_ref (T := "tuple") (U := "int") (by decide) ⟨_, ho, rfl⟩ (fun s' => typeIs_int s' k t) noFill_tuple_mul F.fills_int_mul F.slot_int_rmul repeat_tuple F.slot_int_index.lookup
    (call_meets F.slot_int_rmul (typeIs_int s k t) F.entry_int_rmul (F.args_int_rmul_2 _ _) (int_rmul_tuple k t l its.toArray n dd sl)
      ⟨ho, rfl, ⟨_, ho, rfl⟩, call_meets F.slot_tuple_mul ⟨_, ho, rfl⟩ F.entry_tuple_mul (F.args_tuple_mul_2 _ _) (tuple_mulW l its.toArray n dd sl k t c0 c1 c2 (by omega) c4 (by rw [size_rep, List.size_toArray]; exact flen)) ⟨ho, ?_⟩⟩)
  rw [size_rep]
  refine ⟨.ref s.heap.objs.size, _, I.laid (t' := s.toks) (o := .tup (repL xs k)) (fun b ob q => Heap.get?_push_of_some _ q) (Nat.le_refl _) ?_, rfl, q _ (I.hok.fresh (Nat.le_refl _))⟩
  exact ⟨by rw [repL_len]; exact hz, _, vals_rep r k, IsTup.new _ _⟩
end
section
variable [Tb]
section
variable {X : Cx} {W : WX} {a b : Expr} {ta tb : DTE} {pos : Pos}
def gAnd := gI (fun _ _ => True) fun i j => .int (Builtin.bitAnd i j)
theorem oAnd : OpD X (binaryOp .BitAnd) gAnd := opI_of (rI0_rI op_and) fun _ _ _ _ => .int _
def gShr := gI (fun _ j => 0 ≤ j) fun i j => .int (i / 2 ^ j.toNat)
theorem oShr : OpD X (binaryOp .RShift) gShr := opI_of op_shr fun _ _ _ _ => .int _
def gMul : SV → SV → (SV → Prop) → Prop := fun x y k => match x, y with
  | .d (.int i), .d (.int j) => MulOk i j ∧ k (.d (.int (i * j)))
  | .d (.tuple xs), .d (.int j) => inR j ∧ j.toNat * xs.length ≤ sizeLine ∧ k (.d (.tuple (repL xs j)))
  | _, _ => False
theorem oMul : OpD X (binaryOp .Mult) gMul := by
  intro pins s σ H B S x y vx vy v u k I R a rx b ry q
  match x, y, a, b, q with
  | .d (.int i), .d (.int j), a, b, q => exact oMulI pins s σ H B S _ _ vx vy v u k I R a rx b ry ⟨q.1, q.2⟩
  | .d (.tuple xs), .d (.int j), a, b, q =>
    cases (show Dz _ _ _ _ from a) with
    | tup h1 h2 =>
      cases (show Dz _ _ _ _ from b)
      obtain ⟨⟨r1, r2⟩, hz, q⟩ := q
      refine op_repA pins s σ H _ _ v u _ I rx ry ⟨_, _, _, rfl, rfl, h1, r1, r2, by rw [h2.len]; exact hz, fun e => ?_, fun p hp => ?_⟩
      · refine ⟨.d (.tuple (repL xs j)), S, R, .rfl, ?_, rfl, q⟩
        have z := dzA_rep h2 j
        rw [e] at z
        exact Dz.tup h1 z
      · exact ⟨.d (.tuple (repL xs j)), S, R.new hp, .new hp, Dz.tup (.of upd_same) ((dzA_rep h2 j).mono (.new hp)), rfl, q⟩
/-- a list times an int, nobody's yet -/
def dRepL (ta tb : DTE) : DTL := fun S k e => ta S (fun x S1 => tb S1 (fun y S2 => match x, y with
  | .d (.list xs), .d (.int j) => inR j ∧ j.toNat * xs.length ≤ sizeLine ∧ k (repL xs j) S2
  | _, _ => False) e) e
theorem list_rep {pins : List (Addr × Obj)} {s : Shared} {σ : L2.St} {H : Hp} {l : Addr} {k : Int} {t : Tok} {xs : List V} {Q : VK} (I : Inv X pins σ H s) (h : FzL X.K H l xs) (h1 : -(2 ^ 62) ≤ k) (h2 : k < 2 ^ 62) (hz : k.toNat * xs.length ≤ sizeLine)
    (q : ∀ p, H p = none → Q (.ref p) (upd H p (.lst (repL xs k)))) : wpAny (model X.prog X.w) X.A (binaryOp .Mult (.ref l) (.int k t)) (EP X pins σ Q) X.xe s := by
  obtain ⟨_, its, n, r, e⟩ := h.at_ I
  have hl := r.length
  have hlen : its.toArray.size * k.toNat ≤ sizeLine := by rw [List.size_toArray, ← hl, Nat.mul_comm]; exact hz
  have hcap : ¬ its.toArray.size * k.toNat > (2 ^ 63 - 1) / 8 := by
    have : (sizeLine : Nat) ≤ (2 ^ 63 - 1) / 8 := by decide
    omega
  have hfit : ¬ (!Builtin.List.listFitsIndex k) = true := by
    rw [fitsIndex_both (by omega) (by omega)]
    exact Bool.false_ne_true
  have hlong : ¬ Builtin.List.listTooLong (its.toArray.size * k.toNat) = true := by
    rw [notLongL hlen]
    exact Bool.false_ne_true
  have hnew : List.foldl (fun x1 x2 => x1 ++ x2) #[] (List.replicate (if its.toArray.isEmpty = true then 0 else k.toNat) its.toArray) = (List.replicate k.toNat its).flatten.toArray := by
    have f0 : ∀ m : Nat, List.foldl (fun x1 x2 => x1 ++ x2) #[] (List.replicate m its.toArray) = (List.replicate m its).flatten.toArray := fun m => size_rep its m
    rw [f0]
    cases its with
    | nil => simp
    | cons a r' => rw [if_neg (by simp)]
  refine wpAny_binaryOp_repeat_ref (T := "list") (U := "int") (by decide) ⟨_, e, rfl⟩ (fun s' => typeIs_int s' k t) noFill_list_mul F.fills_int_mul F.slot_int_rmul repeat_list F.slot_int_index.lookup
    (call_meets F.slot_int_rmul (typeIs_int s k t) F.entry_int_rmul (F.args_int_rmul_2 _ _) (int___rmul___int_list k t l its.toArray n)
      ⟨e, rfl, ⟨_, e, rfl⟩, call_meets F.slot_list_mul ⟨_, e, rfl⟩ F.entry_list_mul (F.args_list_mul_2 _ _) (AutoListH.list___mul___list_int_3 l its.toArray n k t hfit hcap hlong) ⟨e, ?_⟩⟩)
  rw [hnew]
  exact ⟨.ref _, _, I.lnew (t' := s.toks) (vals_rep r k) (by rw [repL_len]; exact hz), rfl, q _ I.fresh⟩
theorem d_repL (ha : DE X W a ta) (hb : DE X W b tb) : DL X W (.BinOp a .Mult b pos) (dRepL ta tb) := by
  refine .mk fun pins s σ H B S k er I R q hx => ?_
  refine wpAny_BinOp (d_two ha hb I R q hx fun v u s2 x y vx vy H2 S2 I2 R2 m c rx d ry q2 => ?_)
  match x, y, c, d, q2 with
  | .d (.list xs), .d (.int j), c, d, q2 =>
    cases (show Dz _ _ _ _ from c) with
    | lst h1 h2 =>
      cases (show Dz _ _ _ _ from d)
      cases (show v = _ from rx)
      obtain ⟨t, rfl⟩ := (show ∃ t, u = _ from ry)
      obtain ⟨⟨r1, r2⟩, hz, q2⟩ := q2
      exact list_rep I2 h1 r1 r2 (by rw [h2.len]; exact hz) fun p hp => ⟨_, S2, R2.new hp, m.tr (.new hp), .new R2 hp (dzA_rep h2 j), q2⟩
end
end
end D3
/-! D3za: isinstance(x, (C, D, ..)). -/
namespace D3
open PySem PySem.Spec PyProof.Rows L2
section
variable [Tb]
def clsL : List SV → Option (List Value)
  | [] => some []
  | .raw (.ref D) :: r => (clsL r).map (.ref D :: ·)
  | .raw (.ty n) :: r => (clsL r).map (.type n :: ·)
  | _ => none
theorem clsL_v {K : PySem.W.Frag} {B : B3} {H : Hp} : ∀ {rs : List SV} {vs : List V} {us : List Value}, RRs K B H rs vs → clsL rs = some us → Paired ClsV vs us
  | [], _, us, .nil, e => by cases e; exact .nil
  | .raw (.ref D) :: r, _, us, .cons a t, e => by
    unfold clsL at e
    cases q : clsL r with
    | none => rw [q] at e; cases e
    | some l =>
      rw [q] at e
      cases e
      cases (show _ = V.ref D from a)
      exact .cons (.own D) (clsL_v t q)
  | .raw (.ty n) :: r, _, us, .cons a t, e => by
    unfold clsL at e
    cases q : clsL r with
    | none => rw [q] at e; cases e
    | some l =>
      rw [q] at e
      cases e
      cases (show _ = V.ty n from a)
      exact .cons (.ty n) (clsL_v t q)
def gIsiT (K : PySem.W.Frag) : SV → List SV → (SV → Prop) → Prop := fun r rs k => match clsL rs with
  | some us => (match r with
    | .exc C _ => ExcC K C ∧ ∃ b, PySem.W.kitAny K (.ref C) us = some b ∧ k (.d (.bool b))
    | .d x => ∃ b, PySem.W.kitAny K (.type (tyD x)) us = some b ∧ k (.d (.bool b))
    | _ => False)
  | none => False
def dIsiT (K : PySem.W.Frag) (ta : DTE) (tt : DTA) : DTE := fun S k e => ta S (fun r S1 => tt S1 (fun rs S2 => rs.length ≤ sizeLine ∧ gIsiT K r rs fun r' => k r' S2) e) e
section
variable {X : Cx} {W : WX} {a : Expr} {es : List Expr} {ta : DTE} {tt : DTA} {p p2 pos : Pos} {n : Nat} {x : Str}
theorem d_isiT (ha : DE X W a ta) (ht : DA X W es tt) (hg : Gl X x) (hm : X.mg x = none) (hv : bootBuiltins x = some (.builtin "isinstance")) (hn : x ≠ "__name__" := by decide) (hdb : (x == ("__debug__" : Str)) = false := by decide)
    (he : starEach [a, .Tuple es n p2] X.env = (false, eval a X.env) :: starEach [.Tuple es n p2] X.env := by rfl) (hpl : (backTo pos (starEach [.Tuple es n p2] X.env)).any (·.1) = false := by rfl) : DE X W (.Call (.Name x p) [a, .Tuple es n p2] [] pos) (dIsiT X.K ta tt) := by
  refine .mk fun pins s σ H B S k er I R q hx => ?_
  refine wpAny_Call_Name_kw (ld_blt I hg hm hv ?_ hn hdb)
  refine PyProof.Rows.callWith_builtin1 (thn ((pa_cons ha (pa_cons (pe_tup ht) pa_nil) he).run pos pins s σ H (fun vs H1 => ∃ r rs S2 v tp cs, vs = [v, .ref tp] ∧ H1 tp = some (.tup cs) ∧ RRs X.K B H1 rs cs ∧ RR X.K B H1 r v ∧ RS X.K B σ H1 S2 ∧ Mono H H1 ∧ gIsiT X.K r rs fun r' => k r' S2) I ?_) fun us s1 ⟨vs, H1, I1, rv, r, rs, S2, v, tp, cs, ev, hT, rrs, rr, R2, m, z⟩ => ?_) he hpl
  · refine liftE.in (t := ta) R q hx fun v H1 r S1 R1 m1 rr q1 => ?_
    refine liftA.in (t := tt) R1 q1 hx fun cs H2 rs S2 R2 m2 rrs q2 => ⟨by rw [← rrs.len]; exact q2.1, fun tp hp => ?_⟩
    exact ⟨r, rs, S2, v, tp, cs, rfl, upd_same, rrs.mono (.new hp), rr.mono (m2.tr (.new hp)), R2.new hp, (m1.tr m2).tr (.new hp), q2.2⟩
  · subst ev
    obtain ⟨u1, u2, rfl, r1, r2⟩ := vals2 rv
    cases (show u2 = Value.ref tp from r2)
    unfold gIsiT at z
    split at z
    · rename_i us hu
      obtain ⟨_, its, rv3, o, h1, h2, nn, h3⟩ := (show ObjOk X.prog X.w H1 s1.heap tp (.tup cs) from I1.hok tp _ hT)
      have e3 := ClsV.all (clsL_v rrs hu) rv3
      subst e3
      obtain ⟨oc, od, dt, sl⟩ := o
      simp only at h2 h3
      subst h2 h3
      split at z
      · rename_i C fs
        obtain ⟨F, b, e, z⟩ := z
        obtain ⟨aa, rfl, hA⟩ := rr
        cases (show u1 = Value.ref aa from r1)
        obtain ⟨oe, od, J⟩ := exc_inst I1 hA
        have hcl : (PySem.W.clsIn X.K C).isSome = true := by
          have z := F.hd
          unfold PySem.W.hasDictIn at z
          cases hq : PySem.W.clsIn X.K C with
          | none => rw [hq] at z; cases z
          | some cd => rfl
        exact PySem.W.kia_tup (PySem.W.kitx_exc hcl F.hg F.hk F.hs F.ha F.hn F.ht F.hm) I1.kIn J h1 e (fun z => nomatch z) fun tk => ⟨.bl b, H1, I1.tok tk, rfl, .d (.bool b), S2, R2, m, Dz.bl b, z⟩
      · rename_i y
        obtain ⟨b, e, z⟩ := z
        obtain ⟨P, Z, pp, hx2⟩ := kit_of I1 r1 (tyD_x (show Dz _ _ _ _ from rr))
        exact PySem.W.kia_tup Z I1.kIn pp h1 e hx2 fun tk => ⟨.bl b, H1, I1.tok tk, rfl, .d (.bool b), S2, R2, m, Dz.bl b, z⟩
      · exact z.elim
    · exact z.elim
end
end
end D3
/-! D3zb: l.count(x), flat items. -/
namespace D3
open PySem PySem.Spec PyProof.Rows L2
def rCntF (K : PySem.W.Frag) : V → List V → Hp → VK → Prop := fun x vs H Q => ∃ (p : Addr) (xs : List V) (y : V), x = .ref p ∧ vs = [y] ∧ SqL K H p xs ∧ flatV y = true ∧ xs.all flatV = true ∧ Q (.int ((xs.countP fun z => eqV z y : Nat) : Int)) H
theorem count_eqU {x : V} : ∀ {xs : List V} {us : List Value}, Vals xs us → xs.all flatV = true → us.countP (eqU x) = xs.countP fun y => eqV y x
  | _, _, .nil, _ => rfl
  | y :: xs, u :: us, .cons r t, f => by
    rw [List.all_cons, Bool.and_eq_true] at f
    rw [List.countP_cons, List.countP_cons, eqU_of r f.1, count_eqU t f.2]
theorem mt_countF {X : Cx} : MtR X "list.count" (rCntF X.K) := by
  intro pins s σ H x xs v us Q I rx rxs h
  obtain ⟨p, ys, y, rfl, rfl, hs, fy, fs, q⟩ := h
  cases rx
  obtain ⟨u, rfl, ru⟩ := rxs.one
  obtain ⟨its, rv, ⟨⟨cls, dd, data, sl⟩, n, ho, hc, hdn, hd⟩, hlen⟩ := I.list hs
  simp only at hc hd
  subst hc hd
  refine call_meets PySem.F.slot_list_count ⟨_, ho, rfl⟩ PySem.F.entry_list_count (PySem.F.args_list_count_2 _ _)
    (SeqAt.list_countAt p its.toArray n dd sl u (eqU y)) ⟨ho, fun w hw => mem_eqAt ru fy rv fs w (by simpa using hw), ?_⟩
  refine ⟨.int _, H, I.tok _, ⟨s.toks, ?_⟩, q⟩
  show Value.int ((its.toArray.toList.countP (eqU y) : Nat) : Int) s.toks = _
  rw [show its.toArray.toList.countP (eqU y) = its.countP (eqU y) by simp, count_eqU rv fs]
section
variable [Tb]
def cntD (x : PyData) (ys : List PyData) : Nat := ys.countP fun z => PyData.eqv z x
theorem cnt_flat {K : PySem.W.Frag} {H : Hp} {x : PyData} {v : V} (hx : Dz K H v x) (fx : flatD x = true) : ∀ {ds : List PyData} {vs : List V}, DzA K H vs ds → ds.all flatD = true → (vs.countP fun z => eqV z v) = cntD x ds
  | [], _, h, _ => by
    cases h
    rfl
  | d :: r, _, .cons h1 h2, f => by
    simp only [List.all_cons, Bool.and_eq_true] at f
    have ih := cnt_flat hx fx h2 f.2
    unfold cntD at ih ⊢
    rw [List.countP_cons, List.countP_cons, ih, eq_flat h1 hx f.1 fx]
def dCnt (ta tb : DTE) : DTE := fun S k e => ta S (fun x S1 => match x with
  | .d (.list xs) => tb S1 (fun y S2 => match y with
    | .d b => flatD b = true ∧ xs.all flatD = true ∧ k (.d (.int (cntD b xs : Nat))) S2
    | _ => False) e
  | _ => False) e
section
variable {X : Cx} {W : WX} {o a : Expr} {ta tb : DTE} {apos cpos : Pos}
theorem d_cnt (ho : DE X W o ta) (ha : DE X W a tb) (hbase : attributeBase o "count" X.env (eval o X.env) = eval o X.env := by rfl)
    (hfew : ((backTo cpos (starEach [a] X.env)).all (fun x => !x.1) && (backToKw cpos (keywordEach [] X.env)).all (fun x => x.1.isSome)
      && decide ([a].length + ([] : List Keyword).length + (if ([] : List Keyword).isEmpty then 0 else 1) < 30)) = true := by rfl)
    (hline : (apos.endLine == cpos.line) = true := by rfl) (hs : starEach [a] X.env = (false, eval a X.env) :: starEach [] X.env := by rfl) (hplain : (backTo cpos (starEach [] X.env)).any (·.1) = false := by rfl) : DE X W (.Call (.Attribute o "count" apos) [a] [] cpos) (dCnt ta tb) := by
  refine .of (pe_bm PySem.F.plainAttrs_list PySem.F.slot_list_count PySem.F.type_list_count mt_countF ho (da_cons (W := W) ha da_nil hs) hbase hfew hline hs hplain) fun σ H B S k er R q hx => ?_
  refine liftE.in (t := ta) R q hx fun v H1 x S1 R1 m1 rx q1 => ?_
  match x, rx, q1 with
  | .d (.list xs), rx, q1 =>
    cases (show Dz _ _ _ _ from rx) with
    | lst h1 h2 =>
      refine ⟨.inl ⟨rfl, _, h1.sq⟩, liftA.in (t := dCons tb dNil) (k := fun rs S2 => ∃ b, rs = [.d b] ∧ flatD b = true ∧ xs.all flatD = true ∧ k (.d (.int (cntD b xs : Nat))) S2) R1 (by
        refine one_arg q1 fun r S2 => ⟨fun z => ?_, fun ⟨b, e, z⟩ => ?_⟩
        · match r, z with
          | .d b, z => exact ⟨b, rfl, z⟩
        · cases e
          exact z) hx fun vs H2 rs S2 R2 m2 rrs q2 => ?_⟩
      obtain ⟨b, rfl, f1, f2, z⟩ := q2
      obtain ⟨y, rfl, ry⟩ := rrs.one
      have ry : Dz X.K H2 y b := ry
      refine ⟨_, _, y, rfl, rfl, (h1.mono m2).sq, flat_v ry f1, all_flat (h2.mono m2) f2, ?_⟩
      rw [cnt_flat ry f1 (h2.mono m2) f2]
      exact ⟨.d (.int _), S2, R2, m1.tr m2, Dz.int _, z⟩
end
end
end D3
/-! D3zc: a, *b = a list. -/
namespace D3
open PySem PySem.Spec PySem.Calls PyProof.Rows L2
theorem star_items {X : Cx} {pins : List (Addr × Obj)} {σ : L2.St} {H : Hp} {s : Shared} {l : Addr} {items : List Value} {vs : List V} {u0 : Value} {E : Value → Shared → Prop} {Q : List Value → Shared → Prop} (I : Inv X pins σ H s) (hl : s.heap.IsList l (u0 :: items).toArray) (hh : X.A.handled = none) (rv : Vals vs items) (hz : items.length + 1 ≤ sizeLine)
    (h : ∀ (D : Addr) (s' : Shared), H D = none → Inv X pins σ (upd H D (.lst vs)) s' → Q [u0, .ref D] s') : wpAny (model X.prog X.w) X.A (unpackItems (.ref l) 2 (some 1)) Q E s := by
  have hlt : l ≠ s.heap.objs.size := by obtain ⟨o, ho, _⟩ := hl; exact Nat.ne_of_lt (Heap.lt_size ho)
  have hll : l < s.heap.objs.size := by obtain ⟨o, ho, _⟩ := hl; exact Heap.lt_size ho
  unfold unpackItems
  refine wpAny_bind ?_
  unfold notIterableAtAll
  refine wpAny_bind (wpAny_specialOf hl.typeIs PySem.F.slot_list_iter.lookup ?_)
  refine wpAny_pure ?_
  simp only [Bool.false_eq_true, if_false]
  refine wpAny_bind (wpAny_holding (wpAny_pyIter_list hl ?_))
  refine wpAny_bind (wpAny_holding (PySem.W.kun_draw hlt 1 0 _ _ ⟨_, Heap.get?_push_size _ rfl, rfl, rfl⟩ (hl.push _) (by simp) fun h₁ hit₁ hs₁ => ?_))
  have hl₁ : h₁.IsList l (u0 :: items).toArray := (hl.push _).extBut hs₁.extBut hlt
  rw [Nat.zero_add] at hit₁
  have hit₁' := hit₁
  obtain ⟨oi, hoi, _⟩ := hit₁'
  have hl₁' := hl₁
  obtain ⟨ol, hol, _⟩ := hl₁'
  rw [List.drop_zero]
  rw [show (u0 :: items).toArray.toList.take 1 = [u0] by simp]
  rw [if_neg (by simp)]
  refine wpAny_bind (wpAny_holding (PySem.W.kun_collect (s := { s with heap := h₁ }) (T := "list_iterator") (.inr (.inr (.inl rfl))) (Walks.list (A := X.A.in1) hh s.heap.objs.size l hlt (u0 :: items).toArray) (fun j u st => st.1.typeIs) (k := 1) (by simp) ⟨hit₁, hl₁⟩ (Heap.lt_size hoi) (Heap.lt_size hol) (fun h₂ tk hk => ?_) (by simpa using hz)))
  rw [show (u0 :: items).toArray.toList.drop 1 = items by simp]
  show wpAny _ _ (if items.length < 0 then _ else _) _ _ _
  rw [if_neg (by omega)]
  show wpAny _ _ (newList (items.take (items.length - 0)) >>= fun d => pure ([u0] ++ [d] ++ items.drop (items.length - 0))) _ _ _
  rw [Nat.sub_zero, List.take_length, List.drop_length]
  have I1 : Inv X pins σ H { s with heap := h₂, toks := tk } := I.kept (t' := tk) fun b o e => hk b o (Nat.ne_of_lt (Heap.lt_size e)) (hs₁.extBut b o (Nat.ne_of_lt (Heap.lt_size e)) (Heap.get?_push_of_some _ e))
  refine wpAny_bind (wpAny_newList (s := { s with heap := h₂, toks := tk }) (wpAny_pure ?_) (by omega))
  exact h _ _ I1.fresh (I1.lnew (t' := tk) rv (by rw [rv.length]; omega))
section
variable [Tb]
section
variable {X : Cx} {W : WX} {i j : Nat} {x y : Str} {e : Expr} {te : DTE} {px py p2 pt pos : Pos} {kt : Nat}
def dStar (i j : Nat) (te : DTE) : DTS := fun D S er => te S (fun r S1 => match r with
  | .d (.list (x :: xs)) => D.nx { S1 with G := (S1.G.set i (some (.d x))).set j (some (.own xs)) }
  | _ => False) er
def gStar (K : PySem.W.Frag) (i j : Nat) : TG := fun v σ H Q => ∃ a v0 vs, v = .ref a ∧ SqL K H a (v0 :: vs) ∧ ∀ p, H p = none → Q ((σ.set i (some v0)).set j (some (.ref p))) (upd H p (.lst vs))
theorem pg_star (hc : X.calm = true) (hN : X.N.Nodup) (hi : X.N[i]? = some x) (hj : X.N[j]? = some y) (hx : Loc X.env.scope x) (hy : Loc X.env.scope y) (hf1 : X.fn x = true ∨ X.env.scope.names.lookup x = some .local) (hf2 : X.fn y = true ∨ X.env.scope.names.lookup y = some .local) :
    PG X (.Tuple [.Name x px, .Starred (.Name y py) p2] kt pt) (gStar X.K i j) := by
  refine ⟨fun pins s σ H v u Q I r hw => ?_⟩
  obtain ⟨a, v0, vs, e1, hq, hw⟩ := hw
  subst e1
  cases r
  obtain ⟨its, rv, pl, hz⟩ := I.list hq
  cases rv with
  | @cons _ u0 _ ur r0 rr =>
    rw [PyProof.Rows.assign_Tuple]
    refine wpAny_bind (wpAny_standAt ?_)
    unfold unpack
    refine wpAny_bind (wpAny_holding (star_items I pl.isList (I.ok.hd hc) rr (by have := rr.length; simp at hz; omega) fun D s' hD I1 => ?_))
    have hr : Vals [v0, .ref D] [u0, .ref D] := .cons r0 (.cons rfl .nil)
    exact (pgs_cons (pg_name (pos := px) hN hi hx hf1) (pgs_cons (pg_name (pos := py) hN hj hy hf2) pgs_nil)).run pins s' σ _ _ _ Q I1 hr ⟨_, _, rfl, _, _, rfl, rfl, hw D hD⟩
theorem ds_star (hc : X.calm = true) (hN : X.N.Nodup) (hi : X.N[i]? = some x) (hj : X.N[j]? = some y) (hx : Loc X.env.scope x) (hy : Loc X.env.scope y) (he : DE X W e te)
    (hs : swapsWithSole [.Tuple [.Name x px, .Starred (.Name y py) p2] kt pt] e pos.line X.env = pure false := by rfl) (hw : swappedStores [.Tuple [.Name x px, .Starred (.Name y py) p2] kt pt] e X.env = pure none := by rfl)
    (h1 : (assignEach [.Tuple [.Name x px, .Starred (.Name y py) p2] kt pt] X.env).map (·.2) = [assign (.Tuple [.Name x px, .Starred (.Name y py) p2] kt pt) X.env] := by rfl)
    (hf1 : X.fn x = true ∨ X.env.scope.names.lookup x = some .local := by first | exact .inl rfl | exact .inr rfl | assumption) (hf2 : X.fn y = true ∨ X.env.scope.names.lookup y = some .local := by first | exact .inl rfl | exact .inr rfl | assumption) :
    DS X W (.Assign [.Tuple [.Name x px, .Starred (.Name y py) p2] kt pt] e pos) (dStar i j te) :=
  .of (ps_asg he (pg_star hc hN hi hj hx hy hf1 hf2) hs hw h1) fun σ H B S D er R q hx => liftE.in (t := te) R q hx fun v H1 r S1 R1 m1 rr q1 => by
    match r, rr, q1 with
    | .d (.list (d0 :: ds)), rr, q1 =>
      cases (show Dz _ _ _ _ from rr) with
      | lst g1 g2 =>
        cases g2 with
        | cons z0 zs =>
          refine ⟨_, _, _, rfl, g1.sq, fun p hp => ⟨_, ((R1.new hp).setD (r := .d d0) (show Dz _ _ _ _ from z0.mono (.new hp))).setO ((RL.new R1 hp zs).setD fun ys z => nomatch z), m1.tr (.new hp), q1⟩⟩
end
end
end D3
/-! HEn: enumerate over a tuple. -/
namespace D3
open PySem PySem.Spec PyProof.Rows L2
open AutoSeq1 (wpAny_loadPart')
theorem meets_enumerate_newT (l : Addr) (items : Array Value) (o : Obj) (ho2 : o.cls = .type "tuple") (n : Nat) (hd : o.data = .seq items n) :
    Meets (Builtin.«enumerate.__new__» ⟨[.type "enumerate", .ref l], []⟩) (fun _ R s => s.heap.get? l = some o ∧
      R (.ok (.ret (.ref (s.heap.push { cls := .type "tuple_iterator", data := .fields #[.ref l, .int 0 0] }).objs.size)))
        { s with heap := (s.heap.push { cls := .type "tuple_iterator", data := .fields #[.ref l, .int 0 0] }).push { cls := .type "enumerate", data := .fields #[.none, .bool false, .ref s.heap.objs.size, rawInt 0, .none, .none] } }) :=
  .of_wp fun prog w A R s h => by
    obtain ⟨hp, g, d, tk, os⟩ := s; obtain ⟨hl, h⟩ := h
    have hsub := PySem.sub_enumerate
    have hL : Heap.IsTuple (Shared.heap ⟨hp, g, d, tk, os⟩) l items := ⟨_, hl, ho2, n, hd⟩
    wp_walk using wpAny_loadPart' hl
    refine wpAny_stack_any fun st => wpAny_pure ?_
    split
    · rename_i c _ _ _ _ _
      cases (c == Value.type "enumerate")
      · wp_walk using wpAny_loadPart' hl, wpAny_pyIter_tuple hL
        exact ⟨_, rfl, h⟩
      · wp_walk using wpAny_loadPart' hl, wpAny_pyIter_tuple hL
        exact ⟨_, rfl, h⟩
    · wp_walk using wpAny_loadPart' hl, wpAny_pyIter_tuple hL
      exact ⟨_, rfl, h⟩
theorem call_enumerate_tuple {prog : Program} {w : World} {A : Around} {E : Value → Shared → Prop} {s : Shared} {l : Addr} {items : Array Value} {Q : Value → Shared → Prop} (hL : s.heap.IsTuple l items)
    (h : ∀ h', IsEnum h' (s.heap.objs.size + 1) s.heap.objs.size 0 .none → h'.IsTupleIter s.heap.objs.size l 0 → h'.objs.size = s.heap.objs.size + 2 →
      (∀ b o, s.heap.get? b = some o → h'.get? b = some o) → Q (.ref (s.heap.objs.size + 1)) { s with heap := h' }) :
    wpAny (model prog w) A (call (.type "enumerate") [.ref l]) Q E s := by
  obtain ⟨o, hl, hc, n, hd⟩ := hL
  refine callType_new F.called_enumerate (by decide) (F.typeCall_enumerate_1 _) (F.newCall_enumerate_1 _) (fun obj => F.args_object_init_2 obj _) F.entry_enumerate_new
    (meets_enumerate_newT l items o hc n hd) ⟨hl, ?_⟩
  have hz : (s.heap.push { cls := .type "tuple_iterator", data := .fields #[.ref l, .int 0 0] }).objs.size = s.heap.objs.size + 1 := Heap.size_push ..
  show _ ∧ _
  rw [hz]
  have he : IsEnum ((s.heap.push { cls := .type "tuple_iterator", data := .fields #[.ref l, .int 0 0] }).push
      { cls := .type "enumerate", data := .fields #[.none, .bool false, .ref s.heap.objs.size, rawInt 0, .none, .none] }) (s.heap.objs.size + 1) s.heap.objs.size 0 .none := by
    have := Heap.get?_push_size (s.heap.push { cls := .type "tuple_iterator", data := .fields #[.ref l, .int 0 0] })
      (o := { cls := .type "enumerate", data := .fields #[.none, .bool false, .ref s.heap.objs.size, rawInt 0, .none, .none] }) rfl
    rw [hz] at this; exact this
  refine ⟨⟨_, he, rfl⟩, h _ he ⟨_, Heap.get?_push_of_some _ (Heap.get?_push_size _ rfl), rfl, rfl⟩ (by rw [Heap.size_push, hz]) fun b o x => Heap.get?_push_of_some _ (Heap.get?_push_of_some _ x)⟩
theorem enum_endT {prog : Program} {w : World} {A : Around} {E : Value → Shared → Prop} {s : Shared} {e it l : Addr} {i : Nat} {items : Array Value} {c : Int} {old : Value} {Q : Option Value → Shared → Prop} (hh : A.handled = none)
    (he : IsEnum s.heap e it c old) (hit : s.heap.IsTupleIter it l i) (hl : s.heap.IsTuple l items) (hx : items[i]? = none)
    (hQ : ∀ h', Heap.ExtBut it s.heap h' → Q none { s with heap := h' }) : wpAny (model prog w) A (pyNext (.ref e)) Q E s := by
  have hT : s.TypeIs (.ref e) "enumerate" := ⟨_, he, rfl⟩
  unfold pyNext
  refine wpAny_bind (wpAny_attempt (wpAny_callSpecial?_slot (name := Str.ofString "__next__") hT F.slot_enumerate_next
    (wpAny_call_entry F.slot_enumerate_next hT F.entry_enumerate_next ?_ (F.args_enumerate_next_1 _))))
  show wpAny _ _ (field (.ref e) 2 >>= _) _ _ _
  refine wpAny_bind (wpAny_field he rfl (x := .ref it) rfl ?_)
  refine wpAny_bind (wpAny_nextOf_tuple_end hh hit hl hx fun h' x he' hx' => ?_)
  obtain ⟨o, ho, hc⟩ := hx'
  refine wpAny_bind (wpAny_isInstance (T := "StopIteration") (b := true) ⟨o, ho, hc⟩ isSubtype_stop ?_)
  exact wpAny_pure (hQ _ he')
def IteT (K : PySem.W.Frag) (a : Addr) : It :=
  ⟨fun i H => ∃ (xs : List V) (x : V), SqT K H a xs ∧ xs[i]? = some x, fun i H v H' => ∃ T x, v = .ref T ∧ H T = none ∧ H' = upd H T (.tup [.int (i : Nat), x]) ∧ ∀ xs, SqT K H a xs → xs[i]? = some x, fun i H => ∃ xs : List V, SqT K H a xs ∧ xs.length ≤ i⟩
theorem turn_enumT {P : Program} {w : World} {K : PySem.W.Frag} {elts : List Expr} {kk : Nat} {tpos : Pos} (a e it : Addr) (ha : a ≠ it) (hae : a ≠ e) :
    Turn P w K (.Tuple elts kk tpos) (IteT K a) [e, it] e (fun i h => (∃ old, IsEnum h e it ((i : Nat) : Int) old) ∧ h.IsTupleIter it a i ∧ e ≠ it) where
  mem := by simp
  obj := fun i h st b hb => by
    obtain ⟨⟨old, he⟩, ⟨o, ho, hc, hd⟩, _⟩ := st
    have e' : b = e ∨ b = it := by simpa using hb
    rcases e' with z | z
    · rw [z]; exact ⟨_, he, fun v q => nomatch q⟩
    · rw [z]; exact ⟨o, ho, fun v q => by rw [hd] at q; cases q⟩
  keep := fun i h h' st k => let ⟨⟨old, he⟩, hi, hne⟩ := st; ⟨⟨old, k e (by simp) _ he⟩, hi.at fun o q => k it (by simp) o q, hne⟩
  item := by
    intro X hP hw hK hc i pins s σ H E I hf st hg
    subst hP hw hK
    obtain ⟨⟨old, he⟩, hit, hne⟩ := st
    obtain ⟨xs, x, hq, hx⟩ := hg
    obtain ⟨its, rv, p, hz⟩ := I.tuple hq
    obtain ⟨u, hu, ru⟩ := rv.get hx
    have hel : e < s.heap.objs.size := Heap.lt_size he
    have hil : it < s.heap.objs.size := by obtain ⟨_, q, _⟩ := hit; exact Heap.lt_size q
    have hin : i < its.toArray.size := by
      have := (List.getElem?_eq_some_iff.mp hu).1
      simpa using this
    refine wpAny_pyNext_enum_itemD (fp := [it, a]) (Draws.tuple (A := X.A.in1) (I.ok.hd hc) it a ha its.toArray) he ⟨hit, p⟩ hin hne (by simp [hne, Ne.symm hae]) fun x' h' tk hPx ho hit' hT hsz hk => ?_
    have ex : x' = u := by
      have : its.toArray[i]? = some x' := hPx
      simp only [List.getElem?_toArray] at this
      rw [hu] at this
      cases this
      rfl
    subst ex
    refine ⟨_, rfl, wpAny_letOwnedTupleGo_enum (s := { s with heap := h', toks := tk + 1 }) ho fun h'' he' sb => ?_⟩
    have hT2 : h''.get? s.heap.objs.size = some { cls := .type "tuple", data := .seq #[.int i tk, x'] } := (sb.2 _ (Nat.ne_of_gt hel)).trans hT
    have new : ObjOk X.prog X.w (upd H s.heap.objs.size (.tup [.int (i : Nat), x])) h'' s.heap.objs.size (.tup [.int (i : Nat), x]) :=
      ⟨by show 2 ≤ sizeLine; decide, [.int i tk, x'], .cons ⟨_, rfl⟩ (.cons ru .nil), ⟨_, hT2, rfl, _, rfl⟩⟩
    have I1 : Inv X pins σ (upd H s.heap.objs.size (.tup [.int (i : Nat), x])) { s with heap := h'', toks := tk + 1 } :=
      I.turnedNew (ch := [e, it]) (fun b ob hb q => (sb.2 b (fun z => hb (by simp [z]))).trans (hk b ob (fun z => hb (by simp [z])) (fun z => hb (by simp [z])) q)) hf (Nat.le_refl _) new
    refine ⟨.ref s.heap.objs.size, _, I1, rfl, ⟨_, x, rfl, I.hok.fresh (Nat.le_refl _), rfl, fun ys hy => by rw [I.tuple_inj hy hq]; exact hx⟩, ⟨⟨x', ?_⟩, hit'.1.at fun o q => (sb.2 it (Ne.symm hne)).trans q, hne⟩, fun b hb => ?_⟩
    · have e1 : ((i + 1 : Nat) : Int) = (i : Int) + 1 := by omega
      rw [e1]; exact he'
    · have hb' : b < s.heap.objs.size := by
        have e' : b = e ∨ b = it := by simpa using hb
        rcases e' with z | z
        · rw [z]; exact hel
        · rw [z]; exact hil
      rw [upd_ne (Nat.ne_of_lt hb')]
      exact (hf b hb).1
  done := by
    intro X hP hw hK hc i pins s σ H E I hf st hg
    subst hP hw hK
    obtain ⟨⟨old, he⟩, hit, hne⟩ := st
    obtain ⟨xs, hq, hx⟩ := hg
    obtain ⟨its, rv, p, hz⟩ := I.tuple hq
    obtain ⟨f0, f1, f2, f3, f4, f5⟩ := hf it (by simp)
    have hl := rv.length
    exact enum_endT (I.ok.hd hc) he hit p (by simp; omega) fun h' eb => ⟨rfl, I.turned (t' := s.toks) (fun b o hb q => eb b o hb q) f0 f1 f3 f4 f5⟩
  self := fun A i s Q E st h => let ⟨⟨_, he⟩, _⟩ := st; wpAny_pyIter_enum he h
def iEnumA (K : PySem.W.Frag) (ta : TA) : TI := fun σ H R => ta σ H fun vs H1 => ∃ a xs, vs = [.ref a] ∧ ((SqL K H1 a xs ∧ R (Ite K a) H1) ∨ (SqT K H1 a xs ∧ R (IteT K a) H1))
theorem pi_enumA {X : Cx} {e : Expr} {ta : TA} {p pos tpos : Pos} {elts : List Expr} {kk : Nat} (hg : Gl X "enumerate") (hm : X.mg "enumerate" = none) (ha : PA X [e] ta) (hs : starEach [e] X.env = [(false, eval e X.env)] := by rfl) :
    PI X (.Tuple elts kk tpos) (.Call (.Name "enumerate" p) [e] [] pos) (iEnumA X.K ta) := by
  refine ⟨fun pins s σ H R I h => ?_⟩
  refine Call_ (ld_blt I hg hm boot_enumerate (PyProof.Rows.callWith_type1 (thn (ha.run pos pins s σ H _ I h) fun us s1 ⟨vs, H1, I1, r1, q1⟩ => ?_) hs rfl))
  obtain ⟨a, xs, ex, q1⟩ := q1
  subst ex
  cases r1 with
  | cons r rr =>
    cases rr
    cases r
    have fr : ∀ b, b ∈ [s1.heap.objs.size + 1, s1.heap.objs.size] → FpOk X pins H1 b := fun b hb => by
      have e' : b = s1.heap.objs.size + 1 ∨ b = s1.heap.objs.size := by simpa using hb
      have hle : s1.heap.objs.size ≤ b := by
        rcases e' with z | z
        · rw [z]; exact Nat.le_add_right _ _
        · rw [z]; exact Nat.le_refl _
      exact I1.fpOk hle (I1.hok.fresh hle)
    rcases q1 with ⟨hq, q⟩ | ⟨hq, q⟩
    · obtain ⟨its, rv, p', hz⟩ := I1.list hq
      refine call_enumerate_list p'.isList fun h' he hit hsz hk => wpAny_pyIter_enum he ?_
      have I2 : Inv X pins σ H1 { s1 with heap := h' } := I1.kept (t' := s1.toks) hk
      exact ⟨s1.heap.objs.size + 1, [s1.heap.objs.size + 1, s1.heap.objs.size], _, _, H1, rfl, I2, turn_enum a (s1.heap.objs.size + 1) s1.heap.objs.size, ⟨⟨.none, he⟩, hit, Nat.succ_ne_self _⟩, fr, q⟩
    · obtain ⟨its, rv, p', hz⟩ := I1.tuple hq
      obtain ⟨ob, hob, _⟩ := id p'
      have hlt : a < s1.heap.objs.size := Heap.lt_size hob
      refine call_enumerate_tuple p' fun h' he hit hsz hk => wpAny_pyIter_enum he ?_
      have I2 : Inv X pins σ H1 { s1 with heap := h' } := I1.kept (t' := s1.toks) hk
      exact ⟨s1.heap.objs.size + 1, [s1.heap.objs.size + 1, s1.heap.objs.size], _, _, H1, rfl, I2, turn_enumT a (s1.heap.objs.size + 1) s1.heap.objs.size (Nat.ne_of_lt hlt) (Nat.ne_of_lt (Nat.lt_succ_of_lt hlt)), ⟨⟨.none, he⟩, hit, Nat.succ_ne_self _⟩, fr, q⟩
end D3
/-! D3zd: slices of whatever has items, of a name without its list being frozen; == with an empty one. -/
namespace D3
open PySem PySem.Spec PyProof.Rows L2
section
variable [Tb]
/-- r[a:b:c] -/
def gCut (r : SV) (a b c : Option Int) (k : SV → Prop) : Prop := match r with
  | .own xs => c ≠ some 0 ∧ k (.d (.list (pickL xs a b c)))
  | .d (.list xs) => c ≠ some 0 ∧ k (.d (.list (pickL xs a b c)))
  | .d (.tuple xs) => (match c with
    | none => k (.d (.tuple (cutL xs a b)))
    | some c => c = -1 ∧ a = none ∧ b = none ∧ k (.d (.tuple xs.reverse)))
  | .d (.str z) => c = none ∧ z.length ≤ sizeLine ∧ k (.d (.str (cutS z a b)))
  | _ => False
section
variable {X : Cx} {W : WX}
/-- a list of nobody's is frozen -/
theorem lock_new {pins : List (Addr × Obj)} {σ : L2.St} {H : Hp} {B : B3} {S : S3} {p : Addr} {vs : List V} {ds : List PyData} {s : Shared} {w : Value} {k : SV → Prop} (R : RS X.K B σ H S) (hp : H p = none) (z : DzA X.K H vs ds)
    (I : Inv X pins σ (upd H p (.lst vs)) s) (rw_ : RelV (.ref p) w) (q : k (.d (.list ds))) : EP X pins σ (KD X.K B σ H fun r S' => S' = S ∧ k r) w s := by
  obtain ⟨a, ws, e, h1, f⟩ := (R.new hp).frzNew (RL.new R hp z)
  cases e
  obtain ⟨od, I2⟩ := I.lock h1 trivial
  obtain ⟨R2, m2, z2⟩ := f od
  exact ⟨.ref p, _, I2, rw_, .d (.list ds), S, R2, (Mono.new hp).tr m2, z2, rfl, q⟩
/-- a tuple turned about -/
theorem sliceApplied_rev {prog : Program} {w : World} {A : Around} {E : Value → Shared → Prop} {s : Shared} {sl : Addr} {t : Tok} {n : Nat} {Q : Int × Int × Nat → Shared → Prop} (hs : s.heap.IsSliceOf sl .none .none (.int (-1) t))
    (h : Q ((n : Int) - 1, -1, n) s) : wpAny (model prog w) A (Builtin.Slice.sliceApplied (.ref sl) (pure (n : Int))) Q E s := by
  obtain ⟨os, hos, hcs, hds⟩ := id hs
  unfold Builtin.Slice.sliceApplied Builtin.Slice.sliceFields
  refine wpAny_bind (wpAny_bind (wpAny_field hos hds (x := .none) rfl (wpAny_bind (wpAny_field hos hds (x := .none) rfl (wpAny_bind (wpAny_field hos hds (x := .int (-1) t) rfl (wpAny_pure ?_)))))))
  refine wpAny_bind (slicePart_int ?_)
  show wpAny _ _ (if ((-1 : Int) == 0) = true then _ else _) _ _ s
  rw [if_neg (by decide)]
  refine wpAny_bind (slicePart_none (wpAny_bind (slicePart_none (wpAny_bind (wpAny_pure ?_)))))
  show wpAny _ _ (match Builtin.Slice.sliceAdjust none none (-1) (n : Int) with | (lo, hi) => pure (lo, (-1 : Int), Builtin.Slice.slicePlaces lo hi (-1))) _ _ s
  have e : Builtin.Slice.sliceAdjust none none (-1) (n : Int) = ((n : Int) - 1, -1) := by
    unfold Builtin.Slice.sliceAdjust
    simp
  rw [e]
  show wpAny _ _ (pure ((n : Int) - 1, (-1 : Int), Builtin.Slice.slicePlaces ((n : Int) - 1) (-1) (-1))) _ _ s
  have e2 : Builtin.Slice.slicePlaces ((n : Int) - 1) (-1) (-1) = n := by
    unfold Builtin.Slice.slicePlaces
    simp
    try omega
  rw [e2]
  exact wpAny_pure h
theorem fm_congr {α β : Type} {f g : α → Option β} : ∀ {l : List α}, (∀ m ∈ l, f m = g m) → l.filterMap f = l.filterMap g
  | [], _ => rfl
  | a :: r, h => by rw [List.filterMap_cons, List.filterMap_cons, h a (List.mem_cons_self ..), fm_congr fun m hm => h m (List.mem_cons_of_mem _ hm)]
theorem all_at : ∀ l : List Value, (List.range l.length).filterMap (fun m => l[m]?) = l
  | [] => rfl
  | a :: r => by
    rw [List.length_cons, List.range_succ_eq_map, List.filterMap_cons]
    simp only [List.getElem?_cons_zero, List.filterMap_map]
    have z := all_at r
    congr 1
theorem pick_rev (xs : Array Value) (n : Nat) (hn : xs.size = n) : ((List.range n).filterMap fun (m : Nat) => xs[(((n : Int) - 1) + (m : Int) * (-1)).toNat]?).toArray = xs.toList.reverse.toArray := by
  congr 1
  have e : ∀ m ∈ List.range n, xs[(((n : Int) - 1) + (m : Int) * (-1)).toNat]? = xs.toList.reverse[m]? := fun m hm => by
    have hm := List.mem_range.mp hm
    rw [List.getElem?_reverse (by rw [Array.length_toList]; omega), Array.length_toList, hn, Array.getElem?_toList]
    congr 1
    omega
  rw [fm_congr e]
  have hl : xs.toList.reverse.length = n := by simp [hn]
  generalize xs.toList.reverse = l at hl
  clear e
  subst hl
  exact all_at l
theorem getItem_tuple_rev {prog : Program} {w : World} {A : Around} {E : Value → Shared → Prop} {s : Shared} {t sl : Addr} {items : Array Value} {tk : Tok} {Q : Value → Shared → Prop} (ht : IsTup s.heap t items) (hs : s.heap.IsSliceOf sl .none .none (.int (-1) tk))
    (h : Q (.ref s.heap.objs.size) { s with heap := s.heap.push { cls := .type "tuple", data := .seq items.toList.reverse.toArray } })
    (hsz : items.size ≤ sizeLine) : wpAny (model prog w) A (getItem (.ref t) (.ref sl)) Q E s := by
  have htake : sizeOk (.seq items.toList.reverse.toArray) := by
    show items.toList.reverse.toArray.size ≤ sizeLine
    simpa using hsz
  obtain ⟨os, hos, hcs, hds⟩ := id hs
  have hTs : s.TypeIs (.ref sl) "slice" := ⟨os, hos, hcs⟩
  unfold getItem
  try with_reducible refine wpAny_holding ?_
  first | refine wpAny_bind (wpAny_pure ?_) | skip
  refine wpAny_bind (wpAny_sequenceKey ht.typeIs (by decide) ?_)
  refine wpAny_bind (wpAny_callSpecial?_slot (name := Str.ofString "__getitem__") ht.typeIs PyProof.Rows.slot_tuple_getitem
    (wpAny_call_entry PyProof.Rows.slot_tuple_getitem ht.typeIs entry_tuple_getitem ?_ (args_tuple_getitem _ _)))
  show wpAny _ _ (Builtin.Tuple.tupleItemsOf (.ref t) >>= _) _ _ s
  refine wpAny_bind (tupleItemsOf_ ht ?_)
  refine wpAny_bind (wpAny_typeOf hTs ?_)
  rw [if_pos (by decide)]
  refine wpAny_bind (sliceApplied_rev hs ?_)
  have hno : ¬ (((((items.size : Nat) : Int) - 1) == 0 && (-1 : Int) == 1 && items.size == items.size) = true) := by simp
  show wpAny _ _ (if ((((items.size : Nat) : Int) - 1) == 0 && (-1 : Int) == 1 && items.size == items.size) = true then _ else _) _ _ s
  rw [if_neg hno, pick_rev items _ rfl]
  first
    | exact wpAny_bind (m := Builtin.Tuple.tupleExact _) (wpAny_newObj_type (wpAny_pure ⟨_, rfl, wpAny_pure h⟩) htake)
    | exact wpAny_bind (m := Builtin.Tuple.tupleExact _) (wpAny_newObj_type (wpAny_bind (wpAny_pure (wpAny_pure ⟨_, rfl, wpAny_pure h⟩))) htake)
    | exact wpAny_bind (wpAny_bind (m := Builtin.Tuple.tupleExact _) (wpAny_newObj_type (wpAny_pure (wpAny_pure ⟨_, rfl, wpAny_pure h⟩)) htake))
    | exact wpAny_bind (wpAny_bind (m := Builtin.Tuple.tupleExact _) (wpAny_newObj_type (wpAny_pure ⟨_, rfl, wpAny_pure h⟩) htake))
theorem DzA.rev {K : PySem.W.Frag} {H : Hp} : ∀ {vs : List V} {ds : List PyData}, DzA K H vs ds → DzA K H vs.reverse ds.reverse
  | _, _, .nil => .nil
  | _, _, .cons a h => by
    rw [List.reverse_cons, List.reverse_cons]
    exact (DzA.rev h).app (.one a)
theorem vals_rev : ∀ {vs : List V} {us : List Value}, Vals vs us → Vals vs.reverse us.reverse
  | _, _, .nil => .nil
  | _, _, .cons a h => by
    rw [List.reverse_cons, List.reverse_cons]
    exact (vals_rev h).append (.cons a .nil)
section
variable {e : Expr} {lo hi st : Option Expr} {te : DTE} {tl th ts : DTO} {pos p2 : Pos}
theorem cut_any {pins : List (Addr × Obj)} {s4 : Shared} {σ : L2.St} {H4 : Hp} {B : B3} {S4 : S3} {r : SV} {x : V} {v vl vu vt : Value} {a b c : Option Int} {k : SV → Prop} (I : Inv X pins σ H4 { s4 with heap := s4.heap.push { cls := .type "slice", data := .fields #[vl, vu, vt] } })
    (R : RS X.K B σ H4 S4) (rr : SR X.K B H4 r x) (rx : RelV x v) (pl : IsPart vl a) (pu : IsPart vu b) (ps : IsPart vt c) (q : gCut r a b c k) :
    wpAny (model X.prog X.w) X.A (subscriptTail e (.Slice lo hi st p2) v (.ref s4.heap.objs.size)) (EP X pins σ (KD X.K B σ H4 fun r S' => S' = S4 ∧ k r)) X.xe { s4 with heap := s4.heap.push { cls := .type "slice", data := .fields #[vl, vu, vt] } } := by
  have lists : ∀ {adr : Addr} {vs : List V} {xs : List PyData}, SqL X.K H4 adr vs → DzA X.K H4 vs xs → v = .ref adr → c ≠ some 0 ∧ k (.d (.list (pickL xs a b c))) →
      wpAny (model X.prog X.w) X.A (subscriptTail e (.Slice lo hi st p2) v (.ref s4.heap.objs.size)) (EP X pins σ (KD X.K B σ H4 fun r S' => S' = S4 ∧ k r)) X.xe { s4 with heap := s4.heap.push { cls := .type "slice", data := .fields #[vl, vu, vt] } } := fun {adr vs xs} h1 z ev q => by
    subst ev
    refine thn (list_cut (Q := fun v H' => ∃ p, v = .ref p ∧ H4 p = none ∧ H' = upd H4 p (.lst (pickL vs a b c))) I h1 pl pu ps q.1 fun p hp => ⟨p, rfl, hp, rfl⟩) fun w s5 ⟨v, H5, I5, rv, p, ev, hp, eH⟩ => ?_
    subst ev eH
    exact lock_new R hp (pickL_dz z a b c) I5 rv q.2
  match r, rr, q with
  | .own xs, rr, q =>
    obtain ⟨adr, vs, rfl, h1, z, _⟩ := rr
    exact lists (.of h1) z rx q
  | .d (.list xs), rr, q =>
    cases (show Dz _ _ _ _ from rr) with
    | lst h1 z => exact lists h1.sq z rx q
  | .d (.tuple xs), rr, q =>
    cases (show Dz _ _ _ _ from rr) with
    | @tup adr vs _ h1 h2 =>
      have ev : v = .ref adr := rx
      subst ev
      unfold gCut at q
      dsimp only at q
      obtain ⟨ops, hop⟩ := sub_ops (lo := lo) (hi := hi) (st := st) (p2 := p2) (.ref adr) (.ref s4.heap.objs.size)
      split at q
      · have evt : vt = .none := by
          cases ps
          rfl
        subst evt
        obtain ⟨T, id, hT, ht, hg⟩ := sl_tupA pins _ σ H4 (.ref adr) (.ref adr) vl vu a b _ (KD X.K B σ H4 fun r S' => S' = S4 ∧ k r) I rfl (Heap.IsSliceOf.new ..) pl pu ⟨adr, vs, rfl, h1, fun w => by
          have e : cutL xs a b = xs := by
            unfold cutL
            rw [← h2.len, w.1, w.2]
            simp [h2.len]
          rw [e] at q
          exact ⟨.d (.tuple xs), S4, R, .rfl, Dz.tup h1 h2, rfl, q⟩, fun _ p hp => ⟨.d (.tuple (cutL xs a b)), S4, R.new hp, .new hp, Dz.tup (.of upd_same) ((cutL_dz h2 a b).mono (.new hp)), rfl, q⟩⟩
        exact tail_any (ops := ops) ht hT hg hop
      · obtain ⟨rfl, rfl, rfl, q'⟩ := q
        obtain ⟨its, r, ht, hz⟩ := I.tuple h1
        have l := r.length
        cases pl
        cases pu
        cases ps with
        | int i t =>
          refine tail_any (ops := ops) ht.typeIs PyProof.Rows.slot_tuple_getitem.lookup (getItem_tuple_rev ht (Heap.IsSliceOf.new ..) ?_ (by rw [List.size_toArray]; omega)) hop
          refine ⟨.ref _, _, I.laid (t' := s4.toks) (o := .tup vs.reverse) (fun b ob q => Heap.get?_push_of_some _ q) (Nat.le_refl _) ?_, rfl, .d (.tuple xs.reverse), S4, R.new (I.hok.fresh (Nat.le_refl _)), .new (I.hok.fresh (Nat.le_refl _)), Dz.tup (.of upd_same) (h2.rev.mono (.new (I.hok.fresh (Nat.le_refl _)))), rfl, q'⟩
          refine ⟨by rw [List.length_reverse]; omega, its.reverse, vals_rev r, ?_⟩
          exact IsTup.new _ _
  | .d (.str z), rr, q =>
    cases (show Dz _ _ _ _ from rr)
    obtain ⟨rfl, hz, q⟩ := q
    have evt : vt = .none := by
      cases ps
      rfl
    subst evt
    obtain ⟨T, id, hT, ht, hg⟩ := sl_str pins _ σ H4 (.str z) v vl vu a b _ (KD X.K B σ H4 fun r S' => S' = S4 ∧ k r) I rx (Heap.IsSliceOf.new ..) pl pu ⟨z, rfl, hz, .d (.str (cutS z a b)), S4, R, .rfl, Dz.str _, rfl, q⟩
    obtain ⟨ops, hop⟩ := sub_ops (lo := lo) (hi := hi) (st := st) (p2 := p2) v (.ref s4.heap.objs.size)
    exact tail_any (ops := ops) ht hT hg hop
def dSlG (te : DTE) (tl th ts : DTO) : DTE := fun S k er => te S (fun r S1 => tl S1 (fun a S2 => th S2 (fun b S3 => ts S3 (fun c S4 => gCut r a b c fun r => k r S4) er) er) er) er
theorem d_slG (he : DE X W e te) (hl : DO X W lo tl) (hh : DO X W hi th) (hs : DO X W st ts) : DE X W (.Subscript e (.Slice lo hi st p2) pos) (dSlG te tl th ts) := by
  refine .mk fun pins s σ H B S k er I R q hx => ?_
  refine slice_parts he hl hh hs I R q hx fun v vl vu vs s4 r x a b c H4 S4 I4 R4 m rr rx pl pu ps q4 => ?_
  exact thn (cut_any I4 R4 rr.sr rx pl pu ps q4) fun w s5 h => EP.kd m h
/-- x[a:b:c], x a name: its list is not frozen by that -/
def dSlV (i : Nat) (tl th ts : DTO) : DTE := fun S k er => hasG S i ∧ tl S (fun a S2 => th S2 (fun b S3 => ts S3 (fun c S4 => match S4.G[i]? with
  | some (some r) => gCut r a b c fun r => k r S4
  | _ => False) er) er) er
theorem hasG_at {K : PySem.W.Frag} {B : B3} {σ : L2.St} {H : Hp} {S : S3} {i : Nat} (R : RS K B σ H S) (hg : hasG S i) : ∃ vx, σ[i]? = some (some vx) := by
  unfold hasG at hg
  split at hg
  · rename_i r e
    obtain ⟨v, h, _⟩ := R.slot i r e
    exact ⟨v, h⟩
  · exact hg.elim
theorem slot_at {K : PySem.W.Frag} {B : B3} {σ : L2.St} {H : Hp} {S : S3} {i : Nat} {vx : V} {r : SV} (R : RS K B σ H S) (hσ : σ[i]? = some (some vx)) (e : S.G[i]? = some (some r)) : SR K B H r vx := by
  obtain ⟨w, h1, h2⟩ := R.slot i r e
  rw [hσ] at h1
  cases h1
  exact h2
theorem slice_name {i : Nat} {x : Str} {p : Pos} (hN : X.N[i]? = some x) (hv : Vis X.env.scope x) (hd : (x == ("__debug__" : Str)) = false) (hcd : (x == ("__classdict__" : Str)) = false) (hl : DO X W lo tl) (hh : DO X W hi th) (hs : DO X W st ts)
    {pins : List (Addr × Obj)} {s : Shared} {σ : L2.St} {H : Hp} {B : B3} {S : S3} (I : Inv X pins σ H s) (R : RS X.K B σ H S) {k4 : Option Int → Option Int → Option Int → S3 → Prop} {er : ED} (hg : hasG S i)
    (q : tl S (fun a S2 => th S2 (fun b S3 => ts S3 (fun c S4 => k4 a b c S4) er) er) er) (hx : HX X.K W B er) {Q : Value → Shared → Prop}
    (hf : ∀ (v vl vu vs : Value) (s4 : Shared) (vx : V) (a b c : Option Int) (H4 : Hp) (S4 : S3), Inv X pins σ H4 { s4 with heap := s4.heap.push { cls := .type "slice", data := .fields #[vl, vu, vs] } } → RS X.K B σ H4 S4 → Mono H H4 → σ[i]? = some (some vx) → RelV vx v → IsPart vl a → IsPart vu b → IsPart vs c → k4 a b c S4 →
      wpAny (model X.prog X.w) X.A (subscriptTail (.Name x p) (.Slice lo hi st p2) v (.ref s4.heap.objs.size)) Q X.xe { s4 with heap := s4.heap.push { cls := .type "slice", data := .fields #[vl, vu, vs] } }) :
    wpAny (model X.prog X.w) X.A (eval (.Subscript (.Name x p) (.Slice lo hi st p2) pos) X.env) Q X.xe s := by
  obtain ⟨vx, hσ⟩ := hasG_at R hg
  refine Subscript_ (thn ((pe_var (pos := p) (i := i) hN hv hd hcd).run pins s σ H (fun u H' => u = vx ∧ H' = H) I ⟨vx, hσ, rfl, rfl⟩) fun v s1 ⟨x, H1, I1, r1, ex, eH⟩ => ?_)
  subst ex eH
  refine wpAny_Slice (thn (hl.go I1 R q hx) fun vl s2 ⟨a, H2, I2, pl, S2, R2, m2, q2⟩ => thn (hh.go I2 R2 q2 hx) fun vu s3 ⟨b, H3, I3, pu, S3, R3, m3, q3⟩ => thn (hs.go I3 R3 q3 hx) fun vs s4 ⟨c, H4, I4, ps, S4, R4, m4, q4⟩ => ?_)
  exact hf v vl vu vs s4 _ a b c H4 S4 (I4.kept (t' := s4.toks) fun b ob q => Heap.get?_push_of_some _ q) R4 ((m2.tr m3).tr m4) hσ r1 pl pu ps q4
theorem d_slV {i : Nat} {x : Str} {p : Pos} (hN : X.N[i]? = some x) (hv : Vis X.env.scope x) (hl : DO X W lo tl) (hh : DO X W hi th) (hs : DO X W st ts) (hd : (x == ("__debug__" : Str)) = false := by decide) (hcd : (x == ("__classdict__" : Str)) = false := by decide) :
    DE X W (.Subscript (.Name x p) (.Slice lo hi st p2) pos) (dSlV i tl th ts) := by
  refine .mk fun pins s σ H B S k er I R q hx => ?_
  refine slice_name hN hv hd hcd hl hh hs I R q.1 q.2 hx fun v vl vu vs s4 vx a b c H4 S4 I4 R4 m hσ rx pl pu ps q4 => ?_
  split at q4
  · rename_i r e
    exact thn (cut_any I4 R4 (slot_at R4 hσ e) rx pl pu ps q4) fun w s5 h => EP.kd m h
  · exact q4.elim
/-- the same, a new list that nothing else holds -/
def dSlVL (i : Nat) (tl th ts : DTO) : DTL := fun S k er => hasG S i ∧ tl S (fun a S2 => th S2 (fun b S3 => ts S3 (fun c S4 => match S4.G[i]? with
  | some (some (.own xs)) => c ≠ some 0 ∧ k (pickL xs a b c) S4
  | some (some (.d (.list xs))) => c ≠ some 0 ∧ k (pickL xs a b c) S4
  | _ => False) er) er) er
theorem d_slVL {i : Nat} {x : Str} {p : Pos} (hN : X.N[i]? = some x) (hv : Vis X.env.scope x) (hl : DO X W lo tl) (hh : DO X W hi th) (hs : DO X W st ts) (hd : (x == ("__debug__" : Str)) = false := by decide) (hcd : (x == ("__classdict__" : Str)) = false := by decide) :
    DL X W (.Subscript (.Name x p) (.Slice lo hi st p2) pos) (dSlVL i tl th ts) := by
  refine .mk fun pins s σ H B S k er I R q hx => ?_
  refine slice_name hN hv hd hcd hl hh hs I R q.1 q.2 hx fun v vl vu vs s4 vx a b c H4 S4 I4 R4 m hσ rx pl pu ps q4 => ?_
  split at q4
  · rename_i xs e
    obtain ⟨adr, ws, ea, h1, z, _⟩ := slot_at R4 hσ e
    subst ea
    cases (show v = _ from rx)
    exact list_cut I4 (.of h1) pl pu ps q4.1 fun p hp => ⟨_, S4, R4.new hp, m.tr (.new hp), .new R4 hp (pickL_dz z a b c), q4.2⟩
  · rename_i xs e
    cases (show Dz _ _ _ _ from slot_at R4 hσ e) with
    | lst h1 z =>
      cases (show v = _ from rx)
      exact list_cut I4 h1.sq pl pu ps q4.1 fun p hp => ⟨_, S4, R4.new hp, m.tr (.new hp), .new R4 hp (pickL_dz z a b c), q4.2⟩
  · exact q4.elim
end
end
/-! ### == with an empty tuple or list, whatever the other holds -/
def gEqE : SV → SV → (SV → Prop) → Prop := fun x y k => match x, y with
  | .d (.tuple xs), .d (.tuple []) => k (.d (.bool xs.isEmpty))
  | .d (.list xs), .d (.list []) => k (.d (.bool xs.isEmpty))
  | x, y => gEq x y k
def gNeE : SV → SV → (SV → Prop) → Prop := fun x y k => match x, y with
  | .d (.tuple xs), .d (.tuple []) => k (.d (.bool (!xs.isEmpty)))
  | .d (.list xs), .d (.list []) => k (.d (.bool (!xs.isEmpty)))
  | x, y => gNe x y k
section
variable {X : Cx}
theorem isE {α : Type} {xs : List α} : xs.isEmpty = decide (xs.length = 0) := by cases xs <;> simp
/-- two tuples, two lists; the second is empty -/
theorem tup_empty {K : PySem.W.Frag} {pins : List (Addr × Obj)} {σ : L2.St} {H : Hp} {s : Shared} (I : Inv X pins σ H s) {v u : Value} {vx vy : V} {xs : List PyData} (hu : X.A.units < cLine) (a : Dz X.K H vx (.tuple xs)) (b : Dz X.K H vy (.tuple [])) (rx : RelV vx v) (ry : RelV vy u) :
    SeqAt.RcAt X.A s v u xs.isEmpty ∧ SeqAt.RcNeAt X.A s v u (!xs.isEmpty) := by
  cases a with
  | @tup a1 vs _ h1 z1 =>
    cases b with
    | tup h2 z2 =>
      cases z2
      cases rx
      cases ry
      obtain ⟨its, r, ⟨o1, e1, c1, n1, d1⟩, _⟩ := I.tuple h1
      obtain ⟨its2, r2, ⟨o2, e2, c2, n2, d2⟩, _⟩ := I.tuple h2
      cases r2
      have hl : s.heap.IsTuple _ its.toArray := ⟨o1, e1, c1, n1, d1⟩
      have hb : s.heap.IsTuple _ ([] : List Value).toArray := ⟨o2, e2, c2, n2, d2⟩
      have l : its.length = xs.length := by rw [← r.length, z1.len]
      have c : ((List.range (min its.toArray.size ([] : List Value).toArray.size)).all (fun _ => true) && its.toArray.size == ([] : List Value).toArray.size) = xs.isEmpty := by
        rw [isE]
        simp [l]
        cases xs <;> simp
      refine ⟨?_, ?_⟩
      · have z := SeqAt.RcAt.tuples (A := X.A) (e := fun _ => true) hl hb hu fun j _ h2 => absurd h2 (by simp)
        rw [c] at z
        exact z
      · have z := SeqAt.RcNeAt.tuples (A := X.A) (e := fun _ => true) hl hb hu fun j _ h2 => absurd h2 (by simp)
        rw [c] at z
        exact z
theorem lst_empty {pins : List (Addr × Obj)} {σ : L2.St} {H : Hp} {s : Shared} (I : Inv X pins σ H s) {v u : Value} {vx vy : V} {xs : List PyData} (hu : X.A.units < cLine) (a : Dz X.K H vx (.list xs)) (b : Dz X.K H vy (.list [])) (rx : RelV vx v) (ry : RelV vy u) :
    SeqAt.RcAt X.A s v u xs.isEmpty ∧ SeqAt.RcNeAt X.A s v u (!xs.isEmpty) := by
  cases a with
  | @lst a1 vs _ h1 z1 =>
    cases b with
    | lst h2 z2 =>
      cases z2
      cases rx
      cases ry
      obtain ⟨its, r, p1, _⟩ := I.list h1.sq
      obtain ⟨its2, r2, p2, _⟩ := I.list h2.sq
      cases r2
      have hl : s.heap.IsList _ its.toArray := p1.isList
      have hb : s.heap.IsList _ ([] : List Value).toArray := p2.isList
      have l : its.length = xs.length := by rw [← r.length, z1.len]
      cases xs with
      | nil =>
        have l : its = [] := List.eq_nil_of_length_eq_zero l
        subst l
        have z1 := SeqAt.RcAt.lists (A := X.A) (e := fun _ => true) hl hb rfl hu fun j _ h2 => absurd h2 (by simp)
        have z2 := SeqAt.RcNeAt.lists (A := X.A) (e := fun _ => true) hl hb rfl hu fun j _ h2 => absurd h2 (by simp)
        exact ⟨z1, z2⟩
      | cons x r =>
        have n : (its.toArray.size != ([] : List Value).toArray.size) = true := by simp [l]
        exact ⟨SeqAt.RcAt.lists_lengths hl hb n hu, SeqAt.RcNeAt.lists_lengths hl hb n hu⟩
theorem oEqE (hu : X.A.units + 64 < cLine) : OpD X (compareOp .Eq) gEqE := by
  intro pins s σ H B S x y vx vy v u k I R a rx b ry q
  unfold gEqE at q
  split at q
  · exact (tup_empty (K := X.K) I (by omega) a b rx ry).1 _ _ _ _ ⟨.bl _, H, I, rfl, .d _, S, R, .rfl, Dz.bl _, rfl, q⟩
  · exact (lst_empty I (by omega) a b rx ry).1 _ _ _ _ ⟨.bl _, H, I, rfl, .d _, S, R, .rfl, Dz.bl _, rfl, q⟩
  · exact oEq hu pins s σ H B S _ _ vx vy v u k I R a rx b ry q
theorem oNeE (hu : X.A.units + 64 < cLine) : OpD X (compareOp .NotEq) gNeE := by
  intro pins s σ H B S x y vx vy v u k I R a rx b ry q
  unfold gNeE at q
  split at q
  · exact (tup_empty (K := X.K) I (by omega) a b rx ry).2 _ _ _ _ ⟨.bl _, H, I, rfl, .d _, S, R, .rfl, Dz.bl _, rfl, q⟩
  · exact (lst_empty I (by omega) a b rx ry).2 _ _ _ _ ⟨.bl _, H, I, rfl, .d _, S, R, .rfl, Dz.bl _, rfl, q⟩
  · exact oNe hu pins s σ H B S _ _ vx vy v u k I R a rx b ry q
end
/-! ### repr, also of what holds empty dicts -/
section
variable {X : Cx} {pins : List (Addr × Obj)} {σ : L2.St} {H : Hp} {s : Shared}
/-- how a datum is shown, read off the heap -/
def ShK (X : Cx) (h : Heap) (u : Value) (d : PyData) : Prop := ∃ as bs, Reads h u d as ∧ ReadAtMost h d.depth bs ∧ ReprK X.prog X.w bs h d.depth u d.shown
def ShA (X : Cx) (h : Heap) (us : List Value) (ds : List PyData) : Prop := ∃ as bs, ReadsAll h us ds as ∧ ReadAtMost h (PyData.depthAll ds) bs ∧ ReprAllK X.prog X.w bs h (PyData.depthAll ds) us (PyData.shownAll ds)
theorem no_addrs {h : Heap} {n : Nat} : ReadAtMost h n [] := fun b m => by cases m
theorem ram_up {h : Heap} {m n : Nat} {bs : List Addr} (z : ReadAtMost h m bs) (l : m ≤ n) : ReadAtMost h n bs := fun b q => by
  obtain ⟨d, as, r1, r2⟩ := z b q
  exact ⟨d, as, r1, Nat.le_trans r2 l⟩
theorem ShA.nil {h : Heap} : ShA X h [] [] := ⟨[], [], .nil, no_addrs, by simp only [PyData.shownAll]; exact .nil⟩
theorem ShA.cons {h : Heap} {u : Value} {us : List Value} {d : PyData} {ds : List PyData} (z : ShK X h u d) (y : ShA X h us ds) : ShA X h (u :: us) (d :: ds) := by
  obtain ⟨a1, b1, r1, m1, k1⟩ := z
  obtain ⟨a2, b2, r2, m2, k2⟩ := y
  have l1 : d.depth ≤ PyData.depthAll (d :: ds) := by simp only [PyData.depthAll]; exact Nat.le_max_left ..
  have l2 : PyData.depthAll ds ≤ PyData.depthAll (d :: ds) := by simp only [PyData.depthAll]; exact Nat.le_max_right ..
  refine ⟨a1 ++ a2, b1 ++ b2, .cons r1 r2, (ram_up m1 l1).append (ram_up m2 l2), ?_⟩
  simp only [PyData.shownAll]
  exact .cons ((k1.more fun b q => List.mem_append_left b2 q).level_le l1) (k2.more_le (fun b q => List.mem_append_right b1 q) l2)
theorem ShA.lst {h : Heap} {a : Addr} {us : List Value} {ds : List PyData} {o : Obj} {n : Nat} (e1 : h.get? a = some o) (e2 : o.cls = .type "list") (e3 : o.data = .seq us.toArray n) (y : ShA X h us ds) : ShK X h (.ref a) (.list ds) := by
  obtain ⟨as, bs, r, m, k⟩ := y
  have rr : Reads h (.ref a) (.list ds) (a :: as) := .list e1 e2 e3 (by simpa using r)
  have l : PyData.depthAll ds < (PyData.list ds).depth := by simp only [PyData.depth]; omega
  have out : a ∉ bs := not_mem_of_deeper rr l m
  refine ⟨_, a :: bs, rr, ReadAtMost.cons rr (Nat.le_of_lt l) m, ?_⟩
  simp only [PyData.depth, PyData.shown]
  cases us with
  | nil =>
    cases r
    simp only [PyData.shownAll, listText_nil]
    exact ReprK.listEmpty e1 e2 e3
  | cons x t => exact ReprK.list e1 e2 e3 out (by have := k.length_eq; simpa using this) fun i y e => k.item i y (by simpa using e)
theorem ShA.tup {h : Heap} {a : Addr} {us : List Value} {ds : List PyData} {o : Obj} {n : Nat} (e1 : h.get? a = some o) (e2 : o.cls = .type "tuple") (e3 : o.data = .seq us.toArray n) (y : ShA X h us ds) : ShK X h (.ref a) (.tuple ds) := by
  obtain ⟨as, bs, r, m, k⟩ := y
  have rr : Reads h (.ref a) (.tuple ds) as := .tuple e1 e2 e3 (by simpa using r)
  have l : PyData.depthAll ds < (PyData.tuple ds).depth := by simp only [PyData.depth]; omega
  have out : a ∉ bs := not_mem_of_deeper rr l m
  refine ⟨_, a :: bs, rr, ReadAtMost.cons rr (Nat.le_of_lt l) m, ?_⟩
  simp only [PyData.depth, PyData.shown]
  exact ReprK.tuple e1 e2 e3 out (by simpa using k)
/-- the object of an empty dict -/
theorem dct_obj {a : Addr} {od : Obj} (I : Inv X pins σ H s) (h1 : H a = some (.frz od (.dK []))) : ∃ (o : Obj) (es : Array DictEntry) (n : Nat), s.heap.get? a = some o ∧ o.cls = .type "dict" ∧ o.data = .dict es n ∧ es.toList = [] ∧ (a == sysModules) = false := by
  obtain ⟨_, _, hb, vs, rel, o, es, ep, e1, e2, e3, _, e5, _⟩ := I.hok a _ h1
  cases rel
  refine ⟨o, es, ep, e1, e2.1, e3, ?_, hb⟩
  generalize es.toList = l at e5
  cases e5
  rfl
theorem dct_sh {h : Heap} {a : Addr} {o : Obj} {es : Array DictEntry} {n : Nat} (e1 : h.get? a = some o) (e2 : o.cls = .type "dict") (e3 : o.data = .dict es n) (e4 : es.toList = []) (e5 : (a == sysModules) = false) : ShK X h (.ref a) (.dict []) := by
  have rr : Reads h (.ref a) (.dict []) (a :: [] ++ []) := .dict e1 e2 e3 (by rw [e4]; exact .nil) (by rw [e4]; exact .nil)
  refine ⟨_, [a], rr, ReadAtMost.cons rr (Nat.zero_le _) no_addrs, ?_⟩
  simp only [PyData.depth, PyData.depthKv, PyData.shown, PyData.shownKv]
  exact ReprK.dict e1 e2 e3 e5 (fun m => by cases m) (by rw [e4]; exact .nil)
mutual
theorem Dz.sh (I : Inv X pins σ H s) : ∀ (d : PyData) (v : V) (u : Value), Dz X.K H v d → RelV v u → d.showable = true → d.shown.length ≤ sizeLine → ShK X s.heap u d
  | .none, _, _, z, r, _, _ => by
    cases z
    cases r
    exact ⟨_, [], Reads.none, no_addrs, by simp only [PyData.shown]; exact .of_is .none _ _ _⟩
  | .bool b, _, _, z, r, _, _ => by
    cases z
    cases r
    exact ⟨_, [], Reads.bool b, no_addrs, by simp only [PyData.shown]; exact .of_is (.bool b) _ _ _⟩
  | .int i, _, _, z, r, c, _ => by
    cases z
    obtain ⟨t, rfl⟩ := r
    have c2 : i.natAbs.log2 < 1920 := by simpa [PyData.showable] using c
    exact ⟨_, [], Reads.int i t, no_addrs, by simp only [PyData.shown]; exact .of_is (.int t c2) _ _ _⟩
  | .str x, _, _, z, r, _, c => by
    cases z
    obtain ⟨t, rfl⟩ := r
    have c2 : (reprText x).length ≤ sizeLine := by simpa only [PyData.shown] using c
    exact ⟨_, [], Reads.str x t, no_addrs, by simp only [PyData.shown]; exact .of_is (.str x t c2) _ _ _⟩
  | .list ds, _, _, z, r, c, l => by
    cases z with
    | @lst a vs _ q1 q2 =>
      cases r
      obtain ⟨its, rv, ⟨o, n, e1, e2, _, e3⟩, _⟩ := I.list q1.sq
      have l2 : (listText (PyData.shownAll ds)).length ≤ sizeLine := by simpa only [PyData.shown] using l
      exact ShA.lst e1 e2 e3 (Dz.shA I ds _ its q2 rv (by simpa [PyData.showable] using c) fun t m => Nat.le_trans (listText_mem_le m) l2)
  | .tuple ds, _, _, z, r, c, l => by
    cases z with
    | tup q1 q2 =>
      cases r
      obtain ⟨its, rv, ⟨o, e1, e2, n, e3⟩, _⟩ := I.tuple q1
      have l2 : (tupleText (PyData.shownAll ds)).length ≤ sizeLine := by simpa only [PyData.shown] using l
      exact ShA.tup e1 e2 e3 (Dz.shA I ds _ its q2 rv (by simpa [PyData.showable] using c) fun t m => Nat.le_trans (tupleText_mem_le m) l2)
  | .dict kvs, _, _, z, r, _, _ => by
    cases z with
    | dct0 q1 =>
      cases r
      obtain ⟨o, es, n, e1, e2, e3, e4, e5⟩ := dct_obj I q1
      exact dct_sh e1 e2 e3 e4 e5
theorem Dz.shA (I : Inv X pins σ H s) : ∀ (ds : List PyData) (vs : List V) (us : List Value), DzA X.K H vs ds → Vals vs us → PyData.showableAll ds = true → (∀ t ∈ PyData.shownAll ds, t.length ≤ sizeLine) → ShA X s.heap us ds
  | [], _, _, z, r, _, _ => by
    cases z
    cases r
    exact .nil
  | d :: ds, _, _, z, r, c, l => by
    cases z with
    | cons z1 z2 =>
      cases r with
      | cons r1 r2 =>
        have c2 : d.showable = true ∧ PyData.showableAll ds = true := by simpa [PyData.showableAll] using c
        simp only [PyData.shownAll, List.mem_cons, forall_eq_or_imp] at l
        exact .cons (Dz.sh I d _ _ z1 r1 c2.1 l.1) (Dz.shA I ds _ _ z2 r2 c2.2 l.2)
end
def gReprE : List SV → (SV → Prop) → Prop := fun rs k => match rs with
  | [.d x] => x.showable = true ∧ x.shown.length ≤ sizeLine ∧ x.depth ≤ 60 ∧ k (.d (.str x.shown))
  | _ => False
theorem cReprE (hgd : X.A.guards = some []) (hu : X.A.units + 64 < cLine) : CallD X (.builtin "repr") gReprE := by
  intro pins s σ H B S rs vs us k I R a rv q
  unfold gReprE at q
  split at q
  · rename_i x
    obtain ⟨hs, hz, hd, q⟩ := q
    obtain ⟨v, rfl, z⟩ := a.one
    have z : Dz X.K H v x := z
    obtain ⟨u, rfl, ru⟩ := vals1 rv
    have fin : ∀ (h' : Heap) (u' : Tok) (tk : Nat), (∀ b o, s.heap.get? b = some o → h'.get? b = some o) → EP X pins σ (KD X.K B σ H fun r S' => S' = S ∧ k r) (.str x.shown u') { s with heap := h', toks := tk } := fun h' u' tk kp =>
      ⟨.str x.shown, H, I.kept kp, ⟨_, rfl⟩, .d (.str _), S, R, .rfl, Dz.str _, rfl, q⟩
    have clr : ∀ b, Clear [] b := fun b => Clear.nil b
    have g1 : X.A.in1.guards = some [] := hgd
    cases x with
    | none =>
      cases z
      cases (show u = _ from ru)
      refine PySem.P.repr_of_none ?_
      simpa [PyData.shown] using fin s.heap s.toks (s.toks + 1) fun _ _ e => e
    | bool b =>
      cases z
      cases (show u = _ from ru)
      refine PySem.P.repr_of_bool ?_
      simpa [PyData.shown] using fin s.heap s.toks (s.toks + 1) fun _ _ e => e
    | int i =>
      cases z
      obtain ⟨t, rfl⟩ := (show ∃ t, u = Value.int i t from ru)
      refine PySem.P.repr_of_int (by simpa [PyData.showable] using hs) ?_
      simpa [PyData.shown] using fin s.heap s.toks (s.toks + 1) fun _ _ e => e
    | str y =>
      cases z
      obtain ⟨t, rfl⟩ := (show ∃ t, u = Value.str y t from ru)
      refine PySem.P.repr_of_str ?_ (by simpa [PyData.shown] using hz)
      simpa [PyData.shown] using fin s.heap s.toks (s.toks + 1) fun _ _ e => e
    | list ds =>
      cases z with
      | @lst p vs _ q1 q2 =>
        cases ru
        obtain ⟨its, rv, ⟨o, n, e1, e2, _, e3⟩, _⟩ := I.list q1.sq
        have l2 : (listText (PyData.shownAll ds)).length ≤ sizeLine := by simpa only [PyData.shown] using hz
        obtain ⟨as, bs, r, m, kk⟩ := Dz.shA I ds _ its q2 rv (by simpa [PyData.showable] using hs) fun t m => Nat.le_trans (listText_mem_le m) l2
        have rr : Reads s.heap (.ref p) (.list ds) (p :: as) := .list e1 e2 e3 (by simpa using r)
        have dl : PyData.depthAll ds < (PyData.list ds).depth := by simp only [PyData.depth]; omega
        have out : p ∉ bs := not_mem_of_deeper rr dl m
        simp only [PyData.depth] at hd
        simp only [PyData.shown] at fin
        refine call_repr_slot (by omega) ⟨o, e1, e2⟩ F.slot_list_repr.toG ?_
        cases its with
        | nil =>
          cases r
          simp only [PyData.shownAll, listText_nil] at fin
          exact call_list_repr_empty ⟨o, e1, e2⟩ e1 e3 ⟨_, _, rfl, fin s.heap _ _ fun _ _ e => e⟩
        | cons y t => exact call_list_reprK e1 e2 e3 out (by have := kk.length_eq; simpa using this) (fun i y e => kk.item i y (by simpa using e)) g1 (fun b _ => clr b) (by show X.A.units + 1 + _ < _; omega) (fun _ _ e => e) (fun h' u tk kp => ⟨_, _, rfl, fin h' u tk kp⟩) l2
    | tuple ds =>
      cases z with
      | @tup p vs _ q1 q2 =>
        cases ru
        obtain ⟨its, rv, ⟨o, e1, e2, n, e3⟩, _⟩ := I.tuple q1
        have l2 : (tupleText (PyData.shownAll ds)).length ≤ sizeLine := by simpa only [PyData.shown] using hz
        obtain ⟨as, bs, r, m, kk⟩ := Dz.shA I ds _ its q2 rv (by simpa [PyData.showable] using hs) fun t m => Nat.le_trans (tupleText_mem_le m) l2
        have rr : Reads s.heap (.ref p) (.tuple ds) as := .tuple e1 e2 e3 (by simpa using r)
        have dl : PyData.depthAll ds < (PyData.tuple ds).depth := by simp only [PyData.depth]; omega
        have out : p ∉ bs := not_mem_of_deeper rr dl m
        simp only [PyData.depth] at hd
        simp only [PyData.shown] at fin
        refine call_repr_slot (by omega) ⟨o, e1, e2⟩ F.slot_tuple_repr ?_
        exact call_tuple_reprK e1 e2 e3 out (by simpa using kk) g1 (fun b _ => clr b) (by show X.A.units + 1 + _ < _; omega) (fun _ _ e => e) (fun h' u tk kp => ⟨_, _, rfl, fin h' u tk kp⟩) l2
    | dict kvs =>
      cases z with
      | dct0 q1 =>
        cases ru
        obtain ⟨o, es, n, e1, e2, e3, e4, e5⟩ := dct_obj I q1
        simp only [PyData.shown, PyData.shownKv] at fin hz
        refine call_repr_slot (by omega) ⟨o, e1, e2⟩ F.slot_dict_repr ?_
        exact call_dict_reprK (as := []) (d := 0) e1 e2 e3 e5 (fun m => by cases m) (by rw [e4]; exact .nil) g1 (fun b _ => clr b) (by show X.A.units + 1 + _ < _; omega) (fun _ _ e => e) (fun h' u tk kp => ⟨_, _, rfl, fin h' u tk kp⟩) hz
  · exact q.elim
end
end
end D3
/-! D3ze: how long the repr of data is, with short texts and empty dicts. -/
namespace D3
open PySem PySem.Spec PyProof.Rows L2
mutual
/-- ints below 2 ^ 1920, texts whose repr is short, empty dicts -/
def gd : PyData → Prop
  | .none => True
  | .bool _ => True
  | .int i => i.natAbs.log2 < 1920
  | .str s => (reprText s).length ≤ 1000
  | .list xs => gdAll xs
  | .tuple xs => gdAll xs
  | .dict kvs => kvs = []
def gdAll : List PyData → Prop
  | [] => True
  | x :: xs => gd x ∧ gdAll xs
end
mutual
def szG : PyData → Nat
  | .none => 4
  | .bool _ => 5
  | .int _ => 1921
  | .str _ => 1000
  | .list xs => 2 + szGAll xs
  | .tuple xs => 4 + szGAll xs
  | .dict _ => 2
def szGAll : List PyData → Nat
  | [] => 0
  | x :: xs => szG x + 2 + szGAll xs
end
mutual
theorem shownG_le : ∀ d : PyData, gd d → d.shown.length ≤ szG d
  | .none, _ => by
    simp only [PyData.shown, szG]
    decide
  | .bool b, _ => by
    simp only [PyData.shown, szG]
    cases b <;> decide
  | .int i, h => by
    simp only [gd] at h
    simp only [PyData.shown, szG]
    exact int_text_len_1921 h
  | .str _, h => by
    simp only [gd] at h
    simpa only [PyData.shown, szG] using h
  | .dict _, h => by
    simp only [gd] at h
    subst h
    simp only [PyData.shown, szG, PyData.shownKv]
    decide +kernel
  | .list xs, h => by
    simp only [gd] at h
    have z := shownGAll_le xs h
    simp only [PyData.shown, szG]
    unfold listText
    have f := from_le (PyData.shownAll xs) 0 "["
    have e1 : ((("[" : String) : Str)).length = 1 := rfl
    have e2 : ((("]" : String) : Str)).length = 1 := rfl
    rw [Str.length_append, e2]
    omega
  | .tuple xs, h => by
    simp only [gd] at h
    have z := shownGAll_le xs h
    simp only [PyData.shown, szG]
    unfold tupleText
    have f := join_le (PyData.shownAll xs)
    have e1 : ((("(" : String) : Str)).length = 1 := rfl
    have e2 : (Str.ofString (if (PyData.shownAll xs).length == 1 then ",)" else ")" : String)).length ≤ 2 := by split <;> decide
    rw [Str.length_append, Str.length_append, e1]
    omega
theorem shownGAll_le : ∀ ds : List PyData, gdAll ds → ((PyData.shownAll ds).map fun t => t.length + 2).sum ≤ szGAll ds
  | [], _ => by simp [PyData.shownAll, szGAll]
  | d :: r, h => by
    simp only [gdAll] at h
    have a := shownG_le d h.1
    have b := shownGAll_le r h.2
    simp only [PyData.shownAll, szGAll, List.map_cons, List.sum_cons]
    omega
end
mutual
theorem gd_show : ∀ d : PyData, gd d → d.showable = true
  | .none, _ => by simp [PyData.showable]
  | .bool _, _ => by simp [PyData.showable]
  | .int i, h => by
    simp only [gd] at h
    simp [PyData.showable, h]
  | .str _, h => by simp [PyData.showable]
  | .dict _, h => by
    simp only [gd] at h
    subst h
    simp [PyData.showable, PyData.showableKv]
  | .list xs, h => by
    simp only [gd] at h
    have z := gd_showAll xs h
    simp [PyData.showable, z]
  | .tuple xs, h => by
    simp only [gd] at h
    have z := gd_showAll xs h
    simp [PyData.showable, z]
theorem gd_showAll : ∀ ds : List PyData, gdAll ds → PyData.showableAll ds = true
  | [], _ => by simp [PyData.showableAll]
  | d :: r, h => by
    simp only [gdAll] at h
    have a := gd_show d h.1
    have b := gd_showAll r h.2
    simp [PyData.showableAll, a, b]
end
theorem reprG_of {d : PyData} {k : SV → Prop} (h : gd d) (hs : szG d ≤ 16777216) (hd : d.depth ≤ 60) (q : k (.d (.str d.shown))) : gReprE [.d d] k := by
  have z := gd_show d h
  have l := shownG_le d h
  exact ⟨z, by rw [sizeLine_eq]; omega, hd, q⟩
end D3
/-! D3zf: enumerate of tuples; bool + int; is of bools. -/
namespace D3
open PySem PySem.Spec PyProof.Rows L2
section
variable [Tb]
theorem over_enumT {K : PySem.W.Frag} {a : Addr} {vs : List V} {ds : List PyData} {H1 : Hp} (h1 : SqT K H1 a vs) (h2 : DzA K H1 vs ds) : ItOver K (IteT K a) H1 (enumD 0 ds) := by
  refine ⟨fun i H2 m hi => ?_, fun i H2 x H3 m lt y => ?_, fun i H2 m hi => ⟨vs, sqT_mono m h1, by rw [h2.len]; rw [enumD_len] at hi; exact hi⟩⟩
  · have hi2 : i < vs.length := by rw [h2.len]; rw [enumD_len] at hi; exact hi
    exact ⟨vs, vs[i], sqT_mono m h1, List.getElem?_eq_getElem hi2⟩
  · obtain ⟨T, w, e1, hT, e2, y⟩ := y
    subst e1 e2
    obtain ⟨d, e3, z⟩ := h2.getV (y vs (sqT_mono m h1))
    have m3 : Mono H2 (upd H2 T (.tup [.int (i : Nat), w])) := .new hT
    refine ⟨fun b o q => by rw [upd_ne (ne_of_none q hT)]; exact q, _, enumD_get ds 0 i d e3, Dz.tup (.of upd_same) ?_⟩
    rw [Nat.zero_add]
    exact .cons (.int _) (.cons (Dz.mono (m.tr m3) _ _ z) .nil)
section
variable {X : Cx} {W : WX} {tg it e a b : Expr} {ti te ta tb : DTE} {t : DTL} {p pos : Pos}
def dEnumA (te : DTE) : DTL := fun S k e => te S (fun r S1 => match r with
  | .d (.list xs) => k (enumD 0 xs) S1
  | .d (.tuple xs) => k (enumD 0 xs) S1
  | _ => False) e
theorem di_enumA {elts : List Expr} {kk : Nat} {tpos : Pos} (hgl : Gl X "enumerate") (hm : X.mg "enumerate" = none) (ha : DE X W a ta) (hA : starEach [a] X.env = (false, eval a X.env) :: starEach [] X.env := by rfl) (hA2 : starEach [a] X.env = [(false, eval a X.env)] := by rfl) :
    DI X W (.Tuple elts kk tpos) (.Call (.Name "enumerate" p) [a] [] pos) (dEnumA ta) :=
  .of (pi_enumA hgl hm (da_cons (W := W) ha da_nil hA) hA2) fun σ H B S k er R RS_ q hx g =>
    liftA.in (t := dCons ta dNil) (k := fun rs S1 => ∃ r, rs = [r] ∧ (match r with
      | .d (.list xs) => k (enumD 0 xs) S1
      | .d (.tuple xs) => k (enumD 0 xs) S1
      | _ => False)) RS_ (by
      refine one_arg (P := fun r S1 => ∃ r', [r] = [r'] ∧ (match r' with
        | .d (.list xs) => k (enumD 0 xs) S1
        | .d (.tuple xs) => k (enumD 0 xs) S1
        | _ => False)) q fun r S1 => ?_
      exact ⟨fun z => ⟨r, rfl, z⟩, fun ⟨r', e, z⟩ => by cases e; exact z⟩) hx fun vs H1 rs S1 R1 m1 rrs q1 => by
      obtain ⟨r, rfl, q1⟩ := q1
      obtain ⟨v, rfl, r1⟩ := rrs.one
      match r, r1, q1 with
      | .d (.list xs), r1, q1 =>
        cases (show Dz _ _ _ _ from r1) with
        | @lst ad vs ds h1 h2 => exact ⟨ad, vs, rfl, .inl ⟨h1.sq, g _ _ _ _ R1 m1 (over_enum h1 h2) q1⟩⟩
      | .d (.tuple xs), r1, q1 =>
        cases (show Dz _ _ _ _ from r1) with
        | @tup ad vs ds h1 h2 => exact ⟨ad, vs, rfl, .inr ⟨h1, g _ _ _ _ R1 m1 (over_enumT h1 h2) q1⟩⟩
/-- a bool added to -/
def gAddB : SV → SV → (SV → Prop) → Prop := fun x y k => match x, y with
  | .d (.bool b), .d (.int j) => k (.d (.int ((if b then 1 else 0) + j)))
  | x, y => gAdd x y k
theorem oAddB : OpD X (binaryOp .Add) gAddB := by
  intro pins s σ H B S x y vx vy v u k I R a rx b ry q
  unfold gAddB at q
  split at q
  · rename_i z j
    cases (show Dz _ _ _ _ from a)
    cases (show Dz _ _ _ _ from b)
    cases (show v = _ from rx)
    obtain ⟨t, rfl⟩ := ry
    exact PySem.IntBool.add_bool_int ⟨.int _, H, I.kept fun _ _ e => e, ⟨_, rfl⟩, .d (.int _), S, R, .rfl, Dz.int _, rfl, q⟩
  · exact oAdd pins s σ H B S _ _ vx vy v u k I R a rx b ry q
def gIs2 : SV → SV → (SV → Prop) → Prop := fun x y k => match x, y with
  | .d (.bool a), .d (.bool b) => k (.d (.bool (decide (a = b))))
  | x, y => gIs x y k
def gIsN2 : SV → SV → (SV → Prop) → Prop := fun x y k => match x, y with
  | .d (.bool a), .d (.bool b) => k (.d (.bool (!decide (a = b))))
  | x, y => gIsN x y k
theorem oIs2 : OpD X (compareOp .Is) gIs2 := by
  intro pins s σ H B S x y vx vy v u k I R a rx b ry q
  unfold gIs2 at q
  split at q
  · cases (show Dz _ _ _ _ from a)
    cases (show Dz _ _ _ _ from b)
    exact op_isBl pins s σ H _ _ v u _ I rx ry ⟨_, _, rfl, rfl, .d _, S, R, .rfl, Dz.bl _, rfl, q⟩
  · exact oIs pins s σ H B S _ _ vx vy v u k I R a rx b ry q
theorem oIsN2 : OpD X (compareOp .IsNot) gIsN2 := by
  intro pins s σ H B S x y vx vy v u k I R a rx b ry q
  unfold gIsN2 at q
  split at q
  · cases (show Dz _ _ _ _ from a)
    cases (show Dz _ _ _ _ from b)
    exact op_notBl pins s σ H _ _ v u _ I rx ry ⟨_, _, rfl, rfl, .d _, S, R, .rfl, Dz.bl _, rfl, q⟩
  · exact oIsN pins s σ H B S _ _ vx vy v u k I R a rx b ry q
end
end
end D3
/-! D3zg: evaluation lemmas for comprehensions, loops, slices, tests. -/
namespace D3
open PySem PySem.Spec PyProof.Rows L2
/-- what a comprehension's turn gives -/
abbrev CTurn (vs : List Nat) (g : DTG) (tt : DTT) (te : DTE) (S : S3) (x : PyData) (o : Option PyData) : Prop :=
  ∀ (N : PyData → S3 → Prop) (M : S3 → Prop), (∀ y S3, o = some y → S3.wipe vs = S → N y S3) → (∀ S2, o = none → S2.wipe vs = S → M S2) →
    g x S fun S1 => tt S1 (fun b S2 => iteB b (te S2 (fun r S3 => match r with
      | .d y => N y S3
      | _ => False) noE) (M S2)) noE
theorem comp_fm {vs : List Nat} {g : DTG} {tt : DTT} {te : DTE} {k : List PyData → S3 → Prop} {S : S3} (hw : S.wipe vs = S) (f : PyData → Option PyData) : ∀ (xs acc : List PyData), (∀ x ∈ xs, CTurn vs g tt te S x (f x)) →
    acc.length + xs.length ≤ sizeLine → k (acc ++ xs.filterMap f) S → dComp vs g tt te k xs acc S
  | [], acc, _, _, hk => by
    unfold dComp
    rw [hw]
    simpa using hk
  | x :: xs, acc, h, hl, hk => by
    unfold dComp
    simp only [List.length_cons] at hl
    refine h x (List.mem_cons_self ..) _ _ (fun y S3 e eS => ?_) (fun S2 e eS => ?_)
    · refine ⟨by omega, ?_⟩
      rw [eS]
      refine comp_fm hw f xs _ (fun z hz => h z (List.mem_cons_of_mem _ hz)) (by simp; omega) ?_
      rw [List.filterMap_cons, e] at hk
      simpa using hk
    · rw [eS]
      refine comp_fm hw f xs _ (fun z hz => h z (List.mem_cons_of_mem _ hz)) (by omega) ?_
      rw [List.filterMap_cons, e] at hk
      exact hk
/-- a comprehension without a test -/
theorem comp_map {vs : List Nat} {g : DTG} {te : DTE} {k : List PyData → S3 → Prop} {S : S3} (hw : S.wipe vs = S) (f : PyData → PyData) {xs : List PyData} (h : ∀ x ∈ xs, ∀ (N : PyData → S3 → Prop), (∀ S3, S3.wipe vs = S → N (f x) S3) →
    g x S fun S1 => te S1 (fun r S3 => match r with
      | .d y => N y S3
      | _ => False) noE)
    (hl : xs.length ≤ sizeLine) (hk : k (xs.map f) S) : dComp vs g dYes te k xs [] S := by
  refine comp_fm hw (fun x => some (f x)) xs [] (fun x hx N M hN hM => ?_) (by simpa using hl) (by simpa [List.filterMap_eq_map] using hk)
  exact h x hx N fun S3 e => hN _ _ rfl e
theorem comp2_fm {vs vs1 : List Nat} {g g1 : DTG} {tt tt1 : DTT} {ti1 : DTL} {te : DTE} {k : List PyData → S3 → Prop} {S : S3} (hw : S.wipe vs = S) (f : PyData → List PyData) : ∀ (xs acc : List PyData),
    (∀ x ∈ xs, ∀ (acc : List PyData) (N : List PyData → S3 → Prop), acc.length + (f x).length ≤ sizeLine → (∀ S4, S4.wipe vs = S → N (acc ++ f x) S4) →
      g x S fun S1 => tt S1 (fun b S2 => iteB b (ti1 S2 (fun ys S3 => dComp vs1 g1 tt1 te N ys acc (S3.wipe vs1)) noE) (N acc S2)) noE) →
    acc.length + (xs.flatMap f).length ≤ sizeLine → k (acc ++ xs.flatMap f) S → dComp2 vs vs1 g tt ti1 g1 tt1 te k xs acc S
  | [], acc, _, _, hk => by
    unfold dComp2
    rw [hw]
    simpa using hk
  | x :: xs, acc, h, hl, hk => by
    unfold dComp2
    simp only [List.flatMap_cons, List.length_append] at hl
    refine h x (List.mem_cons_self ..) acc (fun acc2 S4 => dComp2 vs vs1 g tt ti1 g1 tt1 te k xs acc2 (S4.wipe vs)) (by omega) (fun S4 eS => ?_)
    rw [eS]
    refine comp2_fm hw f xs _ (fun z hz => h z (List.mem_cons_of_mem _ hz)) (by simp only [List.length_append]; omega) ?_
    simpa using hk
/-- a loop that ends at the first item that is not good -/
theorem loop_ret {g : DTG} {tb : DTS} {D : DEnds} {e : ED} (I : S3 → Prop) (good : PyData → Bool) : ∀ (xs : List PyData) (S : S3), I S →
    (∀ x ∈ xs, ∀ (S : S3) (N : S3 → Prop), I S → (good x = true → ∀ S1, I S1 → N S1) → (good x = false → xs.all good = false) → g x S fun S1 => tb { D with nx := N, ct := N, bk := D.nx } S1 e) →
    (xs.all good = true → ∀ S1, I S1 → D.nx S1) → dLoop g tb D e xs S
  | [], S, hI, _, h => h rfl S hI
  | x :: xs, S, hI, hs, h => by
    unfold dLoop
    refine hs x (List.mem_cons_self ..) S _ hI (fun gx S1 h1 => ?_) (fun gx => by simp [gx])
    have e1 : (x :: xs).all good = xs.all good := by simp [gx]
    refine loop_ret I good xs S1 h1 (fun y hy S N hi hn hb => hs y (List.mem_cons_of_mem _ hy) S N hi hn fun q => by rw [e1]; exact hb q) (fun z => h (by rw [e1]; exact z))
/-- a loop over lo, lo + 1, .. -/
theorem loop_rangeFrom {g : DTG} {tb : DTS} {D : DEnds} {e : ED} (I : Nat → S3 → Prop) (n : Nat) (hs : ∀ i < n, ∀ (S : S3) (N : S3 → Prop), I i S → (∀ S1, I (i + 1) S1 → N S1) → g (.int (i : Int)) S fun S1 => tb { D with nx := N, ct := N, bk := D.nx } S1 e) (h : ∀ S1, I n S1 → D.nx S1) :
    ∀ (m i : Nat) (S : S3), i + m = n → I i S → dLoop g tb D e (rangeD (i : Int) m) S
  | 0, i, S, hi, hI => by
    have : i = n := by omega
    subst this
    exact h S hI
  | m + 1, i, S, hi, hI => by
    unfold rangeD dLoop
    refine hs i (by omega) S _ hI fun S1 h1 => ?_
    have e1 : ((i : Int) + 1) = ((i + 1 : Nat) : Int) := by omega
    rw [e1]
    exact loop_rangeFrom I n hs h m (i + 1) S1 (by omega) h1
theorem loop_range {g : DTG} {tb : DTS} {D : DEnds} {e : ED} {S : S3} {n : Nat} (I : Nat → S3 → Prop) (h0 : I 0 S) (hs : ∀ i < n, ∀ (S : S3) (N : S3 → Prop), I i S → (∀ S1, I (i + 1) S1 → N S1) → g (.int (i : Int)) S fun S1 => tb { D with nx := N, ct := N, bk := D.nx } S1 e) (h : ∀ S1, I n S1 → D.nx S1) :
    dLoop g tb D e (rangeD 0 n) S := loop_rangeFrom I n hs h n 0 S (by omega) h0
/-- an item by a place that is there -/
theorem at_any {xs : List PyData} {i : Int} {k : SV → Prop} (h0 : 0 ≤ i) (h1 : i < (xs.length : Int)) (hk : ∀ d ∈ xs, k (.d d)) : atK xs i k := by
  have hl : i.toNat < xs.length := by omega
  exact atK_nat (n := i.toNat) (by omega) (List.getElem?_eq_getElem hl) (hk _ (List.getElem_mem hl))
/-- xs[-1:] -/
theorem pick_last_nil {α : Type} : pickL ([] : List α) (some (-1)) none none = [] := by
  letI : Tb := ⟨[]⟩
  rw [pick_cut]
  unfold cutL
  simp
theorem pick_last {α : Type} {xs : List α} {a : α} : pickL (xs ++ [a]) (some (-1)) none none = [a] := by
  letI : Tb := ⟨[]⟩
  rw [pick_cut]
  unfold cutL
  have e : HT.sIx (xs ++ [a]).length 0 (some (-1)) = xs.length := by
    unfold HT.sIx
    simp
    omega
  rw [e, HT.sIx_none]
  simp
theorem pick_lastL {α : Type} (xs : List α) : pickL xs (some (-1)) none none = xs.getLast?.toList := by
  rcases List.eq_nil_or_concat xs with rfl | ⟨l, a, rfl⟩
  · exact pick_last_nil
  · rw [List.concat_eq_append, pick_last]
    simp
/-! isinstance, by data -/
section
variable {K : PySem.W.Frag} {x : PyData} {k : SV → Prop}
theorem isF_ty {n : String} {b : Bool} (h : kitB (tyD x) n = some b) : gIsiF K [.d x, .raw (.ty n)] k ↔ k (.d (.bool b)) := by
  cases x <;> simp only [gIsiF, h]
theorem isF_int : gIsiF K [.d x, .raw (.ty "int")] k ↔ k (.d (.bool (qInt x))) := isF_ty (kb_int x)
theorem isF_bool : gIsiF K [.d x, .raw (.ty "bool")] k ↔ k (.d (.bool (qBool x))) := isF_ty (kb_bool x)
theorem isF_str : gIsiF K [.d x, .raw (.ty "str")] k ↔ k (.d (.bool (qStr x))) := isF_ty (kb_str x)
theorem isF_list : gIsiF K [.d x, .raw (.ty "list")] k ↔ k (.d (.bool (qLst x))) := isF_ty (kb_list x)
theorem isF_tuple : gIsiF K [.d x, .raw (.ty "tuple")] k ↔ k (.d (.bool (qTup x))) := isF_ty (kb_tuple x)
theorem isF_dict : gIsiF K [.d x, .raw (.ty "dict")] k ↔ k (.d (.bool (qDct x))) := isF_ty (kb_dict x)
end
/-- == of ints, bools, texts -/
theorem eqE_int {i j : Int} {k : SV → Prop} : gEqE (.d (.int i)) (.d (.int j)) k ↔ k (.d (.bool (i == j))) := by simp [gEqE, gEq, sh_int, eqv_int]
theorem neE_int {i j : Int} {k : SV → Prop} : gNeE (.d (.int i)) (.d (.int j)) k ↔ k (.d (.bool (!(i == j)))) := by simp [gNeE, gNe, sh_int, eqv_int]
theorem eqE_str {i j : Str} {k : SV → Prop} : gEqE (.d (.str i)) (.d (.str j)) k ↔ k (.d (.bool (i == j))) := by simp [gEqE, gEq]
theorem neE_str {i j : Str} {k : SV → Prop} : gNeE (.d (.str i)) (.d (.str j)) k ↔ k (.d (.bool (!(i == j)))) := by simp [gNeE, gNe]
theorem eqE_tup0 {xs : List PyData} {k : SV → Prop} : gEqE (.d (.tuple xs)) (.d (.tuple [])) k ↔ k (.d (.bool xs.isEmpty)) := Iff.rfl
theorem neE_tup0 {xs : List PyData} {k : SV → Prop} : gNeE (.d (.tuple xs)) (.d (.tuple [])) k ↔ k (.d (.bool (!xs.isEmpty))) := Iff.rfl
theorem eqE_lst0 {xs : List PyData} {k : SV → Prop} : gEqE (.d (.list xs)) (.d (.list [])) k ↔ k (.d (.bool xs.isEmpty)) := Iff.rfl
theorem neE_lst0 {xs : List PyData} {k : SV → Prop} : gNeE (.d (.list xs)) (.d (.list [])) k ↔ k (.d (.bool (!xs.isEmpty))) := Iff.rfl
theorem addB_int {i j : Int} {k : SV → Prop} : gAddB (.d (.int i)) (.d (.int j)) k ↔ k (.d (.int (i + j))) := Iff.rfl
theorem addB_tup {xs ys : List PyData} {k : SV → Prop} : gAddB (.d (.tuple xs)) (.d (.tuple ys)) k ↔ xs.length + ys.length ≤ sizeLine ∧ k (.d (.tuple (xs ++ ys))) := Iff.rfl
theorem addB_lst {xs ys : List PyData} {k : SV → Prop} : gAddB (.d (.list xs)) (.d (.list ys)) k ↔ xs.length + ys.length ≤ sizeLine ∧ k (.d (.list (xs ++ ys))) := Iff.rfl
theorem is2_none {x : SV} {k : SV → Prop} : gIs2 x (.d .none) k ↔ ∃ b, isNone x = some b ∧ k (.d (.bool b)) := by
  cases x with
  | d x => cases x <;> exact Iff.rfl
  | _ => exact Iff.rfl
theorem isN2_none {x : SV} {k : SV → Prop} : gIsN2 x (.d .none) k ↔ ∃ b, isNone x = some b ∧ k (.d (.bool (!b))) := by
  cases x with
  | d x => cases x <;> exact Iff.rfl
  | _ => exact Iff.rfl
/-- slices -/
theorem cut_to {α : Type} {xs : List α} {n : Nat} : cutL xs none (some (n : Int)) = xs.take n := by
  unfold cutL
  rw [HT.sIx_none, HT.sIx_nat, List.drop_zero, Nat.sub_zero]
  exact List.take_eq_take_min.symm
theorem cut_from {α : Type} {xs : List α} {n : Nat} : cutL xs (some (n : Int)) none = xs.drop n := by
  unfold cutL
  rw [HT.sIx_none, HT.sIx_nat, List.take_of_length_le (by rw [List.length_drop]; omega)]
  by_cases h : n ≤ xs.length
  · rw [Nat.min_eq_left h]
  · rw [Nat.min_eq_right (by omega), List.drop_length, List.drop_eq_nil_of_le (by omega)]
theorem cut_all {α : Type} {xs : List α} : cutL xs none none = xs := by
  unfold cutL
  rw [HT.sIx_none, HT.sIx_none, List.drop_zero, Nat.sub_zero, List.take_length]
/-- xs[-1:] -/
theorem cut_last {α : Type} {xs : List α} : cutL xs (some (-1)) none = xs.drop (xs.length - 1) := by
  unfold cutL
  have e : HT.sIx xs.length 0 (some (-1)) = xs.length - 1 := by
    unfold HT.sIx
    simp
    omega
  rw [e, HT.sIx_none, List.take_of_length_le (by rw [List.length_drop]; omega)]
theorem at_last {xs : List PyData} {d : PyData} {k : SV → Prop} (h : xs.getLast? = some d) : atK xs (-1) k ↔ k (.d d) := by
  have hn : xs ≠ [] := fun z => by rw [z] at h; cases h
  have hl : 0 < xs.length := List.length_pos_iff.mpr hn
  rw [List.getLast?_eq_getElem?] at h
  have e : atI xs (-1) = some d := by
    unfold atI ixN
    rw [if_neg (by decide), if_pos (by omega)]
    have e2 : ((-1 : Int) + (xs.length : Int)).toNat = xs.length - 1 := by omega
    show xs[((-1 : Int) + (xs.length : Int)).toNat]? = some d
    rw [e2]
    exact h
  unfold atK
  rw [e]
end D3
/-! D3zh: what the program's top says of an own __init__. -/
namespace D3
open PySem PySem.Spec PyProof.Rows L2
def dflN (K : PySem.W.Frag) (dV : Value) : Bool := match dV with
  | .ref T => (match K.lookup T with
    | some o => (match o.data with
      | .seq its _ => (match its.toList with
        | [.none] => true
        | _ => false)
      | _ => false)
    | none => false)
  | _ => false
theorem dflN_ok {K : PySem.W.Frag} {dV : Value} (h : dflN K dV = true) : DflV K dV [.non] := by
  unfold dflN at h
  split at h
  · rename_i T
    split at h
    · rename_i o e
      split at h
      · rename_i its n e2
        split at h
        · rename_i e3
          refine .inr ⟨by simp, T, o, its.toList, n, rfl, e, by simpa using e2, ?_⟩
          rw [e3]
          exact .cons rfl .nil
        · cases h
      · cases h
    · cases h
  · cases h
end D3
/-! D3zi: any of a list of bools; range with a step. -/
namespace D3
open PySem PySem.Spec PyProof.Rows L2
section
variable [Tb]
section
variable {X : Cx}
def gAny : List SV → (SV → Prop) → Prop := fun rs k => match rs with
  | [.d (.list xs)] => ∃ bs, boolsD xs = some bs ∧ k (.d (.bool (bs.any id)))
  | _ => False
theorem cAny (hc : X.calm = true) : CallD X (.builtin "any") gAny := .of (cr_any hc) fun σ H B S rs vs k R a q => by
  unfold gAny at q
  split at q
  · obtain ⟨v, rfl, z⟩ := a.one
    obtain ⟨bs, e, q⟩ := q
    cases (show Dz _ _ _ _ from z) with
    | lst h1 h2 => exact ⟨_, bs, rfl, by rw [← boolsD_v h2 e]; exact h1.sq, .d (.bool _), S, R, .rfl, Dz.bl _, rfl, q⟩
  · exact q.elim
end
def rangeDC (lo c : Int) : Nat → List PyData
  | 0 => []
  | n + 1 => .int lo :: rangeDC (lo + c) c n
theorem rangeDC_len (c : Int) (n : Nat) : ∀ lo : Int, (rangeDC lo c n).length = n := by
  induction n with
  | zero => intro lo; rfl
  | succ n ih => intro lo; rw [rangeDC, List.length_cons, ih]
theorem rangeDC_get (c : Int) (n : Nat) : ∀ (lo : Int) (i : Nat), i < n → (rangeDC lo c n)[i]? = some (.int (lo + (i : Nat) * c)) := by
  induction n with
  | zero => intro lo i h; exact absurd h (Nat.not_lt_zero _)
  | succ n ih =>
    intro lo i h
    cases i with
    | zero => simp [rangeDC]
    | succ i =>
      rw [rangeDC, List.getElem?_cons_succ, ih (lo + c) i (by omega)]
      have : lo + c + (i : Int) * c = lo + ((i + 1 : Nat) : Int) * c := by
        rw [Int.natCast_add, Int.add_mul]
        omega
      rw [this]
theorem over_rangeC {K : PySem.W.Frag} {lo c : Int} {n : Nat} {H1 : Hp} : ItOver K (Itc lo c n) H1 (rangeDC lo c n) := by
  refine ⟨fun i H2 m hi => ?_, fun i H2 x H3 m lt y => ?_, fun i H2 m hi => ?_⟩
  · rw [rangeDC_len] at hi
    exact hi
  · obtain ⟨e, y⟩ := y
    subst e
    rw [rangeDC_len] at lt
    subst y
    exact ⟨fun _ _ q => q, _, rangeDC_get _ _ _ _ lt, Dz.int _⟩
  · rw [rangeDC_len] at hi
    exact hi
section
variable {X : Cx} {W : WX} {tg a b c : Expr} {ta tb tc : DTE} {p pos : Pos}
def dRg3 (ta tb tc : DTE) : DTL := fun S k e => dCons ta (dCons tb (dCons tc dNil)) S (fun rs S1 => ∃ i j l n, rs = [.d (.int i), .d (.int j), .d (.int l)] ∧ RgC i j l n ∧ k (rangeDC i l n) S1) e
theorem di_range3 (hgl : Gl X "range") (hm : X.mg "range" = none) (ha : DE X W a ta) (hb : DE X W b tb) (hc : DE X W c tc) (hA : starEach [a, b, c] X.env = (false, eval a X.env) :: starEach [b, c] X.env := by rfl) (hB : starEach [b, c] X.env = (false, eval b X.env) :: starEach [c] X.env := by rfl) (hC : starEach [c] X.env = (false, eval c X.env) :: starEach [] X.env := by rfl)
    (hpl : (backTo pos (starEach [b, c] X.env)).any (·.1) = false := by rfl) : DI X W tg (.Call (.Name "range" p) [a, b, c] [] pos) (dRg3 ta tb tc) :=
  .of (pi_range3 hgl hm (da_cons (W := W) ha (da_cons hb (da_cons hc da_nil hC) hB) hA) hA hpl) fun σ H B S k er R RS_ q hx g =>
    liftA.in (t := dCons ta (dCons tb (dCons tc dNil))) (k := fun rs S1 => ∃ i j l n, rs = [.d (.int i), .d (.int j), .d (.int l)] ∧ RgC i j l n ∧ k (rangeDC i l n) S1) RS_ q hx fun vs H1 rs S1 R1 m1 rrs q1 => by
      obtain ⟨i, j, l, n, rfl, rg, q1⟩ := q1
      cases rrs with
      | cons r1 rrs =>
        cases rrs with
        | cons r2 rrs =>
          cases rrs with
          | cons r3 rrs =>
            cases rrs
            cases (show Dz _ _ _ _ from r1)
            cases (show Dz _ _ _ _ from r2)
            cases (show Dz _ _ _ _ from r3)
            exact ⟨i, j, l, n, rfl, rg, g _ _ _ _ R1 m1 over_rangeC q1⟩
end
end
end D3
/-! Sf: what a field is, over plain data (no program in sight). -/
namespace D3
open PySem
/-- the length of a tuple, 0 of anything else -/
def lenT : PyData → Nat
  | .tuple xs => xs.length
  | _ => 0
def itemsT : PyData → List PyData
  | .tuple xs => xs
  | _ => []
/-- the sides of rows: wide, high -/
def sidesD : PyData → Option (Nat × Nat)
  | .tuple (r :: rs) => if rs.length + 1 ≤ 11 ∧ 1 ≤ lenT r ∧ lenT r ≤ 11 ∧ rs.all (fun q => lenT q == lenT r) = true then some (lenT r, rs.length + 1) else none
  | _ => none
theorem sides_some {d : PyData} {w h : Nat} (e : sidesD d = some (w, h)) : ∃ rs, d = .tuple rs ∧ rs.length = h ∧ 1 ≤ h ∧ h ≤ 11 ∧ 1 ≤ w ∧ w ≤ 11 ∧ ∀ q ∈ rs, ∃ xs, q = .tuple xs ∧ xs.length = w := by
  unfold sidesD at e
  split at e
  · rename_i r rs
    split at e
    · rename_i c
      obtain ⟨c1, c2, c3, c4⟩ := c
      cases e
      have tup : ∀ q : PyData, lenT q = lenT r → ∃ xs, q = .tuple xs ∧ xs.length = lenT r := fun q e => by
        cases q with
        | tuple xs => exact ⟨xs, rfl, e⟩
        | _ => rw [← e] at c2; simp [lenT] at c2
      refine ⟨r :: rs, rfl, by simp, by omega, by omega, c2, c3, fun q hq => ?_⟩
      rcases List.mem_cons.mp hq with rfl | hq
      · exact tup _ rfl
      · exact tup _ (by simpa using List.all_eq_true.mp c4 q hq)
    · cases e
  · cases e
/-- what stands at (x, y) -/
def atD (d : PyData) (x y : Nat) : Option PyData := match (itemsT d)[y]? with
  | some r => (itemsT r)[x]?
  | none => none
def rimB (w h x y : Nat) : Bool := decide (x = 0 ∨ x = w - 1 ∨ y = 0 ∨ y = h - 1)
def numB (w h x y : Nat) : Option PyData → Bool
  | some (.int i) => !(rimB w h x y && decide (35 < i.natAbs))
  | _ => false
/-- all spots of w by h -/
def allXY (w h : Nat) (p : Nat → Nat → Bool) : Bool := (List.range w).all fun x => (List.range h).all fun y => p x y
theorem allXY_iff {w h : Nat} {p : Nat → Nat → Bool} : allXY w h p = true ↔ ∀ x < w, ∀ y < h, p x y = true := by
  unfold allXY
  simp [List.all_eq_true]
/-- row by row -/
theorem allXY_rows {w h : Nat} {p : Nat → Nat → Bool} : allXY w h p = (List.range h).all fun y => (List.range w).all fun x => p x y := by
  rw [Bool.eq_iff_iff, allXY_iff]
  simp only [List.all_eq_true, List.mem_range]
  exact ⟨fun z y hy x hx => z x hx y hy, fun z x hx y hy => z y hy x hx⟩
def heightD : Option PyData → Int
  | some (.int i) => i
  | _ => 0
def stepB (d : PyData) (x y : Nat) : Bool :=
  decide ((heightD (atD d x y) - x - y) % 2 = 0) && (x == 0 || decide ((heightD (atD d x y) - heightD (atD d (x - 1) y)).natAbs = 1)) && (y == 0 || decide ((heightD (atD d x y) - heightD (atD d x (y - 1))).natAbs = 1))
/-- a worth: a fraction but 0 -/
def worthB : PyData → Bool
  | .tuple [.int a, .int b] => decide (a ≠ 0) && decide (0 < b) && decide (Int.gcd a b = 1)
  | _ => false
def worthsB (d : PyData) : Bool := (itemsT d).all fun r => (itemsT r).all worthB
def numsB (d : PyData) (w h : Nat) : Bool := allXY w h fun x y => numB w h x y (atD d x y)
def stepsB (d : PyData) (w h : Nat) : Bool := allXY w h (stepB d)
/-- the faults of a thing as a field -/
def faultD : PyData → List PyData
  | .tuple [hs, ws] => match sidesD hs with
    | some (w, h) => if numsB hs w h then (if stepsB hs w h then (if sidesD ws = some (w, h) ∧ worthsB ws = true then [] else [.str "worths"]) else [.str "steps"]) else [.str "heights"]
    | none => [.str "heights"]
  | _ => [.none]
end D3
/-! Sg: fields by their spots; fields turned about (no program in sight). -/
namespace D3
open PySem
/-- w by h things -/
def grid (w h : Nat) (f : Nat → Nat → PyData) : PyData := .tuple ((List.range h).map fun y => .tuple ((List.range w).map fun x => f x y))
theorem grid_congr {w h : Nat} {f g : Nat → Nat → PyData} (e : ∀ x < w, ∀ y < h, f x y = g x y) : grid w h f = grid w h g := by
  unfold grid
  refine congrArg PyData.tuple (List.map_congr_left fun y hy => ?_)
  refine congrArg PyData.tuple (List.map_congr_left fun x hx => ?_)
  exact e x (List.mem_range.mp hx) y (List.mem_range.mp hy)
theorem sides_grid {w h : Nat} {f : Nat → Nat → PyData} (w1 : 1 ≤ w) (w2 : w ≤ 11) (h1 : 1 ≤ h) (h2 : h ≤ 11) : sidesD (grid w h f) = some (w, h) := by
  unfold grid
  have hl : ((List.range h).map fun y => PyData.tuple ((List.range w).map fun x => f x y)).length = h := by simp
  have hi : ∀ q ∈ ((List.range h).map fun y => PyData.tuple ((List.range w).map fun x => f x y)), lenT q = w := fun q hq => by
    obtain ⟨y, _, rfl⟩ := List.mem_map.mp hq
    simp [lenT]
  revert hl hi
  generalize ((List.range h).map fun y => PyData.tuple ((List.range w).map fun x => f x y)) = L
  intro hl hi
  match L, hl, hi with
  | [], hl, _ => simp at hl; omega
  | r :: t, hl, hi =>
    have e1 := hi r (List.mem_cons_self ..)
    simp only [List.length_cons] at hl
    simp only [sidesD]
    rw [if_pos, e1, hl]
    refine ⟨by omega, by omega, by omega, ?_⟩
    rw [List.all_eq_true]
    intro q hq
    rw [hi q (List.mem_cons_of_mem _ hq), e1]
    simp
theorem at_grid {w h x y : Nat} {f : Nat → Nat → PyData} (hx : x < w) (hy : y < h) : atD (grid w h f) x y = some (f x y) := by
  unfold atD grid
  simp [itemsT, List.getElem?_map, List.getElem?_range, hx, hy]
theorem grid_of {d : PyData} {w h : Nat} (e : sidesD d = some (w, h)) : ∃ f : Nat → Nat → PyData, d = grid w h f := by
  obtain ⟨rs, rfl, hl, _, _, _, _, hr⟩ := sides_some e
  refine ⟨fun x y => (atD (.tuple rs) x y).getD .none, ?_⟩
  unfold grid
  refine congrArg PyData.tuple (List.ext_getElem? fun y => ?_)
  by_cases hy : y < h
  · have hy2 : y < rs.length := by omega
    rw [List.getElem?_map, List.getElem?_range hy, List.getElem?_eq_getElem hy2]
    obtain ⟨xs, e1, e2⟩ := hr rs[y] (List.getElem_mem hy2)
    simp only [Option.map_some]
    rw [e1]
    refine congrArg some (congrArg PyData.tuple (List.ext_getElem? fun x => ?_))
    by_cases hx : x < w
    · have hx2 : x < xs.length := by omega
      rw [List.getElem?_map, List.getElem?_range hx, List.getElem?_eq_getElem hx2]
      simp only [Option.map_some, atD, itemsT, List.getElem?_eq_getElem hy2, e1, List.getElem?_eq_getElem hx2, Option.getD_some]
    · rw [List.getElem?_eq_none (by omega), List.getElem?_eq_none (by simp; omega)]
  · rw [List.getElem?_eq_none (by omega), List.getElem?_eq_none (by simp; omega)]
/-- a field by its spots -/
def fieldG (w h : Nat) (H : Nat → Nat → Int) (W : Nat → Nat → PyData) : PyData := .tuple [grid w h fun x y => .int (H x y), grid w h W]
structure GoodF (w h : Nat) (H : Nat → Nat → Int) (W : Nat → Nat → PyData) : Prop where
  w1 : 1 ≤ w
  w2 : w ≤ 11
  h1 : 1 ≤ h
  h2 : h ≤ 11
  rim : ∀ x < w, ∀ y < h, rimB w h x y = true → (H x y).natAbs ≤ 35
  par : ∀ x < w, ∀ y < h, (H x y - x - y) % 2 = 0
  sx : ∀ x < w, ∀ y < h, x ≠ 0 → (H x y - H (x - 1) y).natAbs = 1
  sy : ∀ x < w, ∀ y < h, y ≠ 0 → (H x y - H x (y - 1)).natAbs = 1
  wo : ∀ x < w, ∀ y < h, worthB (W x y) = true
theorem worths_grid {w h : Nat} {W : Nat → Nat → PyData} : worthsB (grid w h W) = true ↔ ∀ x < w, ∀ y < h, worthB (W x y) = true := by
  unfold worthsB grid
  simp only [itemsT, List.all_eq_true, List.mem_map, List.mem_range]
  constructor
  · intro z x hx y hy
    exact z _ ⟨y, hy, rfl⟩ _ (by simp only [itemsT, List.mem_map, List.mem_range]; exact ⟨x, hx, rfl⟩)
  · rintro z q ⟨y, hy, rfl⟩ p hp
    simp only [itemsT, List.mem_map, List.mem_range] at hp
    obtain ⟨x, hx, rfl⟩ := hp
    exact z x hx y hy
theorem nums_grid {w h : Nat} {H : Nat → Nat → Int} : numsB (grid w h fun x y => .int (H x y)) w h = true ↔ ∀ x < w, ∀ y < h, rimB w h x y = true → (H x y).natAbs ≤ 35 := by
  unfold numsB
  rw [allXY_iff]
  refine forall_congr' fun x => forall_congr' fun hx => forall_congr' fun y => forall_congr' fun hy => ?_
  rw [at_grid hx hy]
  simp only [numB]
  cases rimB w h x y <;> simp
theorem steps_grid {w h : Nat} {H : Nat → Nat → Int} : stepsB (grid w h fun x y => .int (H x y)) w h = true ↔ (∀ x < w, ∀ y < h, (H x y - x - y) % 2 = 0 ∧ (x ≠ 0 → (H x y - H (x - 1) y).natAbs = 1) ∧ (y ≠ 0 → (H x y - H x (y - 1)).natAbs = 1)) := by
  unfold stepsB
  rw [allXY_iff]
  refine forall_congr' fun x => forall_congr' fun hx => forall_congr' fun y => forall_congr' fun hy => ?_
  unfold stepB
  rw [at_grid hx hy, at_grid (x := x - 1) (by omega) hy, at_grid (y := y - 1) hx (by omega)]
  simp only [heightD, Bool.and_eq_true, Bool.or_eq_true, decide_eq_true_eq, beq_iff_eq]
  constructor
  · rintro ⟨⟨a, b⟩, c⟩
    exact ⟨of_decide_eq_true a, fun z => of_decide_eq_true (b.resolve_left z), fun z => of_decide_eq_true (c.resolve_left z)⟩
  · rintro ⟨a, b, c⟩
    refine ⟨⟨decide_eq_true a, ?_⟩, ?_⟩
    · by_cases z : x = 0
      · exact .inl z
      · exact .inr (decide_eq_true (b z))
    · by_cases z : y = 0
      · exact .inl z
      · exact .inr (decide_eq_true (c z))
theorem good_fault {w h : Nat} {H : Nat → Nat → Int} {W : Nat → Nat → PyData} (g : GoodF w h H W) : faultD (fieldG w h H W) = [] := by
  have n : numsB (grid w h fun x y => .int (H x y)) w h = true := nums_grid.mpr g.rim
  have st : stepsB (grid w h fun x y => .int (H x y)) w h = true := steps_grid.mpr fun x hx y hy => ⟨g.par x hx y hy, g.sx x hx y hy, g.sy x hx y hy⟩
  unfold fieldG faultD
  simp only [sides_grid g.w1 g.w2 g.h1 g.h2, n, st, if_true]
  rw [if_pos ⟨trivial, worths_grid.mpr g.wo⟩]
theorem fault_good {d : PyData} (e : faultD d = []) : ∃ w h H W, d = fieldG w h H W ∧ GoodF w h H W := by
  unfold faultD at e
  split at e
  · rename_i hs ws
    split at e
    · rename_i w h e1
      split at e
      · rename_i n
        split at e
        · rename_i st
          split at e
          · rename_i c
            obtain ⟨c1, c2⟩ := c
            obtain ⟨f, rfl⟩ := grid_of e1
            obtain ⟨W, rfl⟩ := grid_of c1
            obtain ⟨_, _, _, h1, h2, w1, w2, _⟩ := sides_some e1
            have e2 : grid w h f = grid w h fun x y => .int (heightD (some (f x y))) := by
              refine grid_congr fun x hx y hy => ?_
              have z := allXY_iff.mp n x hx y hy
              rw [at_grid hx hy] at z
              generalize f x y = d at z ⊢
              cases d <;> simp [numB] at z
              rfl
            rw [e2] at n st
            refine ⟨w, h, _, W, ?_, w1, w2, h1, h2, nums_grid.mp n, fun x hx y hy => ?_, fun x hx y hy => ?_, fun x hx y hy => ?_, worths_grid.mp c2⟩
            · unfold fieldG
              rw [e2]
            · exact (steps_grid.mp st x hx y hy).1
            · exact (steps_grid.mp st x hx y hy).2.1
            · exact (steps_grid.mp st x hx y hy).2.2
          · cases e
        · cases e
      · cases e
    · cases e
  · cases e
/-! turned about -/
theorem GoodF.under {w h : Nat} {H : Nat → Nat → Int} {W : Nat → Nat → PyData} (g : GoodF w h H W) : GoodF w h (fun x y => -H x y) W :=
  ⟨g.w1, g.w2, g.h1, g.h2, fun x hx y hy r => by have := g.rim x hx y hy r; omega, fun x hx y hy => by have := g.par x hx y hy; omega, fun x hx y hy z => by have := g.sx x hx y hy z; omega, fun x hx y hy z => by have := g.sy x hx y hy z; omega, g.wo⟩
theorem rim_turn {w h x y : Nat} : rimB w h x y = rimB h w y x := by
  unfold rimB
  rw [Bool.eq_iff_iff]
  simp only [decide_eq_true_eq]
  omega
theorem GoodF.turn {w h : Nat} {H : Nat → Nat → Int} {W : Nat → Nat → PyData} (g : GoodF w h H W) : GoodF h w (fun x y => H y x) (fun x y => W y x) :=
  ⟨g.h1, g.h2, g.w1, g.w2, fun x hx y hy r => g.rim y hy x hx (by rw [rim_turn]; exact r), fun x hx y hy => by have := g.par y hy x hx; omega, fun x hx y hy z => g.sy y hy x hx z, fun x hx y hy z => g.sx y hy x hx z, fun x hx y hy => g.wo y hy x hx⟩
/-- one higher where the sides are even -/
def moreI (w : Nat) : Int := 1 - ((w % 2 : Nat) : Int)
theorem rim_mir {w h x y : Nat} (hx : x < w) : rimB w h (w - 1 - x) y = rimB w h x y := by
  unfold rimB
  rw [Bool.eq_iff_iff]
  simp only [decide_eq_true_eq]
  omega
/-- whether a mirror would go beyond -/
def tooHigh (w h : Nat) (H : Nat → Nat → Int) : Prop := w % 2 = 0 ∧ ∃ x < w, ∃ y < h, rimB w h x y = true ∧ H x y = 35
theorem GoodF.mir {w h : Nat} {H : Nat → Nat → Int} {W : Nat → Nat → PyData} (g : GoodF w h H W) (no : ¬ tooHigh w h H) : GoodF w h (fun x y => H (w - 1 - x) y + moreI w) (fun x y => W (w - 1 - x) y) := by
  refine ⟨g.w1, g.w2, g.h1, g.h2, fun x hx y hy r => ?_, fun x hx y hy => ?_, fun x hx y hy z => ?_, fun x hx y hy z => ?_, fun x hx y hy => g.wo _ (by omega) y hy⟩
  · have r2 : rimB w h (w - 1 - x) y = true := by rw [rim_mir hx]; exact r
    have b := g.rim (w - 1 - x) (by omega) y hy r2
    have q : ¬ (w % 2 = 0 ∧ H (w - 1 - x) y = 35) := fun q => no ⟨q.1, _, by omega, y, hy, r2, q.2⟩
    unfold moreI
    omega
  · have p := g.par (w - 1 - x) (by omega) y hy
    unfold moreI
    omega
  · have p := g.sx (w - 1 - (x - 1)) (by omega) y hy (by omega)
    rw [show w - 1 - (x - 1) - 1 = w - 1 - x by omega] at p
    omega
  · have p := g.sy (w - 1 - x) (by omega) y hy z
    omega
/-- the fields told -/
def underF (w h : Nat) (H : Nat → Nat → Int) (W : Nat → Nat → PyData) : PyData := fieldG w h (fun x y => -H x y) W
def turnF (w h : Nat) (H : Nat → Nat → Int) (W : Nat → Nat → PyData) : PyData := fieldG h w (fun x y => H y x) (fun x y => W y x)
def mirF (w h : Nat) (H : Nat → Nat → Int) (W : Nat → Nat → PyData) : PyData := fieldG w h (fun x y => H (w - 1 - x) y + moreI w) (fun x y => W (w - 1 - x) y)
def highF (w h : Nat) (c : Int) (H : Nat → Nat → Int) (W : Nat → Nat → PyData) : PyData := fieldG w h (fun x y => H x y + c) W
theorem field_congr {w h : Nat} {H H' : Nat → Nat → Int} {W W' : Nat → Nat → PyData} (e : ∀ x < w, ∀ y < h, H x y = H' x y) (e2 : ∀ x < w, ∀ y < h, W x y = W' x y) : fieldG w h H W = fieldG w h H' W' := by
  unfold fieldG
  rw [grid_congr fun x hx y hy => congrArg PyData.int (e x hx y hy), grid_congr e2]
theorem mir_twice {w h : Nat} {H : Nat → Nat → Int} {W : Nat → Nat → PyData} : mirF w h (fun x y => H (w - 1 - x) y + moreI w) (fun x y => W (w - 1 - x) y) = highF w h (2 * moreI w) H W := by
  refine field_congr (fun x hx y hy => ?_) fun x hx y hy => ?_
  · show H (w - 1 - (w - 1 - x)) y + moreI w + moreI w = H x y + 2 * moreI w
    rw [show w - 1 - (w - 1 - x) = x by omega]
    omega
  · show W (w - 1 - (w - 1 - x)) y = W x y
    rw [show w - 1 - (w - 1 - x) = x by omega]
end D3
/-! Sh: spots of a board, by pairs of numbers. -/
namespace D3
open PySem
theorem sorted_ext {α : Type} {lt : α → α → Prop} (irr : ∀ a, ¬ lt a a) (asym : ∀ a b, lt a b → ¬ lt b a) : ∀ {l1 l2 : List α}, l1.Pairwise lt → l2.Pairwise lt → (∀ a, a ∈ l1 ↔ a ∈ l2) → l1 = l2
  | [], [], _, _, _ => rfl
  | [], b :: r, _, _, h => absurd ((h b).mpr (List.mem_cons_self ..)) (by simp)
  | a :: r, [], _, _, h => absurd ((h a).mp (List.mem_cons_self ..)) (by simp)
  | a :: r1, b :: r2, h1, h2, h => by
    rw [List.pairwise_cons] at h1 h2
    have e : a = b := by
      rcases List.mem_cons.mp ((h a).mp (List.mem_cons_self ..)) with z | z
      · exact z
      · rcases List.mem_cons.mp ((h b).mpr (List.mem_cons_self ..)) with z2 | z2
        · exact z2.symm
        · exact absurd (h1.1 b z2) (asym _ _ (h2.1 a z))
    subst e
    congr 1
    refine sorted_ext irr asym h1.2 h2.2 fun c => ⟨fun hc => ?_, fun hc => ?_⟩
    · rcases List.mem_cons.mp ((h c).mp (List.mem_cons_of_mem _ hc)) with z | z
      · subst z
        exact absurd (h1.1 c hc) (irr c)
      · exact z
    · rcases List.mem_cons.mp ((h c).mpr (List.mem_cons_of_mem _ hc)) with z | z
      · subst z
        exact absurd (h2.1 c hc) (irr c)
      · exact z
def ptD (p : Nat × Nat) : PyData := .tuple [.int (p.1 : Nat), .int (p.2 : Nat)]
def spotsP (w h : Nat) : List (Nat × Nat) := (List.range w).flatMap fun x => (List.range h).map fun y => (x, y)
def lexLt (p q : Nat × Nat) : Prop := p.1 < q.1 ∨ (p.1 = q.1 ∧ p.2 < q.2)
theorem lex_irr (a : Nat × Nat) : ¬ lexLt a a := by unfold lexLt; omega
theorem lex_asym (a b : Nat × Nat) (h : lexLt a b) : ¬ lexLt b a := by unfold lexLt at *; omega
theorem mem_spotsP {w h : Nat} {p : Nat × Nat} : p ∈ spotsP w h ↔ p.1 < w ∧ p.2 < h := by
  unfold spotsP
  simp only [List.mem_flatMap, List.mem_map, List.mem_range]
  constructor
  · rintro ⟨x, hx, y, hy, rfl⟩
    exact ⟨hx, hy⟩
  · rintro ⟨hx, hy⟩
    exact ⟨p.1, hx, p.2, hy, rfl⟩
theorem spotsP_sorted {w h : Nat} : (spotsP w h).Pairwise lexLt := by
  unfold spotsP
  rw [List.pairwise_flatMap]
  refine ⟨fun x _ => ?_, ?_⟩
  · rw [List.pairwise_map]
    exact List.pairwise_lt_range.imp fun h => .inr ⟨rfl, h⟩
  · refine List.pairwise_lt_range.imp fun {a b} h => ?_
    intro p hp q hq
    obtain ⟨_, _, rfl⟩ := List.mem_map.mp hp
    obtain ⟨_, _, rfl⟩ := List.mem_map.mp hq
    exact .inl h
theorem spotsP_len {w h : Nat} : (spotsP w h).length = w * h := by
  unfold spotsP
  rw [List.length_flatMap]
  simp only [List.length_map, List.length_range]
  induction w with
  | zero => simp
  | succ n ih => rw [List.range_succ, List.map_append, List.sum_append, ih, Nat.add_mul]; simp
def nearB (x y : Nat) (p : Nat × Nat) : Bool := decide (((p.1 : Int) - x).natAbs + ((p.2 : Int) - y).natAbs = 1)
/-- the spots beside a spot -/
def nbP (w h x y : Nat) : List (Nat × Nat) := (if 0 < x then [(x - 1, y)] else []) ++ ((if 0 < y then [(x, y - 1)] else []) ++ ((if y + 1 < h then [(x, y + 1)] else []) ++ (if x + 1 < w then [(x + 1, y)] else [])))
theorem mem_opt {α : Type} {c : Prop} [Decidable c] {a b : α} : b ∈ (if c then [a] else []) ↔ c ∧ b = a := by
  split
  · simp [*]
  · simp [*]
theorem mem_nbP {w h x y : Nat} {p : Nat × Nat} (hx : x < w) (hy : y < h) : p ∈ nbP w h x y ↔ p.1 < w ∧ p.2 < h ∧ ((p.1 : Int) - x).natAbs + ((p.2 : Int) - y).natAbs = 1 := by
  obtain ⟨a, b⟩ := p
  unfold nbP
  simp only [List.mem_append, mem_opt, Prod.mk.injEq]
  omega
theorem nbP_sorted {w h x y : Nat} : (nbP w h x y).Pairwise lexLt := by
  unfold nbP lexLt
  by_cases h1 : 0 < x <;> by_cases h2 : 0 < y <;> by_cases h3 : y + 1 < h <;> by_cases h4 : x + 1 < w <;> simp [h1, h2, h3, h4] <;> omega
theorem near_eq {w h x y : Nat} (hx : x < w) (hy : y < h) : (spotsP w h).filter (nearB x y) = nbP w h x y := by
  refine sorted_ext lex_irr lex_asym (spotsP_sorted.filter _) nbP_sorted fun p => ?_
  rw [List.mem_filter, mem_spotsP, mem_nbP hx hy]
  unfold nearB
  simp only [decide_eq_true_eq]
  omega
theorem nbP_four {w h x y : Nat} (hx : x < w) (hy : y < h) : (nbP w h x y).length = 4 ↔ rimB w h x y = false := by
  unfold nbP rimB
  rw [decide_eq_false_iff_not]
  by_cases h1 : 0 < x <;> by_cases h2 : 0 < y <;> by_cases h3 : y + 1 < h <;> by_cases h4 : x + 1 < w <;> simp [h1, h2, h3, h4] <;> omega
/-- spots of a board among things -/
def spotB (w h : Nat) : PyData → Bool
  | .tuple [.int x, .int y] => decide (0 ≤ x ∧ x < w ∧ 0 ≤ y ∧ y < h)
  | _ => false
theorem spotB_some {w h : Nat} {d : PyData} (e : spotB w h d = true) : ∃ x y : Nat, d = ptD (x, y) ∧ x < w ∧ y < h := by
  unfold spotB at e
  split at e
  · rename_i x y
    have e := of_decide_eq_true e
    refine ⟨x.toNat, y.toNat, ?_, by omega, by omega⟩
    unfold ptD
    congr 2
    · congr 1; omega
    · congr 2; omega
  · cases e
theorem spotB_of {w h x y : Nat} (hx : x < w) (hy : y < h) : spotB w h (ptD (x, y)) = true := by
  unfold spotB ptD
  exact decide_eq_true (by omega)
theorem grid_put {w h i j : Nat} {f : Nat → Nat → PyData} {t : PyData} : grid w h (fun a b => if a = i ∧ b = j then t else f a b) = .tuple ((List.range h).map fun y => if y = j then .tuple ((List.range w).map fun x => if x = i then t else f x j) else .tuple ((List.range w).map fun x => f x y)) := by
  unfold grid
  refine congrArg PyData.tuple (List.map_congr_left fun y _ => ?_)
  split
  · rename_i e
    subst e
    refine congrArg PyData.tuple (List.map_congr_left fun x _ => ?_)
    simp
  · rename_i e
    refine congrArg PyData.tuple (List.map_congr_left fun x _ => ?_)
    simp [e]
end D3
/-! D3zj: small data: whose repr is short. -/
namespace D3
open PySem PySem.Spec PyProof.Rows L2
theorem gdAll_iff : ∀ {xs : List PyData}, gdAll xs ↔ ∀ d ∈ xs, gd d
  | [] => by simp [gdAll]
  | x :: r => by simp [gdAll, gdAll_iff (xs := r)]
theorem szA_le {c : Nat} : ∀ {xs : List PyData}, (∀ d ∈ xs, szG d ≤ c) → szGAll xs ≤ xs.length * (c + 2)
  | [], _ => by simp [szGAll]
  | x :: r, h => by
    have a := h x (List.mem_cons_self ..)
    have b := szA_le (c := c) (xs := r) fun d hd => h d (List.mem_cons_of_mem _ hd)
    rw [szGAll, List.length_cons, Nat.add_mul]
    omega
theorem dpA_le {n : Nat} : ∀ {xs : List PyData}, (∀ d ∈ xs, d.depth ≤ n) → PyData.depthAll xs ≤ n
  | [], _ => by simp [PyData.depthAll]
  | x :: r, h => by
    have a := h x (List.mem_cons_self ..)
    have b := dpA_le (n := n) (xs := r) fun d hd => h d (List.mem_cons_of_mem _ hd)
    simp only [PyData.depthAll]
    omega
/-- small: n deep at most, whose repr has at most c signs -/
structure Sm (n c : Nat) (d : PyData) : Prop where
  g : gd d
  z : szG d ≤ c
  p : d.depth ≤ n
theorem Sm.up {n c n' c' : Nat} {d : PyData} (h : Sm n c d) (hn : n ≤ n') (hc : c ≤ c') : Sm n' c' d := ⟨h.g, Nat.le_trans h.z hc, Nat.le_trans h.p hn⟩
theorem Sm.tup {n c l : Nat} {xs : List PyData} (h : ∀ d ∈ xs, Sm n c d) (hl : xs.length ≤ l) : Sm (n + 1) (4 + l * (c + 2)) (.tuple xs) := by
  have a := szA_le fun d hd => (h d hd).z
  have b := dpA_le fun d hd => (h d hd).p
  have m := Nat.mul_le_mul_right (c + 2) hl
  refine ⟨gdAll_iff.mpr fun d hd => (h d hd).g, ?_, ?_⟩
  · rw [szG]; omega
  · simp only [PyData.depth]; omega
theorem Sm.lst {n c l : Nat} {xs : List PyData} (h : ∀ d ∈ xs, Sm n c d) (hl : xs.length ≤ l) : Sm (n + 1) (4 + l * (c + 2)) (.list xs) := by
  have a := szA_le fun d hd => (h d hd).z
  have b := dpA_le fun d hd => (h d hd).p
  have m := Nat.mul_le_mul_right (c + 2) hl
  refine ⟨gdAll_iff.mpr fun d hd => (h d hd).g, ?_, ?_⟩
  · rw [szG]; omega
  · simp only [PyData.depth]; omega
theorem Sm.int {i : Int} (h : i.natAbs < 2 ^ 1000) : Sm 0 1921 (.int i) := by
  refine ⟨?_, Nat.le_refl _, Nat.le_refl _⟩
  simp only [gd]
  rcases log2_of h with z | z
  · omega
  · rw [z]; decide
theorem Sm.non : Sm 0 4 .none := ⟨by simp [gd], Nat.le_refl _, Nat.le_refl _⟩
theorem Sm.bl {b : Bool} : Sm 0 5 (.bool b) := ⟨by simp [gd], Nat.le_refl _, Nat.le_refl _⟩
theorem Sm.str {s : Str} (h : (reprText s).length ≤ 1000) : Sm 0 1000 (.str s) := ⟨by simpa only [gd] using h, Nat.le_refl _, Nat.le_refl _⟩
theorem Sm.dct : Sm 1 2 (.dict []) := ⟨by simp [gd], by simp [szG], by simp [PyData.depth, PyData.depthKv]⟩
theorem small1000 {n m : Nat} (h : n ≤ m) (h2 : m < 2 ^ 1000) : n < 2 ^ 1000 := Nat.lt_of_le_of_lt h h2
theorem reprS {n c : Nat} {d : PyData} {k : SV → Prop} (h : Sm n c d) (q : k (.d (.str d.shown))) (hc : c ≤ 16777216 := by omega) (hn : n ≤ 60 := by omega) : gReprE [.d d] k :=
  reprG_of h.g (Nat.le_trans h.z hc) (Nat.le_trans h.p hn) q
theorem Sm.grid {n c w h : Nat} {f : Nat → Nat → PyData} (s : ∀ x < w, ∀ y < h, Sm n c (f x y)) : Sm (n + 2) (4 + h * (4 + w * (c + 2) + 2)) (grid w h f) := by
  unfold D3.grid
  refine Sm.tup (fun d hd => ?_) (by simp)
  obtain ⟨y, hy, rfl⟩ := List.mem_map.mp hd
  refine Sm.tup (fun d hd => ?_) (by simp)
  obtain ⟨x, hx, rfl⟩ := List.mem_map.mp hd
  exact s x (List.mem_range.mp hx) y (List.mem_range.mp hy)
/-- a small field -/
structure SmF (w h : Nat) (H : Nat → Nat → Int) (W : Nat → Nat → PyData) : Prop where
  hs : ∀ x < w, ∀ y < h, (H x y).natAbs < 2 ^ 1000
  ws : ∀ x < w, ∀ y < h, Sm 1 3850 (W x y)
theorem SmF.sm {w h : Nat} {H : Nat → Nat → Int} {W : Nat → Nat → PyData} (s : SmF w h H W) (hw : w ≤ 11) (hh : h ≤ 11) : Sm 4 1600000 (fieldG w h H W) := by
  have a : Sm 3 800000 (D3.grid w h fun x y => .int (H x y)) := by
    refine (Sm.grid (n := 0) (c := 1921) fun x hx y hy => Sm.int (s.hs x hx y hy)).up (by decide) ?_
    have m1 := Nat.mul_le_mul_right (1921 + 2) hw
    have m2 := Nat.mul_le_mul hh (show 4 + w * (1921 + 2) + 2 ≤ 4 + 11 * (1921 + 2) + 2 by omega)
    omega
  have b : Sm 3 799000 (D3.grid w h W) := by
    refine (Sm.grid s.ws).up (by decide) ?_
    have m1 := Nat.mul_le_mul_right (3850 + 2) hw
    have m2 := Nat.mul_le_mul hh (show 4 + w * (3850 + 2) + 2 ≤ 4 + 11 * (3850 + 2) + 2 by omega)
    omega
  refine ⟨?_, ?_, ?_⟩
  · simp only [fieldG, gd, gdAll, and_true]
    exact ⟨a.g, b.g⟩
  · have := a.z
    have := b.z
    simp only [fieldG, szG, szGAll]
    omega
  · have := a.p
    have := b.p
    simp only [fieldG, PyData.depth, PyData.depthAll]
    omega
/-- a field's spots are known by it -/
theorem grid_inj {w h w' h' : Nat} {f f' : Nat → Nat → PyData} (w1 : 1 ≤ w) (w2 : w ≤ 11) (h1 : 1 ≤ h) (h2 : h ≤ 11) (w1' : 1 ≤ w') (w2' : w' ≤ 11) (h1' : 1 ≤ h') (h2' : h' ≤ 11) (e : D3.grid w h f = D3.grid w' h' f') : w = w' ∧ h = h' ∧ ∀ x < w, ∀ y < h, f x y = f' x y := by
  have a := sides_grid (f := f) w1 w2 h1 h2
  rw [e, sides_grid w1' w2' h1' h2'] at a
  cases a
  refine ⟨rfl, rfl, fun x hx y hy => ?_⟩
  have b := at_grid (f := f) hx hy
  rw [e, at_grid hx hy] at b
  exact (Option.some.inj b).symm
theorem field_inj {w h w' h' : Nat} {H H' : Nat → Nat → Int} {W W' : Nat → Nat → PyData} (g : GoodF w h H W) (g' : GoodF w' h' H' W') (e : fieldG w h H W = fieldG w' h' H' W') : w = w' ∧ h = h' ∧ (∀ x < w, ∀ y < h, H x y = H' x y) ∧ ∀ x < w, ∀ y < h, W x y = W' x y := by
  unfold fieldG at e
  injection e with e
  injection e with e1 e2
  injection e2 with e2 _
  obtain ⟨a1, a2, a3⟩ := grid_inj g.w1 g.w2 g.h1 g.h2 g'.w1 g'.w2 g'.h1 g'.h2 e1
  obtain ⟨_, _, b3⟩ := grid_inj g.w1 g.w2 g.h1 g.h2 g'.w1 g'.w2 g'.h1 g'.h2 e2
  exact ⟨a1, a2, fun x hx y hy => PyData.int.inj (a3 x hx y hy), b3⟩
end D3
/-! D3zk: x.extend(list), x a list of one's own. -/
namespace D3
open PySem PySem.Spec PyProof.Rows L2
section
variable [Tb]
section
variable {X : Cx} {W : WX} {e : Expr} {te : DTE} {x : Str} {i : Nat} {pos p p2 p3 : Pos}
def rExtF (K : PySem.W.Frag) : V → List V → Hp → VK → Prop := fun x vs H Q => ∃ l b xs zs, x = .ref l ∧ vs = [.ref b] ∧ H l = some (.lst xs) ∧ FzL K H b zs ∧ xs.length + zs.length ≤ sizeLine ∧ Q .non (upd H l (.lst (xs ++ zs)))
theorem mt_extF : MtM X "list.extend" (rExtF X.K) := by
  intro pins s σ H x vs v us Q I rx rv h
  obtain ⟨l, b, xs, zs, rfl, rfl, hH, hB, hz, q⟩ := h
  cases rx
  obtain ⟨u, rfl, ru⟩ := rv.one
  cases ru
  obtain ⟨z, its, n, r, hl, e⟩ := I.lstM hH
  obtain ⟨z2, its2, n2, r2, e2⟩ := hB.at_ I
  have hl2 := r2.length
  have hsz : its.toArray.size + its2.toArray.size ≤ sizeLine := by rw [List.size_toArray, List.size_toArray]; omega
  have hlong : ¬ (!its.toArray.isEmpty && Builtin.List.listTooLong (its.toArray.size + its2.toArray.size)) = true := by
    rw [notLongL hsz, Bool.and_false]
    exact Bool.false_ne_true
  refine call_meets F.slot_list_extend ⟨_, e, rfl⟩ F.entry_list_extend (F.args_list_extend_2 _ _)
    (AutoSeq1.list_extend_list_list_0 l its.toArray n b its2.toArray n2 hlong (by rw [List.size_toArray]; omega) (by omega)) ⟨e, e2, ?_⟩
  refine ⟨.non, _, I.lset (its' := its ++ its2) hH e (by simp) (r.append r2) ?_, rfl, q⟩
  rw [List.length_append]
  omega
def dExt (i : Nat) (te : DTE) : DTS := fun D S er => (∃ xs, S.G[i]? = some (some (.own xs))) ∧ te S (fun r S1 => match S1.G[i]?, r with
  | some (some (.own xs)), .d (.list ys) => xs.length + ys.length ≤ sizeLine ∧ D.nx { S1 with G := S1.G.set i (some (.own (xs ++ ys))) }
  | _, _ => False) er
theorem ds_ext {c : Expr} (hc : c = .Call (.Attribute (.Name x p) "extend" p2) [e] [] p3) (hN : X.N[i]? = some x) (hv : Vis X.env.scope x) (he : DE X W e te) (hs : swapsWith c none pos.line X.env = pure false)
    (hbase : attributeBase (.Name x p) "extend" X.env (eval (.Name x p) X.env) = eval (.Name x p) X.env)
    (hfew : ((backTo p3 (starEach (e :: []) X.env)).all (fun x => !x.1) && (backToKw p3 (keywordEach [] X.env)).all (fun x => x.1.isSome) && decide ((e :: []).length + ([] : List Keyword).length + (if ([] : List Keyword).isEmpty then 0 else 1) < 30)) = true)
    (hline : (p2.endLine == p3.line) = true) (h1 : starEach (e :: []) X.env = (false, eval e X.env) :: starEach [] X.env) (hplain : (backTo p3 (starEach [] X.env)).any (·.1) = false)
    (hd : (x == ("__debug__" : Str)) = false) (hcd : (x == ("__classdict__" : Str)) = false) : DS X W (.Expr c pos) (dExt i te) := by
  subst hc
  refine .of (ps_expr (pe_bm PySem.F.plainAttrs_list PySem.F.slot_list_extend PySem.F.type_list_extend mt_extF (pe_var (i := i) hN hv hd hcd) (da_cons (W := W) he da_nil h1) hbase hfew hline h1 hplain) hs) fun σ H B S D er R q hx => ?_
  obtain ⟨⟨xs, e0⟩, q⟩ := q
  obtain ⟨v, hσ, a, vs, rfl, g1, g2, g3, g4⟩ := R.slot i _ e0
  refine ⟨.ref a, hσ, .inl ⟨rfl, _, .of g1⟩, liftA.in (t := dCons te dNil) (k := fun rs S1 => ∃ r, rs = [r] ∧ (match S1.G[i]?, r with
    | some (some (.own xs)), .d (.list ys) => xs.length + ys.length ≤ sizeLine ∧ D.nx { S1 with G := S1.G.set i (some (.own (xs ++ ys))) }
    | _, _ => False)) R (one_arg q fun r S1 => ⟨fun z => ⟨r, rfl, z⟩, fun ⟨r', e', z⟩ => by cases e'; exact z⟩) hx fun us H1 rs S1 R1 m1 rrs q1 => ?_⟩
  obtain ⟨r, rfl, q1⟩ := q1
  obtain ⟨w, rfl, rr⟩ := rrs.one
  split at q1
  · rename_i xs1 ys e1
    obtain ⟨v, hσ', a', vs', rfl, g1, g2, g3, g4⟩ := R1.slot i _ e1
    rw [hσ] at hσ'
    cases hσ'
    cases (show Dz _ _ _ _ from rr) with
    | @lst b ws _ h1 z =>
      obtain ⟨R2, m2⟩ := R1.putO e1 hσ g1 g3 g4 (g2.app z)
      exact ⟨a, b, _, _, rfl, rfl, g1, h1, by rw [g2.len, z.len]; exact q1.1, _, R2, m1.tr m2, q1.2⟩
  · exact q1.elim
end
/-! in, not in of deep data in a list -/
def gInB (neg : Bool) : SV → SV → (SV → Prop) → Prop := fun x y k => match x, y with
  | .d a, .d (.list ys) => ((flatD a = true ∧ ys.all flatD = true) ∨ (SeqAt.shaped a = true ∧ SeqAt.shaped (.list ys) = true)) ∧ k (.d (.bool (if neg then !inD a ys else inD a ys)))
  | .d a, .d (.tuple ys) => flatD a = true ∧ ys.all flatD = true ∧ k (.d (.bool (if neg then !inD a ys else inD a ys)))
  | _, _ => False
theorem oInB {X : Cx} (hu : X.A.units + 65 < cLine) : OpD X (compareOp .In) (gInB false) := by
  intro pins s σ H B S x y vx vy v u k I R a rx b ry q
  unfold gInB at q
  split at q
  · obtain ⟨f | f, q⟩ := q
    · exact oIn pins s σ H B S _ _ vx vy v u k I R a rx b ry ⟨f.1, f.2, q⟩
    · exact op_inD hu pins s σ H _ _ v u _ I rx ry ⟨_, _, Dz.dp _ _ (lay_noDict _ (SeqAt.canLay_of_shaped f.1)) a, Dz.dp _ _ (lay_noDict _ (SeqAt.canLay_of_shaped f.2)) b, f.1, f.2, .d _, S, R, .rfl, Dz.bl _, rfl, q⟩
  · exact oIn pins s σ H B S _ _ vx vy v u k I R a rx b ry q
  · exact q.elim
theorem oNotInB {X : Cx} (hu : X.A.units + 65 < cLine) : OpD X (compareOp .NotIn) (gInB true) := by
  intro pins s σ H B S x y vx vy v u k I R a rx b ry q
  unfold gInB at q
  split at q
  · obtain ⟨f | f, q⟩ := q
    · exact oNotIn pins s σ H B S _ _ vx vy v u k I R a rx b ry ⟨f.1, f.2, q⟩
    · exact op_notInD hu pins s σ H _ _ v u _ I rx ry ⟨_, _, Dz.dp _ _ (lay_noDict _ (SeqAt.canLay_of_shaped f.1)) a, Dz.dp _ _ (lay_noDict _ (SeqAt.canLay_of_shaped f.2)) b, f.1, f.2, .d _, S, R, .rfl, Dz.bl _, rfl, q⟩
  · exact oNotIn pins s σ H B S _ _ vx vy v u k I R a rx b ry q
  · exact q.elim
end
/-- a comprehension whose turns may freeze lists -/
theorem comp_fmI {vs : List Nat} {g : DTG} {tt : DTT} {te : DTE} {k : List PyData → S3 → Prop} (I : S3 → Prop) (hw : ∀ S, I S → S.wipe vs = S) (f : PyData → Option PyData) : ∀ (xs acc : List PyData) (S : S3), I S →
    (∀ x ∈ xs, ∀ S, I S → ∀ (N : PyData → S3 → Prop) (M : S3 → Prop), (∀ y S3, f x = some y → I (S3.wipe vs) → N y S3) → (∀ S2, f x = none → I (S2.wipe vs) → M S2) →
      g x S fun S1 => tt S1 (fun b S2 => iteB b (te S2 (fun r S3 => match r with
        | .d y => N y S3
        | _ => False) noE) (M S2)) noE) →
    acc.length + xs.length ≤ sizeLine → (∀ S1, I S1 → k (acc ++ xs.filterMap f) S1) → dComp vs g tt te k xs acc S
  | [], acc, S, hI, _, _, hk => by
    unfold dComp
    rw [hw S hI]
    simpa using hk S hI
  | x :: xs, acc, S, hI, h, hl, hk => by
    unfold dComp
    simp only [List.length_cons] at hl
    refine h x (List.mem_cons_self ..) S hI _ _ (fun y S3 e eS => ?_) (fun S2 e eS => ?_)
    · refine ⟨by omega, ?_⟩
      refine comp_fmI I hw f xs _ _ eS (fun z hz => h z (List.mem_cons_of_mem _ hz)) (by simp; omega) fun S1 h1 => ?_
      have z := hk S1 h1
      rw [List.filterMap_cons, e] at z
      simpa using z
    · refine comp_fmI I hw f xs _ _ eS (fun z hz => h z (List.mem_cons_of_mem _ hz)) (by omega) fun S1 h1 => ?_
      have z := hk S1 h1
      rw [List.filterMap_cons, e] at z
      exact z
end D3
/-! Si: targets of a field, spots that are minded (no program in sight). -/
namespace D3
open PySem
theorem lipX {w h : Nat} {H : Nat → Nat → Int} {W : Nat → Nat → PyData} (g : GoodF w h H W) (y : Nat) (hy : y < h) : ∀ d a : Nat, a + d < w → (H (a + d) y - H a y).natAbs ≤ d
  | 0, a, _ => by simp
  | d + 1, a, hd => by
    have ih := lipX g y hy d a (by omega)
    have s := g.sx (a + d + 1) hd y hy (by omega)
    rw [show a + d + 1 - 1 = a + d by omega] at s
    rw [show a + (d + 1) = a + d + 1 by omega]
    omega
theorem lipY {w h : Nat} {H : Nat → Nat → Int} {W : Nat → Nat → PyData} (g : GoodF w h H W) (x : Nat) (hx : x < w) : ∀ d b : Nat, b + d < h → (H x (b + d) - H x b).natAbs ≤ d
  | 0, a, _ => by simp
  | d + 1, b, hd => by
    have ih := lipY g x hx d b (by omega)
    have s := g.sy x hx (b + d + 1) hd (by omega)
    rw [show b + d + 1 - 1 = b + d by omega] at s
    rw [show b + (d + 1) = b + d + 1 by omega]
    omega
theorem lip {w h a b c d : Nat} {H : Nat → Nat → Int} {W : Nat → Nat → PyData} (g : GoodF w h H W) (ha : a < w) (hb : b < h) (hc : c < w) (hd : d < h) : (H a b - H c d).natAbs ≤ ((a : Int) - c).natAbs + ((b : Int) - d).natAbs := by
  have e1 : (H a b - H c b).natAbs ≤ ((a : Int) - c).natAbs := by
    rcases Nat.le_total a c with z | z
    · have := lipX g b hb (c - a) a (by omega)
      rw [show a + (c - a) = c by omega] at this
      omega
    · have := lipX g b hb (a - c) c (by omega)
      rw [show c + (a - c) = a by omega] at this
      omega
  have e2 : (H c b - H c d).natAbs ≤ ((b : Int) - d).natAbs := by
    rcases Nat.le_total b d with z | z
    · have := lipY g c hc (d - b) b (by omega)
      rw [show b + (d - b) = d by omega] at this
      omega
    · have := lipY g c hc (b - d) d (by omega)
      rw [show d + (b - d) = b by omega] at this
      omega
  omega
def distI (a b c d : Nat) : Int := ((((a : Int) - c).natAbs : Nat) : Int) + ((((b : Int) - d).natAbs : Nat) : Int)
/-- what the rim lets a spot be brought to -/
def capL (w h : Nat) (H : Nat → Nat → Int) (x y : Nat) : List Int := ((spotsP w h).filter fun p => rimB w h p.1 p.2).map fun p => H p.1 p.2 + distI p.1 p.2 x y
def minF (b : Int) : List Int → Int
  | [] => b
  | a :: r => minF (if a < b then a else b) r
theorem minF_le {b : Int} : ∀ {L : List Int}, minF b L ≤ b ∧ (minF b L = b ∨ minF b L ∈ L) ∧ ∀ a ∈ L, minF b L ≤ a
  | [] => by simp [minF]
  | c :: r => by
    unfold minF
    by_cases h : c < b
    · rw [if_pos h]
      obtain ⟨h1, h2, h3⟩ := minF_le (b := c) (L := r)
      refine ⟨by omega, .inr ?_, fun a ha => ?_⟩
      · rcases h2 with z | z
        · rw [z]; exact List.mem_cons_self ..
        · exact List.mem_cons_of_mem _ z
      · rcases List.mem_cons.mp ha with rfl | z
        · exact h1
        · exact h3 a z
    · rw [if_neg h]
      obtain ⟨h1, h2, h3⟩ := minF_le (b := b) (L := r)
      refine ⟨h1, ?_, fun a ha => ?_⟩
      · rcases h2 with z | z
        · exact .inl z
        · exact .inr (List.mem_cons_of_mem _ z)
      · rcases List.mem_cons.mp ha with rfl | z
        · omega
        · exact h3 a z
def capI (w h : Nat) (H : Nat → Nat → Int) (x y : Nat) : Int := minF 99 (capL w h H x y)
theorem mem_capL {w h x y : Nat} {H : Nat → Nat → Int} {c : Int} : c ∈ capL w h H x y ↔ ∃ a b, a < w ∧ b < h ∧ rimB w h a b = true ∧ c = H a b + distI a b x y := by
  unfold capL
  simp only [List.mem_map, List.mem_filter, mem_spotsP]
  constructor
  · rintro ⟨⟨a, b⟩, ⟨⟨ha, hb⟩, r⟩, rfl⟩
    exact ⟨a, b, ha, hb, r, rfl⟩
  · rintro ⟨a, b, ha, hb, r, rfl⟩
    exact ⟨(a, b), ⟨⟨ha, hb⟩, r⟩, rfl⟩
theorem cap_55 {w h x y : Nat} {H : Nat → Nat → Int} {W : Nat → Nat → PyData} (g : GoodF w h H W) (hx : x < w) (hy : y < h) {c : Int} (hc : c ∈ capL w h H x y) : c ≤ 55 := by
  obtain ⟨a, b, ha, hb, r, rfl⟩ := mem_capL.mp hc
  have := g.rim a ha b hb r
  have := g.w2
  have := g.h2
  unfold distI
  omega
theorem cap_ne {w h x y : Nat} {H : Nat → Nat → Int} {W : Nat → Nat → PyData} (g : GoodF w h H W) : H 0 0 + distI 0 0 x y ∈ capL w h H x y :=
  mem_capL.mpr ⟨0, 0, g.w1, g.h1, by unfold rimB; simp, rfl⟩
theorem cap_mem {w h x y : Nat} {H : Nat → Nat → Int} {W : Nat → Nat → PyData} (g : GoodF w h H W) (hx : x < w) (hy : y < h) : capI w h H x y ∈ capL w h H x y ∧ (∀ a ∈ capL w h H x y, capI w h H x y ≤ a) ∧ capI w h H x y ≤ 55 := by
  obtain ⟨_, h2, h3⟩ := minF_le (b := 99) (L := capL w h H x y)
  have m : capI w h H x y ∈ capL w h H x y := by
    rcases h2 with z | z
    · exfalso
      have a := h3 _ (cap_ne (x := x) (y := y) g)
      have b := cap_55 g hx hy (cap_ne (x := x) (y := y) g)
      omega
    · exact z
  exact ⟨m, h3, cap_55 g hx hy m⟩
theorem cap_one {w h x y : Nat} {H : Nat → Nat → Int} {W : Nat → Nat → PyData} (g : GoodF w h H W) (hx : x < w) (hy : y < h) {m : Int} (hm : m ∈ capL w h H x y) (hl : ∀ a ∈ capL w h H x y, m ≤ a) : m = capI w h H x y := by
  obtain ⟨a, b, _⟩ := cap_mem g hx hy
  have := hl _ a
  have := b _ hm
  omega
theorem cap_ge {w h x y : Nat} {H : Nat → Nat → Int} {W : Nat → Nat → PyData} (g : GoodF w h H W) (hx : x < w) (hy : y < h) : H x y ≤ capI w h H x y := by
  obtain ⟨m, _, _⟩ := cap_mem g hx hy
  obtain ⟨a, b, ha, hb, r, e⟩ := mem_capL.mp m
  have := lip g ha hb hx hy
  rw [e]
  unfold distI
  omega
/-- targets among things -/
def targB (w h : Nat) (H : Nat → Nat → Int) : PyData → Bool
  | .tuple [.int x, .int y, .int n] => decide (0 ≤ x ∧ x < w ∧ 0 ≤ y ∧ y < h ∧ (x + y + n) % 2 = 0 ∧ H x.toNat y.toNat ≤ n ∧ n ≤ capI w h H x.toNat y.toNat)
  | _ => false
def tgD (x y : Nat) (n : Int) : PyData := .tuple [.int (x : Nat), .int (y : Nat), .int n]
/-- how far a spot lies below a target -/
def spI (H : Nat → Nat → Int) (tx ty : Nat) (n : Int) (x y : Nat) : Int := n - H x y - distI tx ty x y
def mindB (w h : Nat) (H : Nat → Nat → Int) (tx ty : Nat) (n : Int) (x y : Nat) : Bool :=
  if H tx ty = n then decide (x = tx ∧ y = ty) else if spI H tx ty n x y ≠ 0 then decide (0 < spI H tx ty n x y) else (nbP w h x y).any fun p => decide (0 < spI H tx ty n p.1 p.2)
/-- all targets of a spot, of a field -/
def rgN (a b : Int) : Nat := (Builtin.Range.rangeSize a b 2).toNat
def tgsP (w h : Nat) (H : Nat → Nat → Int) (p : Nat × Nat) : List (Nat × Nat × Int) := (List.range (rgN (H p.1 p.2) (capI w h H p.1 p.2 + 1))).map fun i => (p.1, p.2, H p.1 p.2 + (i : Nat) * 2)
def allT (w h : Nat) (H : Nat → Nat → Int) : List (Nat × Nat × Int) := (spotsP w h).flatMap (tgsP w h H)
def t3D (t : Nat × Nat × Int) : PyData := tgD t.1 t.2.1 t.2.2
end D3
/-! D3zl: min, max of a list of ints; sum of a tuple of ints. -/
namespace D3
open PySem PySem.Spec PyProof.Rows L2
section
variable [Tb]
section
variable {X : Cx}
def gMinL : List SV → (SV → Prop) → Prop := fun rs k => match rs with
  | [.d (.list xs)] => ∃ bs : List Int, intsD xs = some bs ∧ 0 < bs.length ∧ ∀ m, m ∈ bs → (∀ y, y ∈ bs → m ≤ y) → k (.d (.int m))
  | _ => False
def gMaxL : List SV → (SV → Prop) → Prop := fun rs k => match rs with
  | [.d (.list xs)] => ∃ bs : List Int, intsD xs = some bs ∧ 0 < bs.length ∧ ∀ m, m ∈ bs → (∀ y, y ∈ bs → y ≤ m) → k (.d (.int m))
  | _ => False
theorem cMinL (hc : X.calm = true) : CallD X (.builtin "min") gMinL := .of (cr_min hc) fun σ H B S rs vs k R a q => by
  unfold gMinL at q
  split at q
  · obtain ⟨v, rfl, z⟩ := a.one
    obtain ⟨bs, e, hl, q⟩ := q
    cases (show Dz _ _ _ _ from z) with
    | lst h1 h2 => exact ⟨_, bs, rfl, by rw [← intsD_v h2 e]; exact h1.sq, hl, fun m hm hy => ⟨.d (.int _), S, R, .rfl, Dz.int _, rfl, q m hm hy⟩⟩
  · exact q.elim
theorem cMaxL (hc : X.calm = true) : CallD X (.builtin "max") gMaxL := .of (cr_max hc) fun σ H B S rs vs k R a q => by
  unfold gMaxL at q
  split at q
  · obtain ⟨v, rfl, z⟩ := a.one
    obtain ⟨bs, e, hl, q⟩ := q
    cases (show Dz _ _ _ _ from z) with
    | lst h1 h2 => exact ⟨_, bs, rfl, by rw [← intsD_v h2 e]; exact h1.sq, hl, fun m hm hy => ⟨.d (.int _), S, R, .rfl, Dz.int _, rfl, q m hm hy⟩⟩
  · exact q.elim
/-- sum(t) of a tuple of ints -/
def rSumT (K : PySem.W.Frag) : List V → Hp → VK → Prop := fun vs H Q => ∃ (a : Addr) (ns : List Int), vs = [V.ref a] ∧ SqT K H a (ns.map V.int) ∧ Q (.int ns.sum) H
theorem cr_sumT (hc : X.calm = true) : CallR X (.builtin "sum") (rSumT X.K) := by
  intro pins s σ H vs us Q I r h
  obtain ⟨a, ns, rfl, hs, q⟩ := h
  obtain ⟨its, rv, ⟨o, ho, hcl, n, hd⟩, _⟩ := I.tuple hs
  rw [Vals.ref1 r]
  obtain ⟨xs, e⟩ := rv.ints.allInts.items
  have hn : numsOf (intItems xs).toList = ns := by rw [← e]; exact rv.ints.numsOf
  rw [nums_intItems] at hn
  have ht : s.heap.IsTuple a (intItems xs) := ⟨o, ho, hcl, n, by rw [← e]; exact hd⟩
  refine PySem.W.ktm_sumG (I.ok.hd hc) ht fun h' tk t' hk => ?_
  rw [preSum_eq, List.take_of_length_le (by simp), hn]
  exact ⟨.int _, H, I.kept hk, ⟨_, rfl⟩, q⟩
def gSumT : List SV → (SV → Prop) → Prop := fun rs k => match rs with
  | [.d (.tuple xs)] => ∃ bs, intsD xs = some bs ∧ k (.d (.int bs.sum))
  | _ => False
theorem cSumT (hc : X.calm = true) : CallD X (.builtin "sum") gSumT := .of (cr_sumT hc) fun σ H B S rs vs k R a q => by
  unfold gSumT at q
  split at q
  · obtain ⟨v, rfl, z⟩ := a.one
    obtain ⟨bs, e, q⟩ := q
    cases (show Dz _ _ _ _ from z) with
    | tup h1 h2 => exact ⟨_, bs, rfl, by rw [← intsD_v h2 e]; exact h1, .d (.int _), S, R, .rfl, Dz.int _, rfl, q⟩
  · exact q.elim
/-- sum of a list or a tuple -/
def gSumA : List SV → (SV → Prop) → Prop := fun rs k => match rs with
  | [.d (.list xs)] => ∃ bs, intsD xs = some bs ∧ k (.d (.int bs.sum))
  | [.d (.tuple xs)] => ∃ bs, intsD xs = some bs ∧ k (.d (.int bs.sum))
  | _ => False
theorem cSumA (hc : X.calm = true) : CallD X (.builtin "sum") gSumA := by
  intro pins s σ H B S rs vs us k I R a b q
  unfold gSumA at q
  split at q
  · exact cSum hc pins s σ H B S _ vs us k I R a b q
  · exact cSumT hc pins s σ H B S _ vs us k I R a b q
  · exact q.elim
end
end
/-- a loop over enumerate of mapped places -/
theorem loop_enumFrom {g : DTG} {tb : DTS} {D : DEnds} {e : ED} {f : Nat → PyData} (I : Nat → S3 → Prop) (n : Nat) (hs : ∀ i < n, ∀ (S : S3) (N : S3 → Prop), I i S → (∀ S1, I (i + 1) S1 → N S1) → g (.tuple [.int (i : Int), f i]) S fun S1 => tb { D with nx := N, ct := N, bk := D.nx } S1 e) (h : ∀ S1, I n S1 → D.nx S1) :
    ∀ (m i : Nat) (S : S3), i + m = n → I i S → dLoop g tb D e (enumD i ((List.range' i m).map f)) S
  | 0, i, S, hi, hI => by
    have : i = n := by omega
    subst this
    exact h S hI
  | m + 1, i, S, hi, hI => by
    rw [List.range'_succ, List.map_cons]
    unfold enumD dLoop
    exact hs i (by omega) S _ hI fun S1 h1 => loop_enumFrom I n hs h m (i + 1) S1 (by omega) h1
theorem loop_enum {g : DTG} {tb : DTS} {D : DEnds} {e : ED} {S : S3} {n : Nat} {f : Nat → PyData} (I : Nat → S3 → Prop) (h0 : I 0 S) (hs : ∀ i < n, ∀ (S : S3) (N : S3 → Prop), I i S → (∀ S1, I (i + 1) S1 → N S1) → g (.tuple [.int (i : Int), f i]) S fun S1 => tb { D with nx := N, ct := N, bk := D.nx } S1 e) (h : ∀ S1, I n S1 → D.nx S1) :
    dLoop g tb D e (enumD 0 ((List.range n).map f)) S := by
  rw [List.range_eq_range']
  exact loop_enumFrom I n hs h n 0 S (by omega) h0
end D3
/-! D3zm: small data by how long the repr is, number by number. -/
namespace D3
open PySem PySem.Spec PyProof.Rows L2
structure Sx (n c : Nat) (d : PyData) : Prop where
  g : gd d
  z : d.shown.length ≤ c
  p : d.depth ≤ n
theorem Sm.sx {n c : Nat} {d : PyData} (h : Sm n c d) : Sx n c d := ⟨h.g, Nat.le_trans (shownG_le d h.g) h.z, h.p⟩
theorem Sx.up {n c n' c' : Nat} {d : PyData} (h : Sx n c d) (hn : n ≤ n') (hc : c ≤ c') : Sx n' c' d := ⟨h.g, Nat.le_trans h.z hc, Nat.le_trans h.p hn⟩
theorem shA_le {c : Nat} : ∀ {xs : List PyData}, (∀ d ∈ xs, d.shown.length ≤ c) → ((PyData.shownAll xs).map fun t => t.length + 2).sum ≤ xs.length * (c + 2)
  | [], _ => by simp [PyData.shownAll]
  | x :: r, h => by
    have a := h x (List.mem_cons_self ..)
    have b := shA_le (c := c) (xs := r) fun d hd => h d (List.mem_cons_of_mem _ hd)
    simp only [PyData.shownAll, List.map_cons, List.sum_cons, List.length_cons, Nat.add_mul]
    omega
theorem Sx.tup {n c l : Nat} {xs : List PyData} (h : ∀ d ∈ xs, Sx n c d) (hl : xs.length ≤ l) : Sx (n + 1) (4 + l * (c + 2)) (.tuple xs) := by
  have a := shA_le fun d hd => (h d hd).z
  have b := dpA_le fun d hd => (h d hd).p
  have m := Nat.mul_le_mul_right (c + 2) hl
  refine ⟨gdAll_iff.mpr fun d hd => (h d hd).g, ?_, ?_⟩
  · simp only [PyData.shown]
    unfold tupleText
    have f := join_le (PyData.shownAll xs)
    have e1 : ((("(" : String) : Str)).length = 1 := rfl
    have e2 : (Str.ofString (if (PyData.shownAll xs).length == 1 then ",)" else ")" : String)).length ≤ 2 := by split <;> decide
    rw [Str.length_append, Str.length_append, e1]
    omega
  · simp only [PyData.depth]; omega
theorem Sx.lst {n c l : Nat} {xs : List PyData} (h : ∀ d ∈ xs, Sx n c d) (hl : xs.length ≤ l) : Sx (n + 1) (4 + l * (c + 2)) (.list xs) := by
  have a := shA_le fun d hd => (h d hd).z
  have b := dpA_le fun d hd => (h d hd).p
  have m := Nat.mul_le_mul_right (c + 2) hl
  refine ⟨gdAll_iff.mpr fun d hd => (h d hd).g, ?_, ?_⟩
  · simp only [PyData.shown]
    unfold listText
    have f := from_le (PyData.shownAll xs) 0 "["
    have e1 : ((("[" : String) : Str)).length = 1 := rfl
    have e2 : ((("]" : String) : Str)).length = 1 := rfl
    rw [Str.length_append, e2]
    omega
  · simp only [PyData.depth]; omega
theorem Sx.int {i : Int} {k : Nat} (hk : 0 < k) (h : i.natAbs < 10 ^ k) (h2 : i.natAbs < 2 ^ 1000) : Sx 0 (k + 1) (.int i) := by
  refine ⟨(Sm.int h2).g, ?_, Nat.le_refl _⟩
  simp only [PyData.shown]
  rw [PySem.ofString_length]
  exact PySem.int_text_length_le10 hk h
theorem reprX {n c : Nat} {d : PyData} {k : SV → Prop} (h : Sx n c d) (q : k (.d (.str d.shown))) (hc : c ≤ 16777216 := by omega) (hn : n ≤ 60 := by omega) : gReprE [.d d] k :=
  ⟨gd_show d h.g, by rw [sizeLine_eq]; exact Nat.le_trans h.z hc, Nat.le_trans h.p hn, q⟩
end D3
namespace GX
open PySem PySem.Spec PyProof.Rows L2 D3
def top (i : Nat) : Stmt := PySem.Challenge.pw_hollowrise_k03_asked_of_fields.main.body.getD i (.Pass ⟨0, 0, 0, 0⟩)
abbrev s_p_is_whole : Stmt := top 22
abbrev s_p_own_common : Stmt := top 23
abbrev s_p_is_fraction : Stmt := top 24
abbrev s_p_own_shape : Stmt := top 28
abbrev s_p_shape_spots : Stmt := top 29
abbrev s_p_is_on_rim : Stmt := top 30
abbrev s_p_at : Stmt := top 31
abbrev s_p_exchanged : Stmt := top 32
abbrev s_p_are_numbers : Stmt := top 33
abbrev s_p_are_steps : Stmt := top 34
abbrev s_p_are_worths : Stmt := top 35
abbrev s_p_field_faults : Stmt := top 36
abbrev s_p_need_field : Stmt := top 37
abbrev s_p_is_spot_of : Stmt := top 38
abbrev s_p_need_spot : Stmt := top 39
abbrev s_p_own_spots : Stmt := top 40
abbrev s_p_own_rim : Stmt := top 41
abbrev s_p_own_neighbours : Stmt := top 42
abbrev s_p_height_in : Stmt := top 43
abbrev s_p_worth_in : Stmt := top 44
abbrev s_p_board : Stmt := top 45
abbrev s_p_spots : Stmt := top 46
abbrev s_p_rim : Stmt := top 47
abbrev s_p_inner : Stmt := top 48
abbrev s_p_neighbours : Stmt := top 49
abbrev s_p_way : Stmt := top 50
abbrev s_p_height_at : Stmt := top 51
abbrev s_p_worth_of : Stmt := top 52
abbrev s_p_own_with : Stmt := top 53
abbrev s_p_with_worth : Stmt := top 54
abbrev s_u_law_cell : Stmt := top 56
abbrev s_u_law_low : Stmt := top 57
abbrev s_u_law_heights : Stmt := top 58
abbrev s_u_law_worths : Stmt := top 59
abbrev s_u_law_field : Stmt := top 60
abbrev s_u_law_asked : Stmt := top 61
abbrev s_u_law_spots : Stmt := top 63
abbrev s_u_law_near : Stmt := top 64
abbrev s_u_law_whole_right : Stmt := top 65
abbrev s_u_law_spot_right : Stmt := top 66
abbrev s_u_law_with_right : Stmt := top 67
abbrev s_u_law_no_spot : Stmt := top 68
abbrev s_u_law_refused_right : Stmt := top 69
abbrev s_p_law : Stmt := top 70
abbrev si_BadField : Stmt := match top 2 with
  | .ClassDef _ _ _ body _ _ _ _ _ _ _ => body.getD 0 (.Pass ⟨0, 0, 0, 0⟩)
  | _ => .Pass ⟨0, 0, 0, 0⟩
theorem sci_BadField : FnScope ["self", "place"] ["self", "place"] (defScope si_BadField) := ⟨rfl, rfl, rfl, by decide +kernel, rfl, by decide +kernel, by decide +kernel⟩
structure Adr where
  f_p_is_whole : Addr
  d_p_is_whole : FuncData
  f_p_own_common : Addr
  d_p_own_common : FuncData
  f_p_is_fraction : Addr
  d_p_is_fraction : FuncData
  f_p_own_shape : Addr
  d_p_own_shape : FuncData
  f_p_shape_spots : Addr
  d_p_shape_spots : FuncData
  f_p_is_on_rim : Addr
  d_p_is_on_rim : FuncData
  f_p_at : Addr
  d_p_at : FuncData
  f_p_exchanged : Addr
  d_p_exchanged : FuncData
  f_p_are_numbers : Addr
  d_p_are_numbers : FuncData
  f_p_are_steps : Addr
  d_p_are_steps : FuncData
  f_p_are_worths : Addr
  d_p_are_worths : FuncData
  f_p_field_faults : Addr
  d_p_field_faults : FuncData
  f_p_need_field : Addr
  d_p_need_field : FuncData
  f_p_is_spot_of : Addr
  d_p_is_spot_of : FuncData
  f_p_need_spot : Addr
  d_p_need_spot : FuncData
  f_p_own_spots : Addr
  d_p_own_spots : FuncData
  f_p_own_rim : Addr
  d_p_own_rim : FuncData
  f_p_own_neighbours : Addr
  d_p_own_neighbours : FuncData
  f_p_height_in : Addr
  d_p_height_in : FuncData
  f_p_worth_in : Addr
  d_p_worth_in : FuncData
  f_p_board : Addr
  d_p_board : FuncData
  f_p_spots : Addr
  d_p_spots : FuncData
  f_p_rim : Addr
  d_p_rim : FuncData
  f_p_inner : Addr
  d_p_inner : FuncData
  f_p_neighbours : Addr
  d_p_neighbours : FuncData
  f_p_way : Addr
  d_p_way : FuncData
  f_p_height_at : Addr
  d_p_height_at : FuncData
  f_p_worth_of : Addr
  d_p_worth_of : FuncData
  f_p_own_with : Addr
  d_p_own_with : FuncData
  f_p_with_worth : Addr
  d_p_with_worth : FuncData
  f_u_law_cell : Addr
  d_u_law_cell : FuncData
  f_u_law_low : Addr
  d_u_law_low : FuncData
  f_u_law_heights : Addr
  d_u_law_heights : FuncData
  f_u_law_worths : Addr
  d_u_law_worths : FuncData
  f_u_law_field : Addr
  d_u_law_field : FuncData
  f_u_law_asked : Addr
  d_u_law_asked : FuncData
  f_u_law_spots : Addr
  d_u_law_spots : FuncData
  f_u_law_near : Addr
  d_u_law_near : FuncData
  f_u_law_whole_right : Addr
  d_u_law_whole_right : FuncData
  f_u_law_spot_right : Addr
  d_u_law_spot_right : FuncData
  f_u_law_with_right : Addr
  d_u_law_with_right : FuncData
  f_u_law_no_spot : Addr
  d_u_law_no_spot : FuncData
  f_u_law_refused_right : Addr
  d_u_law_refused_right : FuncData
  f_p_law : Addr
  d_p_law : FuncData
  k_u_law_refused_right : Addr
  t_u_law_refused_right : Addr
  c_BadCoin : Addr
  c_BadField : Addr
  c_BadFraction : Addr
  c_BadHeights : Addr
  c_BadPairing : Addr
  c_BadPaper : Addr
  c_BadRow : Addr
  c_BadRule : Addr
  c_BadSpot : Addr
  c_BadTarget : Addr
  c_BadText : Addr
  c_BookError : Addr
  c_DeedError : Addr
  c_Gone : Addr
  c_HollowError : Addr
  c_NoHollow : Addr
  c_NoPeak : Addr
  c_Nought : Addr
  c_TooFew : Addr
  c_TooGreat : Addr
  fi_BadField : Addr
  di_BadField : FuncData
theorem sc_p_is_whole : FnScope ["thing"] ["thing"] (defScope s_p_is_whole) := ⟨rfl, rfl, rfl, by decide +kernel, rfl, by decide +kernel, by decide +kernel⟩
theorem sc_p_own_common : FnScope ["one", "other"] ["one", "other"] (defScope s_p_own_common) := ⟨rfl, rfl, rfl, by decide +kernel, rfl, by decide +kernel, by decide +kernel⟩
theorem sc_p_is_fraction : FnScope ["thing", "part"] ["thing"] (defScope s_p_is_fraction) := ⟨rfl, rfl, rfl, by decide +kernel, rfl, by decide +kernel, by decide +kernel⟩
theorem sc_p_own_shape : FnScope ["thing", "wide", "others", "row", "other"] ["thing"] (defScope s_p_own_shape) := ⟨rfl, rfl, rfl, by decide +kernel, rfl, by decide +kernel, by decide +kernel⟩
theorem sc_p_shape_spots : FnScope ["shape", "wide", "high", "x", "y"] ["shape"] (defScope s_p_shape_spots) := ⟨rfl, rfl, rfl, by decide +kernel, rfl, by decide +kernel, by decide +kernel⟩
theorem sc_p_is_on_rim : FnScope ["shape", "spot"] ["shape", "spot"] (defScope s_p_is_on_rim) := ⟨rfl, rfl, rfl, by decide +kernel, rfl, by decide +kernel, by decide +kernel⟩
theorem sc_p_at : FnScope ["rows", "spot"] ["rows", "spot"] (defScope s_p_at) := ⟨rfl, rfl, rfl, by decide +kernel, rfl, by decide +kernel, by decide +kernel⟩
theorem sc_p_exchanged : FnScope ["rows", "spot", "thing", "x", "y"] ["rows", "spot", "thing"] (defScope s_p_exchanged) := ⟨rfl, rfl, rfl, by decide +kernel, rfl, by decide +kernel, by decide +kernel⟩
theorem sc_p_are_numbers : FnScope ["rows", "shape", "spot", "height"] ["rows", "shape"] (defScope s_p_are_numbers) := ⟨rfl, rfl, rfl, by decide +kernel, rfl, by decide +kernel, by decide +kernel⟩
theorem sc_p_are_steps : FnScope ["heights", "x", "y"] ["heights"] (defScope s_p_are_steps) := ⟨rfl, rfl, rfl, by decide +kernel, rfl, by decide +kernel, by decide +kernel⟩
theorem sc_p_are_worths : FnScope ["thing", "shape", "row", "worth"] ["thing", "shape"] (defScope s_p_are_worths) := ⟨rfl, rfl, rfl, by decide +kernel, rfl, by decide +kernel, by decide +kernel⟩
theorem sc_p_field_faults : FnScope ["thing", "heights", "worths", "shape"] ["thing"] (defScope s_p_field_faults) := ⟨rfl, rfl, rfl, by decide +kernel, rfl, by decide +kernel, by decide +kernel⟩
theorem sc_p_need_field : FnScope ["thing", "place"] ["thing"] (defScope s_p_need_field) := ⟨rfl, rfl, rfl, by decide +kernel, rfl, by decide +kernel, by decide +kernel⟩
theorem sc_p_is_spot_of : FnScope ["shape", "thing", "part"] ["shape", "thing"] (defScope s_p_is_spot_of) := ⟨rfl, rfl, rfl, by decide +kernel, rfl, by decide +kernel, by decide +kernel⟩
theorem sc_p_need_spot : FnScope ["field", "spot"] ["field", "spot"] (defScope s_p_need_spot) := ⟨rfl, rfl, rfl, by decide +kernel, rfl, by decide +kernel, by decide +kernel⟩
theorem sc_p_own_spots : FnScope ["field"] ["field"] (defScope s_p_own_spots) := ⟨rfl, rfl, rfl, by decide +kernel, rfl, by decide +kernel, by decide +kernel⟩
theorem sc_p_own_rim : FnScope ["shape", "spot"] ["shape"] (defScope s_p_own_rim) := ⟨rfl, rfl, rfl, by decide +kernel, rfl, by decide +kernel, by decide +kernel⟩
theorem sc_p_own_neighbours : FnScope ["shape", "spot", "x", "y", "other"] ["shape", "spot"] (defScope s_p_own_neighbours) := ⟨rfl, rfl, rfl, by decide +kernel, rfl, by decide +kernel, by decide +kernel⟩
theorem sc_p_height_in : FnScope ["field", "spot"] ["field", "spot"] (defScope s_p_height_in) := ⟨rfl, rfl, rfl, by decide +kernel, rfl, by decide +kernel, by decide +kernel⟩
theorem sc_p_worth_in : FnScope ["field", "spot"] ["field", "spot"] (defScope s_p_worth_in) := ⟨rfl, rfl, rfl, by decide +kernel, rfl, by decide +kernel, by decide +kernel⟩
theorem sc_p_board : FnScope ["field"] ["field"] (defScope s_p_board) := ⟨rfl, rfl, rfl, by decide +kernel, rfl, by decide +kernel, by decide +kernel⟩
theorem sc_p_spots : FnScope ["field"] ["field"] (defScope s_p_spots) := ⟨rfl, rfl, rfl, by decide +kernel, rfl, by decide +kernel, by decide +kernel⟩
theorem sc_p_rim : FnScope ["field"] ["field"] (defScope s_p_rim) := ⟨rfl, rfl, rfl, by decide +kernel, rfl, by decide +kernel, by decide +kernel⟩
theorem sc_p_inner : FnScope ["field", "shape", "spot"] ["field"] (defScope s_p_inner) := ⟨rfl, rfl, rfl, by decide +kernel, rfl, by decide +kernel, by decide +kernel⟩
theorem sc_p_neighbours : FnScope ["field", "spot"] ["field", "spot"] (defScope s_p_neighbours) := ⟨rfl, rfl, rfl, by decide +kernel, rfl, by decide +kernel, by decide +kernel⟩
theorem sc_p_way : FnScope ["spot", "other"] ["spot", "other"] (defScope s_p_way) := ⟨rfl, rfl, rfl, by decide +kernel, rfl, by decide +kernel, by decide +kernel⟩
theorem sc_p_height_at : FnScope ["field", "spot"] ["field", "spot"] (defScope s_p_height_at) := ⟨rfl, rfl, rfl, by decide +kernel, rfl, by decide +kernel, by decide +kernel⟩
theorem sc_p_worth_of : FnScope ["field", "spot"] ["field", "spot"] (defScope s_p_worth_of) := ⟨rfl, rfl, rfl, by decide +kernel, rfl, by decide +kernel, by decide +kernel⟩
theorem sc_p_own_with : FnScope ["field", "spot", "worth"] ["field", "spot", "worth"] (defScope s_p_own_with) := ⟨rfl, rfl, rfl, by decide +kernel, rfl, by decide +kernel, by decide +kernel⟩
theorem sc_p_with_worth : FnScope ["field", "spot", "fraction"] ["field", "spot", "fraction"] (defScope s_p_with_worth) := ⟨rfl, rfl, rfl, by decide +kernel, rfl, by decide +kernel, by decide +kernel⟩
theorem sc_u_law_cell : FnScope ["_law_cells", "_law_spot", "_law_k", "_law_base", "_law_own", "_law_turn"] ["_law_cells", "_law_spot"] (defScope s_u_law_cell) := ⟨rfl, rfl, rfl, by decide +kernel, rfl, by decide +kernel, by decide +kernel⟩
theorem sc_u_law_low : FnScope ["_law_above", "_law_below", "_law_one", "_law_other", "_law_part"] ["_law_above", "_law_below"] (defScope s_u_law_low) := ⟨rfl, rfl, rfl, by decide +kernel, rfl, by decide +kernel, by decide +kernel⟩
theorem sc_u_law_heights : FnScope ["_law_cells", "_law_spot", "_law_wide", "_law_high", "_law_base", "_law_found", "_law_y", "_law_n", "_law_row", "_law_x", "_law_near_here", "_law_ahead", "_law_some", "_law_one"] ["_law_cells", "_law_spot", "_law_wide", "_law_high", "_law_base"] (defScope s_u_law_heights) := ⟨rfl, rfl, rfl, by decide +kernel, rfl, by decide +kernel, by decide +kernel⟩
theorem sc_u_law_worths : FnScope ["_law_cells", "_law_spot", "_law_wide", "_law_high", "_law_sort", "_law_found", "_law_y", "_law_row", "_law_x", "_law_n", "_law_above", "_law_below", "_law_far", "_law_some"] ["_law_cells", "_law_spot", "_law_wide", "_law_high", "_law_sort"] (defScope s_u_law_worths) := ⟨rfl, rfl, rfl, by decide +kernel, rfl, by decide +kernel, by decide +kernel⟩
theorem sc_u_law_field : FnScope ["_law_cells", "_law_spot", "_law_least", "_law_most", "_law_n", "_law_size", "_law_wide", "_law_high", "_law_heights_here"] ["_law_cells", "_law_spot", "_law_least", "_law_most"] (defScope s_u_law_field) := ⟨rfl, rfl, rfl, by decide +kernel, rfl, by decide +kernel, by decide +kernel⟩
theorem sc_u_law_asked : FnScope ["_law_deed", "_law_wrong", "_law_found", "error", "_law_some", "_law_words", "_law_word", "_law_is_it", "_law_kinds", "_law_own"] ["_law_deed"] (defScope s_u_law_asked) := ⟨rfl, rfl, rfl, by decide +kernel, rfl, by decide +kernel, by decide +kernel⟩
theorem sc_u_law_spots : FnScope ["_law_wide", "_law_high", "_law_found", "_law_x", "_law_y"] ["_law_wide", "_law_high"] (defScope s_u_law_spots) := ⟨rfl, rfl, rfl, by decide +kernel, rfl, by decide +kernel, by decide +kernel⟩
theorem sc_u_law_near : FnScope ["_law_some", "_law_spot", "_law_x", "_law_y", "_law_one"] ["_law_some", "_law_spot"] (defScope s_u_law_near) := ⟨rfl, rfl, rfl, by decide +kernel, rfl, by decide +kernel, by decide +kernel⟩
theorem sc_u_law_whole_right : FnScope ["_law_field_here", "_law_wide", "_law_high", "_law_some", "_law_middles", "_law_one", "_law_edge", "_law_told", "_law_due"] ["_law_field_here"] (defScope s_u_law_whole_right) := ⟨rfl, rfl, rfl, by decide +kernel, rfl, by decide +kernel, by decide +kernel⟩
theorem sc_u_law_spot_right : FnScope ["_law_field_here", "_law_spot", "_law_other", "_law_some", "_law_x", "_law_y", "_law_told", "_law_far"] ["_law_field_here", "_law_spot", "_law_other"] (defScope s_u_law_spot_right) := ⟨rfl, rfl, rfl, by decide +kernel, rfl, by decide +kernel, by decide +kernel⟩
theorem sc_u_law_with_right : FnScope ["_law_field_here", "_law_spot", "_law_worth", "_law_x", "_law_y", "_law_row", "_law_due", "_law_told"] ["_law_field_here", "_law_spot", "_law_worth"] (defScope s_u_law_with_right) := ⟨rfl, rfl, rfl, by decide +kernel, rfl, by decide +kernel, by decide +kernel⟩
theorem sc_u_law_no_spot : FnScope ["_law_field_here", "_law_n", "_law_wide", "_law_high", "_law_some"] ["_law_field_here", "_law_n"] (defScope s_u_law_no_spot) := ⟨rfl, rfl, rfl, by decide +kernel, rfl, by decide +kernel, by decide +kernel⟩
theorem sc_u_law_refused_right : FnScope ["_law_field_here", "_law_n", "_law_odd_here", "_law_spot", "_law_bad", "_law_none", "_law_place", "_law_told"] ["_law_field_here", "_law_n"] (defScope s_u_law_refused_right) := ⟨rfl, rfl, rfl, by decide +kernel, rfl, by decide +kernel, by decide +kernel⟩
theorem sc_p_law : FnScope ["_law_script", "_law_mark", "_law_turn", "_law_field_here", "_law_n", "_law_kept", "_law_some", "_law_spot", "_law_other", "_law_worth", "_law_again"] ["_law_script"] (defScope s_p_law) := ⟨rfl, rfl, rfl, by decide +kernel, rfl, by decide +kernel, by decide +kernel⟩
structure Fct (K : PySem.W.Frag) (mg : Str → Option Value) (A : Adr) : Prop where
  m_p_is_whole : mg "is_whole" = some (.ref A.f_p_is_whole)
  f_p_is_whole : Fun K "is_whole" "is_whole" s_p_is_whole A.f_p_is_whole A.d_p_is_whole
  b_p_is_whole : Binds K A.d_p_is_whole ["thing"] []
  m_p_own_common : mg "own_common" = some (.ref A.f_p_own_common)
  f_p_own_common : Fun K "own_common" "own_common" s_p_own_common A.f_p_own_common A.d_p_own_common
  b_p_own_common : Binds K A.d_p_own_common ["one", "other"] []
  m_p_is_fraction : mg "is_fraction" = some (.ref A.f_p_is_fraction)
  f_p_is_fraction : Fun K "is_fraction" "is_fraction" s_p_is_fraction A.f_p_is_fraction A.d_p_is_fraction
  b_p_is_fraction : Binds K A.d_p_is_fraction ["thing"] []
  m_p_own_shape : mg "own_shape" = some (.ref A.f_p_own_shape)
  f_p_own_shape : Fun K "own_shape" "own_shape" s_p_own_shape A.f_p_own_shape A.d_p_own_shape
  b_p_own_shape : Binds K A.d_p_own_shape ["thing"] []
  m_p_shape_spots : mg "shape_spots" = some (.ref A.f_p_shape_spots)
  f_p_shape_spots : Fun K "shape_spots" "shape_spots" s_p_shape_spots A.f_p_shape_spots A.d_p_shape_spots
  b_p_shape_spots : Binds K A.d_p_shape_spots ["shape"] []
  m_p_is_on_rim : mg "is_on_rim" = some (.ref A.f_p_is_on_rim)
  f_p_is_on_rim : Fun K "is_on_rim" "is_on_rim" s_p_is_on_rim A.f_p_is_on_rim A.d_p_is_on_rim
  b_p_is_on_rim : Binds K A.d_p_is_on_rim ["shape", "spot"] []
  m_p_at : mg "at" = some (.ref A.f_p_at)
  f_p_at : Fun K "at" "at" s_p_at A.f_p_at A.d_p_at
  b_p_at : Binds K A.d_p_at ["rows", "spot"] []
  m_p_exchanged : mg "exchanged" = some (.ref A.f_p_exchanged)
  f_p_exchanged : Fun K "exchanged" "exchanged" s_p_exchanged A.f_p_exchanged A.d_p_exchanged
  b_p_exchanged : Binds K A.d_p_exchanged ["rows", "spot", "thing"] []
  m_p_are_numbers : mg "are_numbers" = some (.ref A.f_p_are_numbers)
  f_p_are_numbers : Fun K "are_numbers" "are_numbers" s_p_are_numbers A.f_p_are_numbers A.d_p_are_numbers
  b_p_are_numbers : Binds K A.d_p_are_numbers ["rows", "shape"] []
  m_p_are_steps : mg "are_steps" = some (.ref A.f_p_are_steps)
  f_p_are_steps : Fun K "are_steps" "are_steps" s_p_are_steps A.f_p_are_steps A.d_p_are_steps
  b_p_are_steps : Binds K A.d_p_are_steps ["heights"] []
  m_p_are_worths : mg "are_worths" = some (.ref A.f_p_are_worths)
  f_p_are_worths : Fun K "are_worths" "are_worths" s_p_are_worths A.f_p_are_worths A.d_p_are_worths
  b_p_are_worths : Binds K A.d_p_are_worths ["thing", "shape"] []
  m_p_field_faults : mg "field_faults" = some (.ref A.f_p_field_faults)
  f_p_field_faults : Fun K "field_faults" "field_faults" s_p_field_faults A.f_p_field_faults A.d_p_field_faults
  b_p_field_faults : Binds K A.d_p_field_faults ["thing"] []
  m_p_need_field : mg "need_field" = some (.ref A.f_p_need_field)
  f_p_need_field : Fun K "need_field" "need_field" s_p_need_field A.f_p_need_field A.d_p_need_field
  b_p_need_field : Binds K A.d_p_need_field ["thing"] []
  m_p_is_spot_of : mg "is_spot_of" = some (.ref A.f_p_is_spot_of)
  f_p_is_spot_of : Fun K "is_spot_of" "is_spot_of" s_p_is_spot_of A.f_p_is_spot_of A.d_p_is_spot_of
  b_p_is_spot_of : Binds K A.d_p_is_spot_of ["shape", "thing"] []
  m_p_need_spot : mg "need_spot" = some (.ref A.f_p_need_spot)
  f_p_need_spot : Fun K "need_spot" "need_spot" s_p_need_spot A.f_p_need_spot A.d_p_need_spot
  b_p_need_spot : Binds K A.d_p_need_spot ["field", "spot"] []
  m_p_own_spots : mg "own_spots" = some (.ref A.f_p_own_spots)
  f_p_own_spots : Fun K "own_spots" "own_spots" s_p_own_spots A.f_p_own_spots A.d_p_own_spots
  b_p_own_spots : Binds K A.d_p_own_spots ["field"] []
  m_p_own_rim : mg "own_rim" = some (.ref A.f_p_own_rim)
  f_p_own_rim : Fun K "own_rim" "own_rim" s_p_own_rim A.f_p_own_rim A.d_p_own_rim
  b_p_own_rim : Binds K A.d_p_own_rim ["shape"] []
  m_p_own_neighbours : mg "own_neighbours" = some (.ref A.f_p_own_neighbours)
  f_p_own_neighbours : Fun K "own_neighbours" "own_neighbours" s_p_own_neighbours A.f_p_own_neighbours A.d_p_own_neighbours
  b_p_own_neighbours : Binds K A.d_p_own_neighbours ["shape", "spot"] []
  m_p_height_in : mg "height_in" = some (.ref A.f_p_height_in)
  f_p_height_in : Fun K "height_in" "height_in" s_p_height_in A.f_p_height_in A.d_p_height_in
  b_p_height_in : Binds K A.d_p_height_in ["field", "spot"] []
  m_p_worth_in : mg "worth_in" = some (.ref A.f_p_worth_in)
  f_p_worth_in : Fun K "worth_in" "worth_in" s_p_worth_in A.f_p_worth_in A.d_p_worth_in
  b_p_worth_in : Binds K A.d_p_worth_in ["field", "spot"] []
  m_p_board : mg "board" = some (.ref A.f_p_board)
  f_p_board : Fun K "board" "board" s_p_board A.f_p_board A.d_p_board
  b_p_board : Binds K A.d_p_board ["field"] []
  m_p_spots : mg "spots" = some (.ref A.f_p_spots)
  f_p_spots : Fun K "spots" "spots" s_p_spots A.f_p_spots A.d_p_spots
  b_p_spots : Binds K A.d_p_spots ["field"] []
  m_p_rim : mg "rim" = some (.ref A.f_p_rim)
  f_p_rim : Fun K "rim" "rim" s_p_rim A.f_p_rim A.d_p_rim
  b_p_rim : Binds K A.d_p_rim ["field"] []
  m_p_inner : mg "inner" = some (.ref A.f_p_inner)
  f_p_inner : Fun K "inner" "inner" s_p_inner A.f_p_inner A.d_p_inner
  b_p_inner : Binds K A.d_p_inner ["field"] []
  m_p_neighbours : mg "neighbours" = some (.ref A.f_p_neighbours)
  f_p_neighbours : Fun K "neighbours" "neighbours" s_p_neighbours A.f_p_neighbours A.d_p_neighbours
  b_p_neighbours : Binds K A.d_p_neighbours ["field", "spot"] []
  m_p_way : mg "way" = some (.ref A.f_p_way)
  f_p_way : Fun K "way" "way" s_p_way A.f_p_way A.d_p_way
  b_p_way : Binds K A.d_p_way ["spot", "other"] []
  m_p_height_at : mg "height_at" = some (.ref A.f_p_height_at)
  f_p_height_at : Fun K "height_at" "height_at" s_p_height_at A.f_p_height_at A.d_p_height_at
  b_p_height_at : Binds K A.d_p_height_at ["field", "spot"] []
  m_p_worth_of : mg "worth_of" = some (.ref A.f_p_worth_of)
  f_p_worth_of : Fun K "worth_of" "worth_of" s_p_worth_of A.f_p_worth_of A.d_p_worth_of
  b_p_worth_of : Binds K A.d_p_worth_of ["field", "spot"] []
  m_p_own_with : mg "own_with" = some (.ref A.f_p_own_with)
  f_p_own_with : Fun K "own_with" "own_with" s_p_own_with A.f_p_own_with A.d_p_own_with
  b_p_own_with : Binds K A.d_p_own_with ["field", "spot", "worth"] []
  m_p_with_worth : mg "with_worth" = some (.ref A.f_p_with_worth)
  f_p_with_worth : Fun K "with_worth" "with_worth" s_p_with_worth A.f_p_with_worth A.d_p_with_worth
  b_p_with_worth : Binds K A.d_p_with_worth ["field", "spot", "fraction"] []
  m_u_law_cell : mg "_law_cell" = some (.ref A.f_u_law_cell)
  f_u_law_cell : Fun K "_law_cell" "_law_cell" s_u_law_cell A.f_u_law_cell A.d_u_law_cell
  b_u_law_cell : Binds K A.d_u_law_cell ["_law_cells", "_law_spot"] []
  m_u_law_low : mg "_law_low" = some (.ref A.f_u_law_low)
  f_u_law_low : Fun K "_law_low" "_law_low" s_u_law_low A.f_u_law_low A.d_u_law_low
  b_u_law_low : Binds K A.d_u_law_low ["_law_above", "_law_below"] []
  m_u_law_heights : mg "_law_heights" = some (.ref A.f_u_law_heights)
  f_u_law_heights : Fun K "_law_heights" "_law_heights" s_u_law_heights A.f_u_law_heights A.d_u_law_heights
  b_u_law_heights : Binds K A.d_u_law_heights ["_law_cells", "_law_spot", "_law_wide", "_law_high", "_law_base"] []
  m_u_law_worths : mg "_law_worths" = some (.ref A.f_u_law_worths)
  f_u_law_worths : Fun K "_law_worths" "_law_worths" s_u_law_worths A.f_u_law_worths A.d_u_law_worths
  b_u_law_worths : Binds K A.d_u_law_worths ["_law_cells", "_law_spot", "_law_wide", "_law_high", "_law_sort"] []
  m_u_law_field : mg "_law_field" = some (.ref A.f_u_law_field)
  f_u_law_field : Fun K "_law_field" "_law_field" s_u_law_field A.f_u_law_field A.d_u_law_field
  b_u_law_field : Binds K A.d_u_law_field ["_law_cells", "_law_spot", "_law_least", "_law_most"] []
  m_u_law_asked : mg "_law_asked" = some (.ref A.f_u_law_asked)
  f_u_law_asked : Fun K "_law_asked" "_law_asked" s_u_law_asked A.f_u_law_asked A.d_u_law_asked
  b_u_law_asked : Binds K A.d_u_law_asked ["_law_deed"] []
  m_u_law_spots : mg "_law_spots" = some (.ref A.f_u_law_spots)
  f_u_law_spots : Fun K "_law_spots" "_law_spots" s_u_law_spots A.f_u_law_spots A.d_u_law_spots
  b_u_law_spots : Binds K A.d_u_law_spots ["_law_wide", "_law_high"] []
  m_u_law_near : mg "_law_near" = some (.ref A.f_u_law_near)
  f_u_law_near : Fun K "_law_near" "_law_near" s_u_law_near A.f_u_law_near A.d_u_law_near
  b_u_law_near : Binds K A.d_u_law_near ["_law_some", "_law_spot"] []
  m_u_law_whole_right : mg "_law_whole_right" = some (.ref A.f_u_law_whole_right)
  f_u_law_whole_right : Fun K "_law_whole_right" "_law_whole_right" s_u_law_whole_right A.f_u_law_whole_right A.d_u_law_whole_right
  b_u_law_whole_right : Binds K A.d_u_law_whole_right ["_law_field_here"] []
  m_u_law_spot_right : mg "_law_spot_right" = some (.ref A.f_u_law_spot_right)
  f_u_law_spot_right : Fun K "_law_spot_right" "_law_spot_right" s_u_law_spot_right A.f_u_law_spot_right A.d_u_law_spot_right
  b_u_law_spot_right : Binds K A.d_u_law_spot_right ["_law_field_here", "_law_spot", "_law_other"] []
  m_u_law_with_right : mg "_law_with_right" = some (.ref A.f_u_law_with_right)
  f_u_law_with_right : Fun K "_law_with_right" "_law_with_right" s_u_law_with_right A.f_u_law_with_right A.d_u_law_with_right
  b_u_law_with_right : Binds K A.d_u_law_with_right ["_law_field_here", "_law_spot", "_law_worth"] []
  m_u_law_no_spot : mg "_law_no_spot" = some (.ref A.f_u_law_no_spot)
  f_u_law_no_spot : Fun K "_law_no_spot" "_law_no_spot" s_u_law_no_spot A.f_u_law_no_spot A.d_u_law_no_spot
  b_u_law_no_spot : Binds K A.d_u_law_no_spot ["_law_field_here", "_law_n"] []
  m_u_law_refused_right : mg "_law_refused_right" = some (.ref A.f_u_law_refused_right)
  f_u_law_refused_right : Fun K "_law_refused_right" "_law_refused_right" s_u_law_refused_right A.f_u_law_refused_right A.d_u_law_refused_right
  b_u_law_refused_right : Binds K A.d_u_law_refused_right ["_law_field_here", "_law_n"] []
  m_p_law : mg "law" = some (.ref A.f_p_law)
  f_p_law : Fun K "law" "law" s_p_law A.f_p_law A.d_p_law
  b_p_law : Binds K A.d_p_law ["_law_script"] []
  q_u_law_refused_right : codeOf K A.f_u_law_refused_right = some (.ref A.k_u_law_refused_right)
  z_LookupError : mg "LookupError" = none
  z_RuntimeError : mg "RuntimeError" = none
  z_ValueError : mg "ValueError" = none
  z_abs : mg "abs" = none
  z_all : mg "all" = none
  z_bool : mg "bool" = none
  z_int : mg "int" = none
  z_isinstance : mg "isinstance" = none
  z_len : mg "len" = none
  z_list : mg "list" = none
  z_min : mg "min" = none
  z_range : mg "range" = none
  z_repr : mg "repr" = none
  z_tuple : mg "tuple" = none
  kv_MOST_RIM : ∃ t, mg "MOST_RIM" = some (.int 35 t)
  kv_MOST_SIDE : ∃ t, mg "MOST_SIDE" = some (.int 11 t)
  mc_BadCoin : mg "BadCoin" = some (.ref A.c_BadCoin)
  mc_BadField : mg "BadField" = some (.ref A.c_BadField)
  mc_BadFraction : mg "BadFraction" = some (.ref A.c_BadFraction)
  mc_BadHeights : mg "BadHeights" = some (.ref A.c_BadHeights)
  mc_BadPairing : mg "BadPairing" = some (.ref A.c_BadPairing)
  mc_BadPaper : mg "BadPaper" = some (.ref A.c_BadPaper)
  mc_BadRow : mg "BadRow" = some (.ref A.c_BadRow)
  mc_BadRule : mg "BadRule" = some (.ref A.c_BadRule)
  mc_BadSpot : mg "BadSpot" = some (.ref A.c_BadSpot)
  mc_BadTarget : mg "BadTarget" = some (.ref A.c_BadTarget)
  mc_BadText : mg "BadText" = some (.ref A.c_BadText)
  mc_BookError : mg "BookError" = some (.ref A.c_BookError)
  mc_DeedError : mg "DeedError" = some (.ref A.c_DeedError)
  mc_Gone : mg "Gone" = some (.ref A.c_Gone)
  mc_HollowError : mg "HollowError" = some (.ref A.c_HollowError)
  mc_NoHollow : mg "NoHollow" = some (.ref A.c_NoHollow)
  mc_NoPeak : mg "NoPeak" = some (.ref A.c_NoPeak)
  mc_Nought : mg "Nought" = some (.ref A.c_Nought)
  mc_TooFew : mg "TooFew" = some (.ref A.c_TooFew)
  mc_TooGreat : mg "TooGreat" = some (.ref A.c_TooGreat)
  kc_BadField : PySem.W.keepIn K (.ref A.c_BadField) = true
  sb_BadField : PySem.W.subIn K (.ref A.c_BadField) (.type "BaseException") = some true
  ty_BadField : PySem.W.typeIn K (.ref A.c_BadField) = some (.type "type")
  ec_BadField : ExcC K A.c_BadField
  i_BadField_BadField : PySem.W.kitOne K (.ref A.c_BadField) (.ref A.c_BadField) = some true
  i_BadField_BadFraction : PySem.W.kitOne K (.ref A.c_BadField) (.ref A.c_BadFraction) = some false
  i_BadField_BadHeights : PySem.W.kitOne K (.ref A.c_BadField) (.ref A.c_BadHeights) = some false
  i_BadField_BadRow : PySem.W.kitOne K (.ref A.c_BadField) (.ref A.c_BadRow) = some false
  i_BadField_BadRule : PySem.W.kitOne K (.ref A.c_BadField) (.ref A.c_BadRule) = some false
  i_BadField_BadSpot : PySem.W.kitOne K (.ref A.c_BadField) (.ref A.c_BadSpot) = some false
  i_BadField_BadTarget : PySem.W.kitOne K (.ref A.c_BadField) (.ref A.c_BadTarget) = some false
  i_BadField_BookError : PySem.W.kitOne K (.ref A.c_BadField) (.ref A.c_BookError) = some false
  i_BadField_DeedError : PySem.W.kitOne K (.ref A.c_BadField) (.ref A.c_DeedError) = some false
  i_BadField_Gone : PySem.W.kitOne K (.ref A.c_BadField) (.ref A.c_Gone) = some false
  i_BadField_HollowError : PySem.W.kitOne K (.ref A.c_BadField) (.ref A.c_HollowError) = some true
  i_BadField_LookupError : PySem.W.kitOne K (.ref A.c_BadField) (.type "LookupError") = some false
  i_BadField_NoHollow : PySem.W.kitOne K (.ref A.c_BadField) (.ref A.c_NoHollow) = some false
  i_BadField_NoPeak : PySem.W.kitOne K (.ref A.c_BadField) (.ref A.c_NoPeak) = some false
  i_BadField_Nought : PySem.W.kitOne K (.ref A.c_BadField) (.ref A.c_Nought) = some false
  i_BadField_RuntimeError : PySem.W.kitOne K (.ref A.c_BadField) (.type "RuntimeError") = some false
  i_BadField_TooGreat : PySem.W.kitOne K (.ref A.c_BadField) (.ref A.c_TooGreat) = some false
  i_BadField_ValueError : PySem.W.kitOne K (.ref A.c_BadField) (.type "ValueError") = some true
  e_BadField_HollowError_DeedError_BookError : PySem.W.exmAny K (.ref A.c_BadField) [.ref A.c_HollowError, .ref A.c_DeedError, .ref A.c_BookError] = some true
  ia_BadField_BadPairing_BadPaper_BadCoin_TooFew_BadText : PySem.W.kitAny K (.ref A.c_BadField) [.ref A.c_BadPairing, .ref A.c_BadPaper, .ref A.c_BadCoin, .ref A.c_TooFew, .ref A.c_BadText] = some false
  x_BadFraction : PySem.W.excIn K A.c_BadFraction [.type "ValueError", .type "Exception", .type "BaseException", .type "object"] "ValueError.__new__" = true
  kc_BadFraction : PySem.W.keepIn K (.ref A.c_BadFraction) = true
  sb_BadFraction : PySem.W.subIn K (.ref A.c_BadFraction) (.type "BaseException") = some true
  ty_BadFraction : PySem.W.typeIn K (.ref A.c_BadFraction) = some (.type "type")
  ec_BadFraction : ExcC K A.c_BadFraction
  i_BadFraction_BadField : PySem.W.kitOne K (.ref A.c_BadFraction) (.ref A.c_BadField) = some false
  i_BadFraction_BadFraction : PySem.W.kitOne K (.ref A.c_BadFraction) (.ref A.c_BadFraction) = some true
  i_BadFraction_BadHeights : PySem.W.kitOne K (.ref A.c_BadFraction) (.ref A.c_BadHeights) = some false
  i_BadFraction_BadRow : PySem.W.kitOne K (.ref A.c_BadFraction) (.ref A.c_BadRow) = some false
  i_BadFraction_BadRule : PySem.W.kitOne K (.ref A.c_BadFraction) (.ref A.c_BadRule) = some false
  i_BadFraction_BadSpot : PySem.W.kitOne K (.ref A.c_BadFraction) (.ref A.c_BadSpot) = some false
  i_BadFraction_BadTarget : PySem.W.kitOne K (.ref A.c_BadFraction) (.ref A.c_BadTarget) = some false
  i_BadFraction_BookError : PySem.W.kitOne K (.ref A.c_BadFraction) (.ref A.c_BookError) = some false
  i_BadFraction_DeedError : PySem.W.kitOne K (.ref A.c_BadFraction) (.ref A.c_DeedError) = some false
  i_BadFraction_Gone : PySem.W.kitOne K (.ref A.c_BadFraction) (.ref A.c_Gone) = some false
  i_BadFraction_HollowError : PySem.W.kitOne K (.ref A.c_BadFraction) (.ref A.c_HollowError) = some true
  i_BadFraction_LookupError : PySem.W.kitOne K (.ref A.c_BadFraction) (.type "LookupError") = some false
  i_BadFraction_NoHollow : PySem.W.kitOne K (.ref A.c_BadFraction) (.ref A.c_NoHollow) = some false
  i_BadFraction_NoPeak : PySem.W.kitOne K (.ref A.c_BadFraction) (.ref A.c_NoPeak) = some false
  i_BadFraction_Nought : PySem.W.kitOne K (.ref A.c_BadFraction) (.ref A.c_Nought) = some false
  i_BadFraction_RuntimeError : PySem.W.kitOne K (.ref A.c_BadFraction) (.type "RuntimeError") = some false
  i_BadFraction_TooGreat : PySem.W.kitOne K (.ref A.c_BadFraction) (.ref A.c_TooGreat) = some false
  i_BadFraction_ValueError : PySem.W.kitOne K (.ref A.c_BadFraction) (.type "ValueError") = some true
  e_BadFraction_HollowError_DeedError_BookError : PySem.W.exmAny K (.ref A.c_BadFraction) [.ref A.c_HollowError, .ref A.c_DeedError, .ref A.c_BookError] = some true
  ia_BadFraction_BadPairing_BadPaper_BadCoin_TooFew_BadText : PySem.W.kitAny K (.ref A.c_BadFraction) [.ref A.c_BadPairing, .ref A.c_BadPaper, .ref A.c_BadCoin, .ref A.c_TooFew, .ref A.c_BadText] = some false
  x_BadSpot : PySem.W.excIn K A.c_BadSpot [.type "ValueError", .type "Exception", .type "BaseException", .type "object"] "ValueError.__new__" = true
  kc_BadSpot : PySem.W.keepIn K (.ref A.c_BadSpot) = true
  sb_BadSpot : PySem.W.subIn K (.ref A.c_BadSpot) (.type "BaseException") = some true
  ty_BadSpot : PySem.W.typeIn K (.ref A.c_BadSpot) = some (.type "type")
  ec_BadSpot : ExcC K A.c_BadSpot
  i_BadSpot_BadField : PySem.W.kitOne K (.ref A.c_BadSpot) (.ref A.c_BadField) = some false
  i_BadSpot_BadFraction : PySem.W.kitOne K (.ref A.c_BadSpot) (.ref A.c_BadFraction) = some false
  i_BadSpot_BadHeights : PySem.W.kitOne K (.ref A.c_BadSpot) (.ref A.c_BadHeights) = some false
  i_BadSpot_BadRow : PySem.W.kitOne K (.ref A.c_BadSpot) (.ref A.c_BadRow) = some false
  i_BadSpot_BadRule : PySem.W.kitOne K (.ref A.c_BadSpot) (.ref A.c_BadRule) = some false
  i_BadSpot_BadSpot : PySem.W.kitOne K (.ref A.c_BadSpot) (.ref A.c_BadSpot) = some true
  i_BadSpot_BadTarget : PySem.W.kitOne K (.ref A.c_BadSpot) (.ref A.c_BadTarget) = some false
  i_BadSpot_BookError : PySem.W.kitOne K (.ref A.c_BadSpot) (.ref A.c_BookError) = some false
  i_BadSpot_DeedError : PySem.W.kitOne K (.ref A.c_BadSpot) (.ref A.c_DeedError) = some false
  i_BadSpot_Gone : PySem.W.kitOne K (.ref A.c_BadSpot) (.ref A.c_Gone) = some false
  i_BadSpot_HollowError : PySem.W.kitOne K (.ref A.c_BadSpot) (.ref A.c_HollowError) = some true
  i_BadSpot_LookupError : PySem.W.kitOne K (.ref A.c_BadSpot) (.type "LookupError") = some false
  i_BadSpot_NoHollow : PySem.W.kitOne K (.ref A.c_BadSpot) (.ref A.c_NoHollow) = some false
  i_BadSpot_NoPeak : PySem.W.kitOne K (.ref A.c_BadSpot) (.ref A.c_NoPeak) = some false
  i_BadSpot_Nought : PySem.W.kitOne K (.ref A.c_BadSpot) (.ref A.c_Nought) = some false
  i_BadSpot_RuntimeError : PySem.W.kitOne K (.ref A.c_BadSpot) (.type "RuntimeError") = some false
  i_BadSpot_TooGreat : PySem.W.kitOne K (.ref A.c_BadSpot) (.ref A.c_TooGreat) = some false
  i_BadSpot_ValueError : PySem.W.kitOne K (.ref A.c_BadSpot) (.type "ValueError") = some true
  e_BadSpot_HollowError_DeedError_BookError : PySem.W.exmAny K (.ref A.c_BadSpot) [.ref A.c_HollowError, .ref A.c_DeedError, .ref A.c_BookError] = some true
  ia_BadSpot_BadPairing_BadPaper_BadCoin_TooFew_BadText : PySem.W.kitAny K (.ref A.c_BadSpot) [.ref A.c_BadPairing, .ref A.c_BadPaper, .ref A.c_BadCoin, .ref A.c_TooFew, .ref A.c_BadText] = some false
  if_BadField : FunD K "__init__" "BadField.__init__" (defArgs si_BadField) (defBody si_BadField) (defScope si_BadField) [.non] [] A.fi_BadField A.di_BadField
  ic_BadField : PySem.W.findIn K (.ref A.c_BadField) "__init__" = some (some (.ref A.fi_BadField))
  ti_BadField : PySem.W.typeIn K (.ref A.fi_BadField) = some (.type "function")
  bi_BadField : Binds K A.di_BadField ["self", "place"] []
  ox_BadField : OexC K A.c_BadField
  nf_BadField : PySem.W.findIn K (.ref A.c_BadField) "place" = some none
  xf_BadField : XfC K A.c_BadField
  ow_HollowError : OwnIni K A.c_HollowError
  in_BadField : PySem.W.kitOne K (.type "NoneType") (.ref A.c_BadField) = some false
  in_BadFraction : PySem.W.kitOne K (.type "NoneType") (.ref A.c_BadFraction) = some false
  in_BadHeights : PySem.W.kitOne K (.type "NoneType") (.ref A.c_BadHeights) = some false
  in_BadRow : PySem.W.kitOne K (.type "NoneType") (.ref A.c_BadRow) = some false
  in_BadRule : PySem.W.kitOne K (.type "NoneType") (.ref A.c_BadRule) = some false
  in_BadSpot : PySem.W.kitOne K (.type "NoneType") (.ref A.c_BadSpot) = some false
  in_BadTarget : PySem.W.kitOne K (.type "NoneType") (.ref A.c_BadTarget) = some false
  in_BookError : PySem.W.kitOne K (.type "NoneType") (.ref A.c_BookError) = some false
  in_DeedError : PySem.W.kitOne K (.type "NoneType") (.ref A.c_DeedError) = some false
  in_Gone : PySem.W.kitOne K (.type "NoneType") (.ref A.c_Gone) = some false
  in_HollowError : PySem.W.kitOne K (.type "NoneType") (.ref A.c_HollowError) = some false
  in_NoHollow : PySem.W.kitOne K (.type "NoneType") (.ref A.c_NoHollow) = some false
  in_NoPeak : PySem.W.kitOne K (.type "NoneType") (.ref A.c_NoPeak) = some false
  in_Nought : PySem.W.kitOne K (.type "NoneType") (.ref A.c_Nought) = some false
  in_TooGreat : PySem.W.kitOne K (.type "NoneType") (.ref A.c_TooGreat) = some false
theorem hu65 {A : Around} {k : Nat} (hr : Room k A) : A.units + 65 < cLine := by have := hr.un; omega
theorem hu64 {A : Around} {k : Nat} (hr : Room k A) : A.units + 64 < cLine := by have := hr.un; omega
def visB (sc : Scope) (x : Str) : Bool := match sc.names.lookup x with
  | some .local => true
  | some .cell => true
  | some .free => true
  | _ => false
def blkB (N : List Str) (sc scope : Scope) (own : List (Str × Nat)) : Bool :=
  decide (scope.kind = .function) && scope.names.all (fun y => decide (scope.names.lookup y.1 = some y.2)) && own.all (fun p => decide (N[p.2]? = some p.1)) &&
    scope.names.all (fun y => !decide (y.2 = .free) || (decide (sc.names.lookup y.1 = some .cell) || decide (sc.names.lookup y.1 = some .free))) &&
    scope.names.all (fun y => !(decide (y.2 = .local) || decide (y.2 = .cell)) || ((own.map (·.1)).any (· == y.1) || !N.any (· == y.1)))
theorem blk_by {N : List Str} {sc scope : Scope} {own : List (Str × Nat)} (h : blkB N sc scope own = true) : BlkOk N sc scope own := by
  unfold blkB at h
  simp only [Bool.and_eq_true, List.all_eq_true, decide_eq_true_eq, Bool.or_eq_true, Bool.not_eq_true', decide_eq_false_iff_not] at h
  obtain ⟨⟨⟨⟨h1, h2⟩, h3⟩, h4⟩, h5⟩ := h
  refine ⟨h1, h2, h3, fun y hy e => (h4 y hy).elim (fun z => absurd e z) id, fun y hy e => ?_⟩
  rcases h5 y hy with z | z | z
  · rw [Bool.or_eq_false_iff] at z
    rcases e with e | e
    · exact absurd e (of_decide_eq_false z.1)
    · exact absurd e (of_decide_eq_false z.2)
  · left
    obtain ⟨q, hq, e⟩ := List.any_eq_true.mp z
    exact beq_iff_eq.mp e ▸ hq
  · right
    intro hm
    have z2 : N.any (· == y.1) = true := List.any_eq_true.mpr ⟨y.1, hm, by simp⟩
    rw [z2] at z
    cases z
theorem takes_lam {X : Cx} {A : Around} {outer : List Env} {s : Shared} {H : Hp} {E : XK} {scope : Scope} {f co : Addr} : Takes (LamX.lamCx X A outer s H E scope f co) (fun cls d _ H' => E cls d H') := takes_of rfl rfl rfl rfl
theorem vis_by {sc : Scope} {x : Str} (h : visB sc x = true) : Vis sc x := by
  unfold visB at h
  unfold Vis
  split at h
  · rename_i e; exact .inl e
  · rename_i e; exact .inr (.inl e)
  · rename_i e; exact .inr (.inr e)
  · cases h
def locB (sc : Scope) (x : Str) : Bool := match sc.names.lookup x with
  | some .local => true
  | some .cell => true
  | _ => false
theorem loc_by {sc : Scope} {x : Str} (h : locB sc x = true) : L2.Loc sc x := by
  unfold locB at h
  unfold L2.Loc
  split at h
  · rename_i e; exact .inl e
  · rename_i e; exact .inr e
  · cases h
theorem bt_LookupError : bootBuiltins "LookupError" = some (.type "LookupError") := by decide +kernel
theorem bt_RuntimeError : bootBuiltins "RuntimeError" = some (.type "RuntimeError") := by decide +kernel
theorem bt_ValueError : bootBuiltins "ValueError" = some (.type "ValueError") := by decide +kernel
theorem bt_abs : bootBuiltins "abs" = some (.builtin "abs") := by decide +kernel
theorem bt_all : bootBuiltins "all" = some (.builtin "all") := by decide +kernel
theorem bt_bool : bootBuiltins "bool" = some (.type "bool") := by decide +kernel
theorem bt_int : bootBuiltins "int" = some (.type "int") := by decide +kernel
theorem bt_isinstance : bootBuiltins "isinstance" = some (.builtin "isinstance") := by decide +kernel
theorem bt_len : bootBuiltins "len" = some (.builtin "len") := by decide +kernel
theorem bt_list : bootBuiltins "list" = some (.type "list") := by decide +kernel
theorem bt_min : bootBuiltins "min" = some (.builtin "min") := by decide +kernel
theorem bt_range : bootBuiltins "range" = some (.type "range") := by decide +kernel
theorem bt_repr : bootBuiltins "repr" = some (.builtin "repr") := by decide +kernel
theorem bt_tuple : bootBuiltins "tuple" = some (.type "tuple") := by decide +kernel
theorem ini_BadField [Tb] {P : Program} {w : World} {K : PySem.W.Frag} {mg : Str → Option Value} {base : Heap} {A : Adr} (F : Fct K mg A) : FnOk P w K mg base CX0 2 A.fi_BadField A.di_BadField ["self", "place"] (spIni A.c_BadField "place") :=
  ini_ok F.if_BadField sci_BadField rfl rfl (vis_by rfl) (vis_by rfl) F.mc_HollowError F.ow_HollowError F.ox_BadField F.nf_BadField rfl rfl rfl (fun _ => rfl) (fun _ => rfl) (fun _ => ⟨_, rfl⟩)
/-- is_whole -/
def sem_p_is_whole (K : PySem.W.Frag) (A : Adr)   : DTS :=
  (dRet (dAndV (dB (gIsiF K) (dCons (dVar 0) (dCons (dC (.raw (.ty "int"))) dNil))) (dNotV (dB (gIsiF K) (dCons (dVar 0) (dCons (dC (.raw (.ty "bool"))) dNil))))))
/-- own_common -/
def sem_p_own_common (K : PySem.W.Frag) (A : Adr)   : DTS :=
  (dSeq (dWhile (dTst (dBin gNeE (dVar 1) (dC (.d (.int 0))))) (dPar 0 1 (dVar 1) (dBin gMod (dVar 0) (dVar 1)))) (dRet (dVar 0)))
/-- is_fraction -/
def sem_p_is_fraction (K : PySem.W.Frag) (A : Adr) (P_p_is_whole : DP) (P_p_own_common : DP)  : DTS :=
  (dSeq (dIf (dOr (dNot (dTruth (dB (gIsiF K) (dCons (dVar 0) (dCons (dC (.raw (.ty "tuple"))) dNil))))) (dOr (dTst (dBin gNeE (dB gLen (dCons (dVar 0) dNil)) (dC (.d (.int 2))))) (dNot (dTruth (dB gAll (dCons (dFz (dLcI [1] (dItems (dVar 0)) (gSet 1) dYes (dCall P_p_is_whole (dCons (dVar 1) dNil)))) dNil)))))) (dRet (dC (.d (.bool false)))) dNext) (dRet (dAndV (dBin gGt (dIxV 0 (dC (.d (.int 1)))) (dC (.d (.int 0)))) (dBin gEqE (dCall P_p_own_common (dCons (dB gAbs (dCons (dIxV 0 (dC (.d (.int 0)))) dNil)) (dCons (dIxV 0 (dC (.d (.int 1)))) dNil))) (dC (.d (.int 1)))))))
/-- own_shape -/
def sem_p_own_shape (K : PySem.W.Frag) (A : Adr)   : DTS :=
  (dSeq (dIf (dOr (dNot (dTruth (dB (gIsiF K) (dCons (dVar 0) (dCons (dC (.raw (.ty "tuple"))) dNil))))) (dNot (dTst (dChain gLe gLe (dC (.d (.int 1))) (dB gLen (dCons (dVar 0) dNil)) (dC (.d (.int 11))))))) (dRet (dC (.d .none))) dNext) (dSeq (dIf (dOr (dNot (dTruth (dB (gIsiF K) (dCons (dIxV 0 (dC (.d (.int 0)))) (dCons (dC (.raw (.ty "tuple"))) dNil))))) (dNot (dTst (dChain gLe gLe (dC (.d (.int 1))) (dB gLen (dCons (dIxV 0 (dC (.d (.int 0)))) dNil)) (dC (.d (.int 11))))))) (dRet (dC (.d .none))) dNext) (dSeq (dStar 1 2 (dFz (dLcI [3] (dItems (dVar 0)) (gSet 3) dYes (dIfE (dTruth (dB (gIsiF K) (dCons (dVar 3) (dCons (dC (.raw (.ty "tuple"))) dNil)))) (dB gLen (dCons (dVar 3) dNil)) (dC (.d (.int 0))))))) (dRet (dIfE (dTruth (dB gAll (dCons (dFz (dLcI [4] (dItems (dVar 2)) (gSet 4) dYes (dBin gEqE (dVar 4) (dVar 1)))) dNil))) (dTup (dCons (dVar 1) (dCons (dB gLen (dCons (dVar 0) dNil)) dNil))) (dC (.d .none)))))))
/-- shape_spots -/
def sem_p_shape_spots (K : PySem.W.Frag) (A : Adr)   : DTS :=
  (dSeq (dAsg (dVar 0) (gTup3 (gsCons (gSet 1) (gsCons (gSet 2) gsNil)) 2)) (dRet (dFz (dLc2 [3, 4] [4] (dRg1 (dVar 1)) (gSet 3) dYes (dRg1 (dVar 2)) (gSet 4) dYes (dTup (dCons (dVar 3) (dCons (dVar 4) dNil)))))))
/-- is_on_rim -/
def sem_p_is_on_rim (K : PySem.W.Frag) (A : Adr)   : DTS :=
  (dRet (dOrV (dBin (gIn false) (dIxV 1 (dC (.d (.int 0)))) (dTup (dCons (dC (.d (.int 0))) (dCons (dBin gSubI (dIxV 0 (dC (.d (.int 0)))) (dC (.d (.int 1)))) dNil)))) (dBin (gIn false) (dIxV 1 (dC (.d (.int 1)))) (dTup (dCons (dC (.d (.int 0))) (dCons (dBin gSubI (dIxV 0 (dC (.d (.int 1)))) (dC (.d (.int 1)))) dNil))))))
/-- at -/
def sem_p_at (K : PySem.W.Frag) (A : Adr)   : DTS :=
  (dRet (dBin gIx (dIxV 0 (dIxV 1 (dC (.d (.int 1))))) (dIxV 1 (dC (.d (.int 0))))))
/-- exchanged -/
def sem_p_exchanged (K : PySem.W.Frag) (A : Adr)   : DTS :=
  (dSeq (dAsg (dVar 1) (gTup3 (gsCons (gSet 3) (gsCons (gSet 4) gsNil)) 2)) (dRet (dBin gAddB (dBin gAddB (dSlV 0 dNoPart (dPart (dVar 4)) dNoPart) (dTup (dCons (dBin gAddB (dBin gAddB (dSlG (dIxV 0 (dVar 4)) dNoPart (dPart (dVar 3)) dNoPart) (dTup (dCons (dVar 2) dNil))) (dSlG (dIxV 0 (dVar 4)) (dPart (dBin gAddB (dVar 3) (dC (.d (.int 1))))) dNoPart dNoPart)) dNil))) (dSlV 0 (dPart (dBin gAddB (dVar 4) (dC (.d (.int 1))))) dNoPart dNoPart))))
/-- are_numbers -/
def sem_p_are_numbers (K : PySem.W.Frag) (A : Adr) (P_p_at : DP) (P_p_is_on_rim : DP) (P_p_is_whole : DP) (P_p_shape_spots : DP)  : DTS :=
  (dSeq (dForI (dItems (dCall P_p_shape_spots (dCons (dVar 1) dNil))) (gSet 2) (dSeq (dSet 3 (dCall P_p_at (dCons (dVar 0) (dCons (dVar 2) dNil)))) (dIf (dOr (dNot (dTruth (dCall P_p_is_whole (dCons (dVar 3) dNil)))) (dAnd (dTruth (dCall P_p_is_on_rim (dCons (dVar 1) (dCons (dVar 2) dNil)))) (dTst (dBin gGt (dB gAbs (dCons (dVar 3) dNil)) (dC (.d (.int 35))))))) (dRet (dC (.d (.bool false)))) dNext))) (dRet (dC (.d (.bool true)))))
/-- are_steps -/
def sem_p_are_steps (K : PySem.W.Frag) (A : Adr) (P_p_shape_spots : DP) (P_p_own_shape : DP)  : DTS :=
  (dSeq (dForI (dItems (dCall P_p_shape_spots (dCons (dCall P_p_own_shape (dCons (dVar 0) dNil)) dNil))) (gTup3 (gsCons (gSet 1) (gsCons (gSet 2) gsNil)) 2) (dSeq (dIf (dTst (dBin gNeE (dBin gMod (dBin gSubI (dBin gSubI (dBin gIx (dIxV 0 (dVar 2)) (dVar 1)) (dVar 1)) (dVar 2)) (dC (.d (.int 2)))) (dC (.d (.int 0))))) (dRet (dC (.d (.bool false)))) dNext) (dSeq (dIf (dAnd (dTst (dBin gGt (dVar 1) (dC (.d (.int 0))))) (dTst (dBin gNeE (dB gAbs (dCons (dBin gSubI (dBin gIx (dIxV 0 (dVar 2)) (dVar 1)) (dBin gIx (dIxV 0 (dVar 2)) (dBin gSubI (dVar 1) (dC (.d (.int 1)))))) dNil)) (dC (.d (.int 1)))))) (dRet (dC (.d (.bool false)))) dNext) (dIf (dAnd (dTst (dBin gGt (dVar 2) (dC (.d (.int 0))))) (dTst (dBin gNeE (dB gAbs (dCons (dBin gSubI (dBin gIx (dIxV 0 (dVar 2)) (dVar 1)) (dBin gIx (dIxV 0 (dBin gSubI (dVar 2) (dC (.d (.int 1))))) (dVar 1))) dNil)) (dC (.d (.int 1)))))) (dRet (dC (.d (.bool false)))) dNext)))) (dRet (dC (.d (.bool true)))))
/-- are_worths -/
def sem_p_are_worths (K : PySem.W.Frag) (A : Adr) (P_p_own_shape : DP) (P_p_is_fraction : DP)  : DTS :=
  (dSeq (dIf (dTst (dBin gNeE (dCall P_p_own_shape (dCons (dVar 0) dNil)) (dVar 1))) (dRet (dC (.d (.bool false)))) dNext) (dRet (dB gAll (dCons (dFz (dLc2 [2, 3] [3] (dItems (dVar 0)) (gSet 2) dYes (dItems (dVar 2)) (gSet 3) dYes (dAndV (dCall P_p_is_fraction (dCons (dVar 3) dNil)) (dBin gNeE (dIxV 3 (dC (.d (.int 0)))) (dC (.d (.int 0))))))) dNil))))
/-- field_faults -/
def sem_p_field_faults (K : PySem.W.Frag) (A : Adr) (P_p_own_shape : DP) (P_p_are_numbers : DP) (P_p_are_steps : DP) (P_p_are_worths : DP)  : DTS :=
  (dSeq (dIf (dOr (dNot (dTruth (dB (gIsiF K) (dCons (dVar 0) (dCons (dC (.raw (.ty "tuple"))) dNil))))) (dTst (dBin gNeE (dB gLen (dCons (dVar 0) dNil)) (dC (.d (.int 2)))))) (dRet (dFz (dLst (dCons (dC (.d .none)) dNil)))) dNext) (dSeq (dAsg (dVar 0) (gTup3 (gsCons (gSet 1) (gsCons (gSet 2) gsNil)) 2)) (dSeq (dSet 3 (dCall P_p_own_shape (dCons (dVar 1) dNil))) (dSeq (dIf (dOr (dTst (dBin gIs2 (dVar 3) (dC (.d .none)))) (dNot (dTruth (dCall P_p_are_numbers (dCons (dVar 1) (dCons (dVar 3) dNil)))))) (dRet (dFz (dLst (dCons (dC (.d (.str "heights"))) dNil)))) dNext) (dSeq (dIf (dNot (dTruth (dCall P_p_are_steps (dCons (dVar 1) dNil)))) (dRet (dFz (dLst (dCons (dC (.d (.str "steps"))) dNil)))) dNext) (dRet (dIfE (dTruth (dCall P_p_are_worths (dCons (dVar 2) (dCons (dVar 3) dNil)))) (dFz (dLst dNil)) (dFz (dLst (dCons (dC (.d (.str "worths"))) dNil))))))))))
/-- need_field -/
def sem_p_need_field (K : PySem.W.Frag) (A : Adr) (P_p_field_faults : DP)  : DTS :=
  (dForI (dItems (dCall P_p_field_faults (dCons (dVar 0) dNil))) (gSet 1) (dRaiseF A.c_BadField "place" (dVar 1)))
/-- is_spot_of -/
def sem_p_is_spot_of (K : PySem.W.Frag) (A : Adr) (P_p_is_whole : DP)  : DTS :=
  (dSeq (dIf (dOr (dNot (dTruth (dB (gIsiF K) (dCons (dVar 1) (dCons (dC (.raw (.ty "tuple"))) dNil))))) (dOr (dTst (dBin gNeE (dB gLen (dCons (dVar 1) dNil)) (dC (.d (.int 2))))) (dNot (dTruth (dB gAll (dCons (dFz (dLcI [2] (dItems (dVar 1)) (gSet 2) dYes (dCall P_p_is_whole (dCons (dVar 2) dNil)))) dNil)))))) (dRet (dC (.d (.bool false)))) dNext) (dRet (dAndV (dChain gLe gLt (dC (.d (.int 0))) (dIxV 1 (dC (.d (.int 0)))) (dIxV 0 (dC (.d (.int 0))))) (dChain gLe gLt (dC (.d (.int 0))) (dIxV 1 (dC (.d (.int 1)))) (dIxV 0 (dC (.d (.int 1))))))))
/-- need_spot -/
def sem_p_need_spot (K : PySem.W.Frag) (A : Adr) (P_p_is_spot_of : DP) (P_p_own_shape : DP)  : DTS :=
  (dIf (dNot (dTruth (dCall P_p_is_spot_of (dCons (dCall P_p_own_shape (dCons (dIxV 0 (dC (.d (.int 0)))) dNil)) (dCons (dVar 1) dNil))))) (dRaise A.c_BadSpot) dNext)
/-- own_spots -/
def sem_p_own_spots (K : PySem.W.Frag) (A : Adr) (P_p_shape_spots : DP) (P_p_own_shape : DP)  : DTS :=
  (dRet (dCall P_p_shape_spots (dCons (dCall P_p_own_shape (dCons (dIxV 0 (dC (.d (.int 0)))) dNil)) dNil)))
/-- own_rim -/
def sem_p_own_rim (K : PySem.W.Frag) (A : Adr) (P_p_shape_spots : DP) (P_p_is_on_rim : DP)  : DTS :=
  (dRet (dFz (dLcI [1] (dItems (dCall P_p_shape_spots (dCons (dVar 0) dNil))) (gSet 1) (dTruth (dCall P_p_is_on_rim (dCons (dVar 0) (dCons (dVar 1) dNil)))) (dVar 1))))
/-- own_neighbours -/
def sem_p_own_neighbours (K : PySem.W.Frag) (A : Adr) (P_p_is_spot_of : DP)  : DTS :=
  (dSeq (dAsg (dVar 1) (gTup3 (gsCons (gSet 2) (gsCons (gSet 3) gsNil)) 2)) (dRet (dFz (dLcI [4] (dItems (dTup (dCons (dTup (dCons (dBin gSubI (dVar 2) (dC (.d (.int 1)))) (dCons (dVar 3) dNil))) (dCons (dTup (dCons (dVar 2) (dCons (dBin gSubI (dVar 3) (dC (.d (.int 1)))) dNil))) (dCons (dTup (dCons (dVar 2) (dCons (dBin gAddB (dVar 3) (dC (.d (.int 1)))) dNil))) (dCons (dTup (dCons (dBin gAddB (dVar 2) (dC (.d (.int 1)))) (dCons (dVar 3) dNil))) dNil)))))) (gSet 4) (dTruth (dCall P_p_is_spot_of (dCons (dVar 0) (dCons (dVar 4) dNil)))) (dVar 4)))))
/-- height_in -/
def sem_p_height_in (K : PySem.W.Frag) (A : Adr) (P_p_at : DP)  : DTS :=
  (dRet (dCall P_p_at (dCons (dIxV 0 (dC (.d (.int 0)))) (dCons (dVar 1) dNil))))
/-- worth_in -/
def sem_p_worth_in (K : PySem.W.Frag) (A : Adr) (P_p_at : DP)  : DTS :=
  (dRet (dCall P_p_at (dCons (dIxV 0 (dC (.d (.int 1)))) (dCons (dVar 1) dNil))))
/-- board -/
def sem_p_board (K : PySem.W.Frag) (A : Adr) (P_p_need_field : DP) (P_p_own_shape : DP)  : DTS :=
  (dSeq (dDrop (dCall P_p_need_field (dCons (dVar 0) dNil))) (dRet (dCall P_p_own_shape (dCons (dIxV 0 (dC (.d (.int 0)))) dNil))))
/-- spots -/
def sem_p_spots (K : PySem.W.Frag) (A : Adr) (P_p_need_field : DP) (P_p_own_spots : DP)  : DTS :=
  (dSeq (dDrop (dCall P_p_need_field (dCons (dVar 0) dNil))) (dRet (dB gTupOf (dCons (dCall P_p_own_spots (dCons (dVar 0) dNil)) dNil))))
/-- rim -/
def sem_p_rim (K : PySem.W.Frag) (A : Adr) (P_p_need_field : DP) (P_p_own_rim : DP) (P_p_own_shape : DP)  : DTS :=
  (dSeq (dDrop (dCall P_p_need_field (dCons (dVar 0) dNil))) (dRet (dB gTupOf (dCons (dCall P_p_own_rim (dCons (dCall P_p_own_shape (dCons (dIxV 0 (dC (.d (.int 0)))) dNil)) dNil)) dNil))))
/-- inner -/
def sem_p_inner (K : PySem.W.Frag) (A : Adr) (P_p_need_field : DP) (P_p_own_shape : DP) (P_p_shape_spots : DP) (P_p_is_on_rim : DP)  : DTS :=
  (dSeq (dDrop (dCall P_p_need_field (dCons (dVar 0) dNil))) (dSeq (dSet 1 (dCall P_p_own_shape (dCons (dIxV 0 (dC (.d (.int 0)))) dNil))) (dRet (dB gTupOf (dCons (dFz (dLcI [2] (dItems (dCall P_p_shape_spots (dCons (dVar 1) dNil))) (gSet 2) (dNot (dTruth (dCall P_p_is_on_rim (dCons (dVar 1) (dCons (dVar 2) dNil))))) (dVar 2))) dNil)))))
/-- neighbours -/
def sem_p_neighbours (K : PySem.W.Frag) (A : Adr) (P_p_need_field : DP) (P_p_need_spot : DP) (P_p_own_neighbours : DP) (P_p_own_shape : DP)  : DTS :=
  (dSeq (dDrop (dCall P_p_need_field (dCons (dVar 0) dNil))) (dSeq (dDrop (dCall P_p_need_spot (dCons (dVar 0) (dCons (dVar 1) dNil)))) (dRet (dB gTupOf (dCons (dCall P_p_own_neighbours (dCons (dCall P_p_own_shape (dCons (dIxV 0 (dC (.d (.int 0)))) dNil)) (dCons (dVar 1) dNil))) dNil)))))
/-- way -/
def sem_p_way (K : PySem.W.Frag) (A : Adr)   : DTS :=
  (dRet (dBin gAddB (dB gAbs (dCons (dBin gSubI (dIxV 0 (dC (.d (.int 0)))) (dIxV 1 (dC (.d (.int 0))))) dNil)) (dB gAbs (dCons (dBin gSubI (dIxV 0 (dC (.d (.int 1)))) (dIxV 1 (dC (.d (.int 1))))) dNil))))
/-- height_at -/
def sem_p_height_at (K : PySem.W.Frag) (A : Adr) (P_p_need_field : DP) (P_p_need_spot : DP) (P_p_height_in : DP)  : DTS :=
  (dSeq (dDrop (dCall P_p_need_field (dCons (dVar 0) dNil))) (dSeq (dDrop (dCall P_p_need_spot (dCons (dVar 0) (dCons (dVar 1) dNil)))) (dRet (dCall P_p_height_in (dCons (dVar 0) (dCons (dVar 1) dNil))))))
/-- worth_of -/
def sem_p_worth_of (K : PySem.W.Frag) (A : Adr) (P_p_need_field : DP) (P_p_need_spot : DP) (P_p_worth_in : DP)  : DTS :=
  (dSeq (dDrop (dCall P_p_need_field (dCons (dVar 0) dNil))) (dSeq (dDrop (dCall P_p_need_spot (dCons (dVar 0) (dCons (dVar 1) dNil)))) (dRet (dCall P_p_worth_in (dCons (dVar 0) (dCons (dVar 1) dNil))))))
/-- own_with -/
def sem_p_own_with (K : PySem.W.Frag) (A : Adr) (P_p_exchanged : DP)  : DTS :=
  (dRet (dTup (dCons (dIxV 0 (dC (.d (.int 0)))) (dCons (dCall P_p_exchanged (dCons (dIxV 0 (dC (.d (.int 1)))) (dCons (dVar 1) (dCons (dVar 2) dNil)))) dNil))))
/-- with_worth -/
def sem_p_with_worth (K : PySem.W.Frag) (A : Adr) (P_p_need_field : DP) (P_p_need_spot : DP) (P_p_is_fraction : DP) (P_p_own_with : DP)  : DTS :=
  (dSeq (dDrop (dCall P_p_need_field (dCons (dVar 0) dNil))) (dSeq (dDrop (dCall P_p_need_spot (dCons (dVar 0) (dCons (dVar 1) dNil)))) (dSeq (dIf (dOr (dNot (dTruth (dCall P_p_is_fraction (dCons (dVar 2) dNil)))) (dTst (dBin gEqE (dIxV 2 (dC (.d (.int 0)))) (dC (.d (.int 0)))))) (dRaise A.c_BadFraction) dNext) (dRet (dCall P_p_own_with (dCons (dVar 0) (dCons (dVar 1) (dCons (dVar 2) dNil))))))))
/-- _law_cell -/
def sem_u_law_cell (K : PySem.W.Frag) (A : Adr)   : DTS :=
  (dSeq (dPut 1 (dC (.d (.int 0))) (dBin gAddB (dIxV 1 (dC (.d (.int 0)))) (dC (.d (.int 1))))) (dSeq (dSet 2 (dIxV 1 (dC (.d (.int 0))))) (dSeq (dSet 3 (dBin gAddB (dBin gMul (dBin gMul (dC (.d (.int 31))) (dVar 2)) (dVar 2)) (dBin gMul (dC (.d (.int 7919))) (dVar 2)))) (dSeq (dIf (dAnd (dTst (dBin gGt (dB gLen (dCons (dVar 0) dNil)) (dC (.d (.int 0))))) (dAnd (dTst (dBin gGe (dIxV 0 (dBin gMod (dVar 2) (dB gLen (dCons (dVar 0) dNil)))) (dBin gPow (dC (.d (.int 10))) (dC (.d (.int 18)))))) (dTst (dBin gLt (dBin gDiv (dVar 2) (dB gLen (dCons (dVar 0) dNil))) (dC (.d (.int 60))))))) (dSeq (dSet 4 (dIxV 0 (dBin gMod (dVar 2) (dB gLen (dCons (dVar 0) dNil))))) (dSeq (dForI (dRg1 (dBin gDiv (dVar 2) (dB gLen (dCons (dVar 0) dNil)))) (gSet 5) (dSet 4 (dBin gDiv (dVar 4) (dC (.d (.int 306783379)))))) (dIf (dTst (dBin gGt (dVar 4) (dC (.d (.int 0))))) (dRet (dBin gMod (dVar 4) (dC (.d (.int 306783379))))) dNext))) dNext) (dSeq (dIf (dTst (dBin gGt (dB gLen (dCons (dVar 0) dNil)) (dC (.d (.int 0))))) (dSet 3 (dBin gAddB (dVar 3) (dBin gMul (dBin gMod (dIxV 0 (dBin gMod (dVar 2) (dB gLen (dCons (dVar 0) dNil)))) (dC (.d (.int 2147483629)))) (dBin gAddB (dC (.d (.int 1))) (dBin gDiv (dVar 2) (dB gLen (dCons (dVar 0) dNil))))))) dNext) (dRet (dBin gDiv (dBin gMod (dBin gPow (dBin gMod (dVar 3) (dC (.d (.int 2147483647)))) (dC (.d (.int 5)))) (dC (.d (.int 2147483647)))) (dC (.d (.int 7))))))))))
/-- _law_low -/
def sem_u_law_low (K : PySem.W.Frag) (A : Adr)   : DTS :=
  (dSeq (dPar 2 3 (dB gAbs (dCons (dVar 0) dNil)) (dB gAbs (dCons (dVar 1) dNil))) (dSeq (dWhile (dTst (dBin gNeE (dVar 3) (dC (.d (.int 0))))) (dPar 2 3 (dVar 3) (dBin gMod (dVar 2) (dVar 3)))) (dSeq (dSet 4 (dIfE (dTst (dBin gGt (dVar 1) (dC (.d (.int 0))))) (dVar 2) (dBin gSubI (dC (.d (.int 0))) (dVar 2)))) (dRet (dTup (dCons (dBin gDiv (dVar 0) (dVar 4)) (dCons (dBin gDiv (dVar 1) (dVar 4)) dNil)))))))
/-- _law_heights -/
def sem_u_law_heights (K : PySem.W.Frag) (A : Adr) (P_u_law_cell : DP)  : DTS :=
  (dSeq (dOwn 5 (dLst dNil)) (dSeq (dForI (dRg1 (dVar 3)) (gSet 6) (dSeq (dParEL 7 8 (dCall P_u_law_cell (dCons (dVar 0) (dCons (dVar 1) dNil))) (dLst dNil)) (dSeq (dForI (dRg1 (dVar 2)) (gSet 9) (dSeq (dOwn 10 (dAddL (dSlV 8 (dPart (dNeg (dC (.d (.int 1))))) dNoPart dNoPart) (dFz (dLcI [11] (dItems (dSlV 5 (dPart (dNeg (dC (.d (.int 1))))) dNoPart dNoPart)) (gSet 11) dYes (dIxV 11 (dVar 9)))))) (dSeq (dOwn 12 (dLst (dCons (dVar 4) (dCons (dVar 4) dNil)))) (dSeq (dIf (dTst (dBin gNeE (dVar 10) (dFz (dLst dNil)))) (dSeq (dOwn 12 (dLst (dCons (dBin gSubI (dIxV 10 (dC (.d (.int 0)))) (dC (.d (.int 1)))) (dCons (dBin gAddB (dIxV 10 (dC (.d (.int 0)))) (dC (.d (.int 1)))) dNil)))) (dSetFz 12 (dLcI [13] (dItems (dVar 12)) (gSet 13) (dTst (dBin gEqE (dB gAbs (dCons (dBin gSubI (dVar 13) (dIxV 10 (dNeg (dC (.d (.int 1)))))) dNil)) (dC (.d (.int 1))))) (dVar 13)))) dNext) (dApp 8 (dIxV 12 (dBin gMod (dBin gAnd (dBin gShr (dVar 7) (dVar 9)) (dC (.d (.int 1)))) (dB gLen (dCons (dVar 12) dNil))))))))) (dApp 5 (dB gTupOf (dCons (dVar 8) dNil)))))) (dRet (dB gTupOf (dCons (dVar 5) dNil)))))
/-- _law_worths -/
def sem_u_law_worths (K : PySem.W.Frag) (A : Adr) (P_u_law_cell : DP) (P_u_law_low : DP)  : DTS :=
  (dSeq (dOwn 5 (dLst dNil)) (dSeq (dForI (dRg1 (dVar 3)) (gSet 6) (dSeq (dOwn 7 (dLst dNil)) (dSeq (dForI (dRg1 (dVar 2)) (gSet 8) (dSeq (dSet 9 (dCall P_u_law_cell (dCons (dVar 0) (dCons (dVar 1) dNil)))) (dSeq (dPar 10 11 (dBin gAddB (dC (.d (.int 1))) (dBin gMod (dVar 9) (dC (.d (.int 9))))) (dBin gAddB (dC (.d (.int 1))) (dBin gMod (dBin gDiv (dVar 9) (dC (.d (.int 9)))) (dC (.d (.int 4)))))) (dSeq (dSet 12 (dBin gMul (dVar 10) (dBin gSubI (dC (.d (.int 1))) (dBin gMul (dBin gMod (dBin gDiv (dVar 9) (dC (.d (.int 36)))) (dC (.d (.int 2)))) (dC (.d (.int 2))))))) (dSeq (dOwn 13 (dLst (dCons (dTup (dCons (dC (.d (.int 1))) (dCons (dC (.d (.int 1))) dNil))) (dCons (dTup (dCons (dVar 10) (dCons (dC (.d (.int 1))) dNil))) (dCons (dCall P_u_law_low (dCons (dVar 10) (dCons (dVar 11) dNil))) dNil))))) (dApp 7 (dBin gIx (dFz (dAddL (dVar 13) (dFz (dLst (dCons (dCall P_u_law_low (dCons (dVar 12) (dCons (dVar 11) dNil))) dNil))))) (dVar 4)))))))) (dApp 5 (dB gTupOf (dCons (dVar 7) dNil)))))) (dRet (dB gTupOf (dCons (dVar 5) dNil)))))
/-- _law_field -/
def sem_u_law_field (K : PySem.W.Frag) (A : Adr) (P_u_law_cell : DP) (P_u_law_heights : DP) (P_u_law_worths : DP)  : DTS :=
  (dSeq (dPar 4 5 (dCall P_u_law_cell (dCons (dVar 0) (dCons (dVar 1) dNil))) (dBin gAddB (dBin gSubI (dVar 3) (dVar 2)) (dC (.d (.int 1))))) (dSeq (dPar 6 7 (dBin gAddB (dVar 2) (dBin gMod (dVar 4) (dVar 5))) (dBin gAddB (dVar 2) (dBin gMod (dBin gDiv (dVar 4) (dC (.d (.int 11)))) (dVar 5)))) (dSeq (dSet 8 (dCall P_u_law_heights (dCons (dVar 0) (dCons (dVar 1) (dCons (dVar 6) (dCons (dVar 7) (dCons (dBin gSubI (dBin gMul (dC (.d (.int 2))) (dBin gMod (dBin gDiv (dVar 4) (dC (.d (.int 121)))) (dC (.d (.int 13))))) (dC (.d (.int 12)))) dNil))))))) (dRet (dTup (dCons (dVar 8) (dCons (dCall P_u_law_worths (dCons (dVar 0) (dCons (dVar 1) (dCons (dVar 6) (dCons (dVar 7) (dCons (dBin gMod (dBin gDiv (dVar 4) (dC (.d (.int 1573)))) (dC (.d (.int 4)))) dNil)))))) dNil)))))))
/-- _law_asked -/
def sem_u_law_asked (K : PySem.W.Frag) (A : Adr)   (TT : SV) (Pt : TP) : DTS :=
  (dSeq (dAsg (dTup (dCons (dC (.d .none)) (dCons (dC (.d .none)) dNil))) (gTup3 (gsCons (gSet 1) (gsCons (gSet 2) gsNil)) 2)) (dSeq (dTryLaw (fun C => PySem.W.exmAny K (.ref C) [.ref A.c_HollowError, .ref A.c_DeedError, .ref A.c_BookError] = some true) 3 1 (dSet 2 (dThk TT Pt))) (dSeq (dIf (dTst (dBin gIs2 (dVar 1) (dC (.d .none)))) (dRet (dFz (dLst (dCons (dVar 2) dNil)))) dNext) (dSeq (dOwn 4 (dLst (dCons (dTup (dCons (dC (.d (.str "field"))) (dCons (dB (gIsiF K) (dCons (dVar 1) (dCons (dC (.raw (.ref A.c_BadField))) dNil))) dNil))) (dCons (dTup (dCons (dC (.d (.str "fraction"))) (dCons (dB (gIsiF K) (dCons (dVar 1) (dCons (dC (.raw (.ref A.c_BadFraction))) dNil))) dNil))) dNil)))) (dSeq (dOwn 4 (dAddL (dVar 4) (dFz (dLst (dCons (dTup (dCons (dC (.d (.str "rule"))) (dCons (dB (gIsiF K) (dCons (dVar 1) (dCons (dC (.raw (.ref A.c_BadRule))) dNil))) dNil))) (dCons (dTup (dCons (dC (.d (.str "spot"))) (dCons (dB (gIsiF K) (dCons (dVar 1) (dCons (dC (.raw (.ref A.c_BadSpot))) dNil))) dNil))) dNil)))))) (dSeq (dOwn 4 (dAddL (dVar 4) (dFz (dLst (dCons (dTup (dCons (dC (.d (.str "target"))) (dCons (dB (gIsiF K) (dCons (dVar 1) (dCons (dC (.raw (.ref A.c_BadTarget))) dNil))) dNil))) (dCons (dTup (dCons (dC (.d (.str "row"))) (dCons (dB (gIsiF K) (dCons (dVar 1) (dCons (dC (.raw (.ref A.c_BadRow))) dNil))) dNil))) dNil)))))) (dSeq (dApp 4 (dTup (dCons (dC (.d (.str "heights"))) (dCons (dB (gIsiF K) (dCons (dVar 1) (dCons (dC (.raw (.ref A.c_BadHeights))) dNil))) dNil)))) (dSeq (dApp 4 (dTup (dCons (dC (.d (.str "great"))) (dCons (dB (gIsiF K) (dCons (dVar 1) (dCons (dC (.raw (.ref A.c_TooGreat))) dNil))) dNil)))) (dSeq (dOwn 4 (dAddL (dVar 4) (dFz (dLst (dCons (dTup (dCons (dC (.d (.str "hollow"))) (dCons (dB (gIsiF K) (dCons (dVar 1) (dCons (dC (.raw (.ref A.c_NoHollow))) dNil))) dNil))) (dCons (dTup (dCons (dC (.d (.str "peak"))) (dCons (dB (gIsiF K) (dCons (dVar 1) (dCons (dC (.raw (.ref A.c_NoPeak))) dNil))) dNil))) dNil)))))) (dSeq (dOwn 4 (dAddL (dVar 4) (dFz (dLst (dCons (dTup (dCons (dC (.d (.str "nought"))) (dCons (dB (gIsiF K) (dCons (dVar 1) (dCons (dC (.raw (.ref A.c_Nought))) dNil))) dNil))) (dCons (dTup (dCons (dC (.d (.str "gone"))) (dCons (dB (gIsiF K) (dCons (dVar 1) (dCons (dC (.raw (.ref A.c_Gone))) dNil))) dNil))) dNil)))))) (dSeq (dApp 4 (dTup (dCons (dC (.d (.str "pairing"))) (dCons (dIsiT K (dVar 1) (dCons (dC (.raw (.ref A.c_BadPairing))) (dCons (dC (.raw (.ref A.c_BadPaper))) (dCons (dC (.raw (.ref A.c_BadCoin))) (dCons (dC (.raw (.ref A.c_TooFew))) (dCons (dC (.raw (.ref A.c_BadText))) dNil)))))) dNil)))) (dSeq (dSetFz 5 (dLcI [6, 7] (dItems (dVar 4)) (gTup3 (gsCons (gSet 6) (gsCons (gSet 7) gsNil)) 2) (dTruth (dVar 7)) (dVar 6))) (dSeq (dOwn 8 (dLst (dCons (dB (gIsiF K) (dCons (dVar 1) (dCons (dC (.raw (.ty "ValueError"))) dNil))) (dCons (dB (gIsiF K) (dCons (dVar 1) (dCons (dC (.raw (.ty "RuntimeError"))) dNil))) dNil)))) (dSeq (dOwn 9 (dLst (dCons (dB (gIsiF K) (dCons (dVar 1) (dCons (dC (.raw (.ref A.c_HollowError))) dNil))) (dCons (dB (gIsiF K) (dCons (dVar 1) (dCons (dC (.raw (.ref A.c_DeedError))) dNil))) dNil)))) (dSeq (dApp 8 (dB (gIsiF K) (dCons (dVar 1) (dCons (dC (.raw (.ty "LookupError"))) dNil)))) (dSeq (dApp 9 (dB (gIsiF K) (dCons (dVar 1) (dCons (dC (.raw (.ref A.c_BookError))) dNil)))) (dSeq (dIf (dOr (dTst (dBin gNeE (dB gLen (dCons (dVar 5) dNil)) (dC (.d (.int 1))))) (dOr (dTst (dBin gNeE (dVar 8) (dVar 9))) (dTst (dBin gNeE (dCnt (dVar 9) (dC (.d (.bool true)))) (dC (.d (.int 1))))))) (dRet (dC (.d (.str "several")))) dNext) (dSeq (dIf (dTst (dBin (gIn false) (dIxV 5 (dC (.d (.int 0)))) (dTup (dCons (dC (.d (.str "hollow"))) (dCons (dC (.d (.str "peak"))) (dCons (dC (.d (.str "nought"))) dNil)))))) (dRet (dTup (dCons (dIxV 5 (dC (.d (.int 0)))) (dCons (dFld K 1 "spot") dNil)))) dNext) (dSeq (dIf (dTst (dBin gEqE (dIxV 5 (dC (.d (.int 0)))) (dC (.d (.str "field"))))) (dRet (dTup (dCons (dC (.d (.str "field"))) (dCons (dFld K 1 "place") dNil)))) dNext) (dSeq (dIf (dTst (dBin gEqE (dIxV 5 (dC (.d (.int 0)))) (dC (.d (.str "great"))))) (dRet (dTup (dCons (dC (.d (.str "great"))) (dCons (dFld K 1 "most") dNil)))) dNext) (dRet (dIfE (dTst (dBin gEqE (dIxV 5 (dC (.d (.int 0)))) (dC (.d (.str "row"))))) (dTup (dCons (dC (.d (.str "row"))) (dCons (dFld K 1 "number") dNil))) (dIxV 5 (dC (.d (.int 0))))))))))))))))))))))))))
/-- _law_spots -/
def sem_u_law_spots (K : PySem.W.Frag) (A : Adr)   : DTS :=
  (dSeq (dOwn 2 (dLst dNil)) (dSeq (dForI (dRg1 (dVar 0)) (gSet 3) (dExt 2 (dFz (dLcI [4] (dRg1 (dVar 1)) (gSet 4) dYes (dTup (dCons (dVar 3) (dCons (dVar 4) dNil))))))) (dRet (dVar 2))))
/-- _law_near -/
def sem_u_law_near (K : PySem.W.Frag) (A : Adr)   : DTS :=
  (dSeq (dAsg (dVar 1) (gTup3 (gsCons (gSet 2) (gsCons (gSet 3) gsNil)) 2)) (dRet (dB gTupOf (dCons (dFz (dLcI [4] (dItems (dVar 0)) (gSet 4) (dTst (dBin gEqE (dBin gAddB (dB gAbs (dCons (dBin gSubI (dIxV 4 (dC (.d (.int 0)))) (dVar 2)) dNil)) (dB gAbs (dCons (dBin gSubI (dIxV 4 (dC (.d (.int 1)))) (dVar 3)) dNil))) (dC (.d (.int 1))))) (dVar 4))) dNil))))
/-- _law_whole_right -/
def sem_u_law_whole_right (K : PySem.W.Frag) (A : Adr) (P_u_law_spots : DP) (P_u_law_near : DP) (P_p_inner : DP) (P_p_rim : DP) (P_p_spots : DP) (P_p_board : DP)  : DTS :=
  (dSeq (dPar 1 2 (dB gLen (dCons (dBin gIx (dIxV 0 (dC (.d (.int 0)))) (dC (.d (.int 0)))) dNil)) (dB gLen (dCons (dIxV 0 (dC (.d (.int 0)))) dNil))) (dSeq (dSet 3 (dCall P_u_law_spots (dCons (dVar 1) (dCons (dVar 2) dNil)))) (dSeq (dOwn 4 (dLcI [5] (dItems (dVar 3)) (gSet 5) (dTst (dBin gEqE (dB gLen (dCons (dCall P_u_law_near (dCons (dVar 3) (dCons (dVar 5) dNil))) dNil)) (dC (.d (.int 4))))) (dVar 5))) (dSeq (dSetFz 6 (dLcI [5] (dItems (dVar 3)) (gSet 5) (dTst (dBin (gInB true) (dVar 5) (dVar 4))) (dVar 5))) (dSeq (dOwn 7 (dLst (dCons (dCall P_p_board (dCons (dVar 0) dNil)) (dCons (dCall P_p_spots (dCons (dVar 0) dNil)) (dCons (dCall P_p_rim (dCons (dVar 0) dNil)) (dCons (dCall P_p_inner (dCons (dVar 0) dNil)) dNil)))))) (dSeq (dOwn 8 (dLst (dCons (dTup (dCons (dVar 1) (dCons (dVar 2) dNil))) (dCons (dB gTupOf (dCons (dVar 3) dNil)) (dCons (dB gTupOf (dCons (dVar 6) dNil)) (dCons (dB gTupOf (dCons (dVar 4) dNil)) dNil)))))) (dRet (dBin gEqE (dB gReprE (dCons (dVar 7) dNil)) (dB gReprE (dCons (dVar 8) dNil))))))))))
/-- _law_spot_right -/
def sem_u_law_spot_right (K : PySem.W.Frag) (A : Adr) (P_u_law_spots : DP) (P_p_worth_of : DP) (P_p_height_at : DP) (P_p_neighbours : DP) (P_u_law_near : DP) (P_p_way : DP)  : DTS :=
  (dSeq (dSet 3 (dCall P_u_law_spots (dCons (dB gLen (dCons (dBin gIx (dIxV 0 (dC (.d (.int 0)))) (dC (.d (.int 0)))) dNil)) (dCons (dB gLen (dCons (dIxV 0 (dC (.d (.int 0)))) dNil)) dNil)))) (dSeq (dAsg (dVar 1) (gTup3 (gsCons (gSet 4) (gsCons (gSet 5) gsNil)) 2)) (dSeq (dOwn 6 (dLst (dCons (dCall P_p_height_at (dCons (dVar 0) (dCons (dVar 1) dNil))) (dCons (dCall P_p_worth_of (dCons (dVar 0) (dCons (dVar 1) dNil))) dNil)))) (dSeq (dIf (dTst (dBin gNeE (dB gReprE (dCons (dVar 6) dNil)) (dB gReprE (dCons (dFz (dLst (dCons (dBin gIx (dBin gIx (dIxV 0 (dC (.d (.int 0)))) (dVar 5)) (dVar 4)) (dCons (dBin gIx (dBin gIx (dIxV 0 (dC (.d (.int 1)))) (dVar 5)) (dVar 4)) dNil)))) dNil)))) (dRet (dC (.d (.bool false)))) dNext) (dSeq (dIf (dTst (dBin gNeE (dB gReprE (dCons (dCall P_p_neighbours (dCons (dVar 0) (dCons (dVar 1) dNil))) dNil)) (dB gReprE (dCons (dCall P_u_law_near (dCons (dVar 3) (dCons (dVar 1) dNil))) dNil)))) (dRet (dC (.d (.bool false)))) dNext) (dSeq (dSet 7 (dBin gAddB (dB gAbs (dCons (dBin gSubI (dVar 4) (dIxV 2 (dC (.d (.int 0))))) dNil)) (dB gAbs (dCons (dBin gSubI (dVar 5) (dIxV 2 (dC (.d (.int 1))))) dNil)))) (dRet (dBin gEqE (dFz (dLst (dCons (dCall P_p_way (dCons (dVar 1) (dCons (dVar 2) dNil))) (dCons (dCall P_p_way (dCons (dVar 2) (dCons (dVar 1) dNil))) dNil)))) (dFz (dLst (dCons (dVar 7) (dCons (dVar 7) dNil))))))))))))
/-- _law_with_right -/
def sem_u_law_with_right (K : PySem.W.Frag) (A : Adr) (P_p_with_worth : DP)  : DTS :=
  (dSeq (dAsg (dVar 1) (gTup3 (gsCons (gSet 3) (gsCons (gSet 4) gsNil)) 2)) (dSeq (dSet 5 (dBin gIx (dIxV 0 (dC (.d (.int 1)))) (dVar 4))) (dSeq (dSet 5 (dBin gAddB (dBin gAddB (dSlV 5 dNoPart (dPart (dVar 3)) dNoPart) (dTup (dCons (dVar 2) dNil))) (dSlV 5 (dPart (dBin gAddB (dVar 3) (dC (.d (.int 1))))) dNoPart dNoPart))) (dSeq (dSet 6 (dTup (dCons (dIxV 0 (dC (.d (.int 0)))) (dCons (dBin gAddB (dBin gAddB (dSlG (dIxV 0 (dC (.d (.int 1)))) dNoPart (dPart (dVar 4)) dNoPart) (dTup (dCons (dVar 5) dNil))) (dSlG (dIxV 0 (dC (.d (.int 1)))) (dPart (dBin gAddB (dVar 4) (dC (.d (.int 1))))) dNoPart dNoPart)) dNil)))) (dSeq (dSet 7 (dCall P_p_with_worth (dCons (dVar 0) (dCons (dVar 1) (dCons (dVar 2) dNil))))) (dRet (dBin gEqE (dB gReprE (dCons (dVar 7) dNil)) (dB gReprE (dCons (dVar 6) dNil)))))))))
/-- _law_no_spot -/
def sem_u_law_no_spot (K : PySem.W.Frag) (A : Adr)   : DTS :=
  (dSeq (dPar 2 3 (dB gLen (dCons (dBin gIx (dIxV 0 (dC (.d (.int 0)))) (dC (.d (.int 0)))) dNil)) (dB gLen (dCons (dIxV 0 (dC (.d (.int 0)))) dNil))) (dSeq (dOwn 4 (dLst (dCons (dTup (dCons (dVar 2) (dCons (dC (.d (.int 0))) dNil))) (dCons (dTup (dCons (dC (.d (.int 0))) (dCons (dVar 3) dNil))) (dCons (dTup (dCons (dNeg (dC (.d (.int 1)))) (dCons (dC (.d (.int 0))) dNil))) (dCons (dTup (dCons (dC (.d (.int 0))) (dCons (dNeg (dC (.d (.int 1)))) dNil))) (dCons (dTup (dCons (dC (.d (.int 0))) dNil)) (dCons (dTup (dCons (dC (.d (.int 0))) (dCons (dC (.d (.int 0))) (dCons (dC (.d (.int 0))) dNil)))) (dCons (dFz (dLst (dCons (dC (.d (.int 0))) (dCons (dC (.d (.int 0))) dNil)))) (dCons (dTup (dCons (dC (.d (.bool true))) (dCons (dC (.d (.int 0))) dNil))) dNil)))))))))) (dSeq (dOwn 4 (dAddL (dVar 4) (dFz (dLst (dCons (dTup (dCons (dC (.d (.int 0))) (dCons (dC (.d (.bool false))) dNil))) (dCons (dC (.d .none)) (dCons (dC (.d (.str "00"))) (dCons (dTup (dCons (dC (.d (.str "0"))) (dCons (dC (.d (.int 0))) dNil))) (dCons (dC (.d (.int 0))) (dCons dDct0 (dCons (dTup (dCons (dTup (dCons (dC (.d (.int 0))) (dCons (dC (.d (.int 0))) dNil))) (dCons (dC (.d (.int 0))) dNil))) (dCons (dTup (dCons (dC (.d (.int 0))) (dCons (dC (.d .none)) dNil))) dNil)))))))))))) (dRet (dIxV 4 (dBin gMod (dVar 1) (dC (.d (.int 16)))))))))
/-- _law_refused_right -/
def sem_u_law_refused_right (K : PySem.W.Frag) (A : Adr) (P_u_law_no_spot : DP) (P_p_height_at : DP) (P_p_worth_of : DP) (P_p_neighbours : DP) (P_p_with_worth : DP) (P_p_board : DP) (P_p_spots : DP) (P_p_rim : DP) (P_p_inner : DP) (PG_u_law_asked : TP → List (List PyData) → (SV → List (List PyData) → Prop) → (Xd → List (List PyData) → Prop) → Prop) : DTS :=
  (dSeq (dAsg (dTup (dCons (dCall P_u_law_no_spot (dCons (dVar 0) (dCons (dVar 1) dNil))) (dCons (dTup (dCons (dC (.d (.int 0))) (dCons (dC (.d (.int 0))) dNil))) dNil))) (gTup3 (gsCons (gSet 2) (gsCons (gSet 3) gsNil)) 2)) (dSeq (dSet 4 (dBin gIx (dFz (dLst (dCons (dTup (dCons (dC (.d (.int 0))) (dCons (dC (.d (.int 1))) dNil))) (dCons (dTup (dCons (dC (.d (.int 2))) (dCons (dC (.d (.int 4))) dNil))) (dCons (dTup (dCons (dC (.d (.int 1))) (dCons (dC (.d (.int 0))) dNil))) (dCons (dTup (dCons (dC (.d (.int 1))) (dCons (dNeg (dC (.d (.int 1)))) dNil))) (dCons (dC (.d .none)) (dCons (dC (.d (.int 1))) (dCons (dTup (dCons (dC (.d (.int 1))) dNil)) (dCons (dTup (dCons (dC (.d (.bool true))) (dCons (dC (.d (.int 1))) dNil))) dNil)))))))))) (dBin gMod (dBin gDiv (dVar 1) (dC (.d (.int 16)))) (dC (.d (.int 8)))))) (dSeq (dSet 5 (dBin gIx (dFz (dLst (dCons (dC (.d .none)) (dCons (dTup dNil) (dCons (dSlV 0 dNoPart (dPart (dC (.d (.int 1)))) dNoPart) (dCons (dFz (dListOf (dVar 0))) dNil)))))) (dBin gMod (dBin gDiv (dVar 1) (dC (.d (.int 128)))) (dC (.d (.int 4)))))) (dSeq (dSet 6 (dC (.d .none))) (dSeq (dOwn 7 (dLst (dCons (dLamCall [0, 2] PG_u_law_asked (dCall P_p_height_at (dCons (dVar 0) (dCons (dVar 2) dNil)))) dNil))) (dSeq (dApp 7 (dLamCall [0, 2] PG_u_law_asked (dCall P_p_worth_of (dCons (dVar 0) (dCons (dVar 2) dNil))))) (dSeq (dApp 7 (dLamCall [0, 2] PG_u_law_asked (dCall P_p_neighbours (dCons (dVar 0) (dCons (dVar 2) dNil))))) (dSeq (dApp 7 (dLamCall [0, 2, 4] PG_u_law_asked (dCall P_p_with_worth (dCons (dVar 0) (dCons (dVar 2) (dCons (dVar 4) dNil)))))) (dSeq (dIf (dTst (dBin gNeE (dVar 7) (dFz (dRepL (dFz (dLst (dCons (dC (.d (.str "spot"))) dNil))) (dC (.d (.int 4))))))) (dRet (dC (.d (.bool false)))) dNext) (dSeq (dIf (dTst (dBin gNeE (dLamCall [0, 3, 4] PG_u_law_asked (dCall P_p_with_worth (dCons (dVar 0) (dCons (dVar 3) (dCons (dVar 4) dNil))))) (dC (.d (.str "fraction"))))) (dRet (dC (.d (.bool false)))) dNext) (dSeq (dOwn 7 (dLst (dCons (dLamCall [5] PG_u_law_asked (dCall P_p_board (dCons (dVar 5) dNil))) dNil))) (dSeq (dApp 7 (dLamCall [5] PG_u_law_asked (dCall P_p_spots (dCons (dVar 5) dNil)))) (dSeq (dApp 7 (dLamCall [5] PG_u_law_asked (dCall P_p_rim (dCons (dVar 5) dNil)))) (dSeq (dApp 7 (dLamCall [5] PG_u_law_asked (dCall P_p_inner (dCons (dVar 5) dNil)))) (dSeq (dApp 7 (dLamCall [2, 5] PG_u_law_asked (dCall P_p_neighbours (dCons (dVar 5) (dCons (dVar 2) dNil))))) (dSeq (dApp 7 (dLamCall [2, 5] PG_u_law_asked (dCall P_p_height_at (dCons (dVar 5) (dCons (dVar 2) dNil))))) (dSeq (dApp 7 (dLamCall [2, 5] PG_u_law_asked (dCall P_p_worth_of (dCons (dVar 5) (dCons (dVar 2) dNil))))) (dSeq (dApp 7 (dLamCall [2, 4, 5] PG_u_law_asked (dCall P_p_with_worth (dCons (dVar 5) (dCons (dVar 2) (dCons (dVar 4) dNil)))))) (dRet (dBin gEqE (dVar 7) (dFz (dRepL (dFz (dLst (dCons (dTup (dCons (dC (.d (.str "field"))) (dCons (dVar 6) dNil))) dNil))) (dC (.d (.int 8)))))))))))))))))))))))))
/-- law -/
def sem_p_law (K : PySem.W.Frag) (A : Adr) (P_u_law_field : DP) (P_u_law_cell : DP) (P_u_law_spots : DP) (P_u_law_low : DP) (P_u_law_spot_right : DP) (P_u_law_whole_right : DP) (P_u_law_with_right : DP) (P_u_law_refused_right : DP)  : DTS :=
  (dCell 1 (dLst (dCons (dC (.d (.int 0))) dNil)) (dSeq (dForI (dRg1 (dBin gAddB (dC (.d (.int 3))) (dB gMin2 (dCons (dC (.d (.int 9))) (dCons (dB gLen (dCons (dVar 0) dNil)) dNil))))) (gSet 2) (dSeq (dPar 3 4 (dCall P_u_law_field (dCons (dVar 0) (dCons (dVar 1) (dCons (dC (.d (.int 1))) (dCons (dC (.d (.int 7))) dNil))))) (dCall P_u_law_cell (dCons (dVar 0) (dCons (dVar 1) dNil)))) (dSeq (dSet 5 (dB gReprE (dCons (dVar 3) dNil))) (dSeq (dSet 6 (dCall P_u_law_spots (dCons (dB gLen (dCons (dBin gIx (dIxV 3 (dC (.d (.int 0)))) (dC (.d (.int 0)))) dNil)) (dCons (dB gLen (dCons (dIxV 3 (dC (.d (.int 0)))) dNil)) dNil)))) (dSeq (dPar 7 8 (dIxV 6 (dBin gMod (dVar 4) (dB gLen (dCons (dVar 6) dNil)))) (dIxV 6 (dBin gMod (dBin gDiv (dVar 4) (dC (.d (.int 49)))) (dB gLen (dCons (dVar 6) dNil))))) (dSeq (dSet 9 (dCall P_u_law_low (dCons (dBin gSubI (dBin gMod (dBin gDiv (dVar 4) (dC (.d (.int 7)))) (dC (.d (.int 19)))) (dC (.d (.int 20)))) (dCons (dBin gAddB (dC (.d (.int 1))) (dBin gMod (dBin gDiv (dVar 4) (dC (.d (.int 133)))) (dC (.d (.int 9))))) dNil)))) (dSeq (dForI (dRg1 (dC (.d (.int 2)))) (gSet 10) (dSeq (dIf (dOr (dNot (dTruth (dCall P_u_law_whole_right (dCons (dVar 3) dNil)))) (dNot (dTruth (dCall P_u_law_spot_right (dCons (dVar 3) (dCons (dVar 7) (dCons (dVar 8) dNil))))))) (dRet (dC (.d (.bool false)))) dNext) (dIf (dNot (dTruth (dCall P_u_law_with_right (dCons (dVar 3) (dCons (dVar 7) (dCons (dVar 9) dNil)))))) (dRet (dC (.d (.bool false)))) dNext))) (dIf (dOr (dNot (dTruth (dCall P_u_law_refused_right (dCons (dVar 3) (dCons (dBin gDiv (dVar 4) (dC (.d (.int 3)))) dNil))))) (dTst (dBin gNeE (dB gReprE (dCons (dVar 3) dNil)) (dVar 5)))) (dRet (dC (.d (.bool false)))) dNext)))))))) (dRet (dC (.d (.bool true))))))
theorem l_any : True := trivial
section
variable [Tb] {P : Program} {w : World} {K : PySem.W.Frag} {mg : Str → Option Value} {base : Heap} {A : Adr}
theorem ok_p_is_whole (F : Fct K mg A)     {p : DP} (hP : ∀ rs C k e, p rs C k e → rs.length = 1 ∧ sem_p_is_whole K A   (defEnds k) ⟨start3 1 rs, C⟩ (defExc e)) :
    FnG P w K mg base 1 A.f_p_is_whole A.d_p_is_whole ["thing"] (spD K 1 p) := by
  refine fnG_def F.f_p_is_whole sc_p_is_whole (fun cdv Ar outer s H E hcd hr hgd => ?_) hP
  have tk : Takes (cxOf (L2.CX P w) P w K mg base ["thing"] "is_whole" (defScope s_p_is_whole) A.f_p_is_whole cdv Ar outer s H E) (fun cls d _ H2 => E cls d H2) := takes_of rfl rfl rfl rfl
  have po : PassesOwn (model P w) (cxOf (L2.CX P w) P w K mg base ["thing"] "is_whole" (defScope s_p_is_whole) A.f_p_is_whole cdv Ar outer s H E).A (cxOf (L2.CX P w) P w K mg base ["thing"] "is_whole" (defScope s_p_is_whole) A.f_p_is_whole cdv Ar outer s H E).env (cxOf (L2.CX P w) P w K mg base ["thing"] "is_whole" (defScope s_p_is_whole) A.f_p_is_whole cdv Ar outer s H E).xe := passes_of rfl
  unfold sem_p_is_whole
  exact (ds_one (ds_ret (d_andV (d_callB cIsiF rfl F.z_isinstance bt_isinstance (da_cons (d_var (i := 0) rfl (vis_by rfl)) (da_cons (d_bltn rfl F.z_int bt_int rfl) da_nil))) (d_one (d_notV (d_callB cIsiF rfl F.z_isinstance bt_isinstance (da_cons (d_var (i := 0) rfl (vis_by rfl)) (da_cons (d_bltn rfl F.z_bool bt_bool rfl) da_nil))))))))
theorem ok_p_own_common (F : Fct K mg A)     {p : DP} (hP : ∀ rs C k e, p rs C k e → rs.length = 2 ∧ sem_p_own_common K A   (defEnds k) ⟨start3 2 rs, C⟩ (defExc e)) :
    FnG P w K mg base 1 A.f_p_own_common A.d_p_own_common ["one", "other"] (spD K 2 p) := by
  refine fnG_def F.f_p_own_common sc_p_own_common (fun cdv Ar outer s H E hcd hr hgd => ?_) hP
  have tk : Takes (cxOf (L2.CX P w) P w K mg base ["one", "other"] "own_common" (defScope s_p_own_common) A.f_p_own_common cdv Ar outer s H E) (fun cls d _ H2 => E cls d H2) := takes_of rfl rfl rfl rfl
  have po : PassesOwn (model P w) (cxOf (L2.CX P w) P w K mg base ["one", "other"] "own_common" (defScope s_p_own_common) A.f_p_own_common cdv Ar outer s H E).A (cxOf (L2.CX P w) P w K mg base ["one", "other"] "own_common" (defScope s_p_own_common) A.f_p_own_common cdv Ar outer s H E).env (cxOf (L2.CX P w) P w K mg base ["one", "other"] "own_common" (defScope s_p_own_common) A.f_p_own_common cdv Ar outer s H E).xe := passes_of rfl
  unfold sem_p_own_common
  exact (ds_cons (ds_while po (d_cmpT (oNeE (hu64 hr)) (d_var (i := 1) rfl (vis_by rfl)) d_int (nomark _)) (ds_one (ds_par (i := 0) (j := 1) rfl sc_p_own_common.nd rfl rfl (by decide) rfl rfl (d_var (i := 1) rfl (vis_by rfl)) (d_op oMod (d_var (i := 0) rfl (vis_by rfl)) (d_var (i := 1) rfl (vis_by rfl))) rfl))) (ds_one (ds_ret (d_var (i := 0) rfl (vis_by rfl)))))
theorem ok_p_is_fraction (F : Fct K mg A) {P_p_is_whole : DP} (G_p_is_whole : FnG P w K mg base 1 A.f_p_is_whole A.d_p_is_whole ["thing"] (spD K 1 P_p_is_whole)) (l_p_is_whole : ∀ rs C k e, P_p_is_whole rs C k e → rs.length = 1) {P_p_own_common : DP} (G_p_own_common : FnG P w K mg base 1 A.f_p_own_common A.d_p_own_common ["one", "other"] (spD K 2 P_p_own_common)) (l_p_own_common : ∀ rs C k e, P_p_own_common rs C k e → rs.length = 2)    {p : DP} (hP : ∀ rs C k e, p rs C k e → rs.length = 1 ∧ sem_p_is_fraction K A P_p_is_whole P_p_own_common  (defEnds k) ⟨start3 2 rs, C⟩ (defExc e)) :
    FnG P w K mg base 2 A.f_p_is_fraction A.d_p_is_fraction ["thing"] (spD K 1 p) := by
  refine fnG_def F.f_p_is_fraction sc_p_is_fraction (fun cdv Ar outer s H E hcd hr hgd => ?_) hP
  have tk : Takes (cxOf (L2.CX P w) P w K mg base ["thing", "part"] "is_fraction" (defScope s_p_is_fraction) A.f_p_is_fraction cdv Ar outer s H E) (fun cls d _ H2 => E cls d H2) := takes_of rfl rfl rfl rfl
  have po : PassesOwn (model P w) (cxOf (L2.CX P w) P w K mg base ["thing", "part"] "is_fraction" (defScope s_p_is_fraction) A.f_p_is_fraction cdv Ar outer s H E).A (cxOf (L2.CX P w) P w K mg base ["thing", "part"] "is_fraction" (defScope s_p_is_fraction) A.f_p_is_fraction cdv Ar outer s H E).env (cxOf (L2.CX P w) P w K mg base ["thing", "part"] "is_fraction" (defScope s_p_is_fraction) A.f_p_is_fraction cdv Ar outer s H E).xe := passes_of rfl
  unfold sem_p_is_fraction
  exact (ds_cons (ds_if (DW.dt (dw_or (d_not (d_truth (d_callB cIsiF rfl F.z_isinstance bt_isinstance (da_cons (d_var (i := 0) rfl (vis_by rfl)) (da_cons (d_bltn rfl F.z_tuple bt_tuple rfl) da_nil))))) (dw_or (d_cmpT (oNeE (hu64 hr)) (d_callB cLen rfl F.z_len bt_len (da_cons (d_var (i := 0) rfl (vis_by rfl)) da_nil)) d_int (nomark _)) (dw_or1 (d_not (d_truth (d_callB (cAll rfl) rfl F.z_all bt_all (da_cons (d_fz (d_lcI (own := [("part", 1)]) rfl sc_p_is_fraction.nd (di_seq (d_var (i := 0) rfl (vis_by rfl))) (blk_by rfl) (by decide) (fun _ _ _ _ _ => (dg_name (i := 1) sc_p_is_fraction.nd rfl (loc_by rfl))) (fun _ _ _ _ _ => dps_nil) (fun _ _ _ _ _ => (d_call (kk := 1) G_p_is_whole (hr.mono (by omega)) hgd rfl F.m_p_is_whole F.f_p_is_whole.kp F.b_p_is_whole LamX.takes0 (da_cons (d_var (i := 1) rfl (vis_by rfl)) da_nil) l_p_is_whole)))) da_nil)))))))) (ds_one (ds_ret d_bl)) ds_nil) (ds_one (ds_ret (d_andV (d_cmp oGt (d_ixV (i := 0) rfl (vis_by rfl) d_int (fun _ _ => rfl)) d_int (nomark _)) (d_one (d_cmp (oEqE (hu64 hr)) (d_call (kk := 1) G_p_own_common (hr.mono (by omega)) hgd rfl F.m_p_own_common F.f_p_own_common.kp F.b_p_own_common tk (da_cons (d_callB cAbs rfl F.z_abs bt_abs (da_cons (d_ixV (i := 0) rfl (vis_by rfl) d_int (fun _ _ => rfl)) da_nil)) (da_cons (d_ixV (i := 0) rfl (vis_by rfl) d_int (fun _ _ => rfl)) da_nil)) l_p_own_common) d_int (nomark _)))))))
theorem ok_p_own_shape (F : Fct K mg A)     {p : DP} (hP : ∀ rs C k e, p rs C k e → rs.length = 1 ∧ sem_p_own_shape K A   (defEnds k) ⟨start3 5 rs, C⟩ (defExc e)) :
    FnG P w K mg base 1 A.f_p_own_shape A.d_p_own_shape ["thing"] (spD K 1 p) := by
  refine fnG_def F.f_p_own_shape sc_p_own_shape (fun cdv Ar outer s H E hcd hr hgd => ?_) hP
  have tk : Takes (cxOf (L2.CX P w) P w K mg base ["thing", "wide", "others", "row", "other"] "own_shape" (defScope s_p_own_shape) A.f_p_own_shape cdv Ar outer s H E) (fun cls d _ H2 => E cls d H2) := takes_of rfl rfl rfl rfl
  have po : PassesOwn (model P w) (cxOf (L2.CX P w) P w K mg base ["thing", "wide", "others", "row", "other"] "own_shape" (defScope s_p_own_shape) A.f_p_own_shape cdv Ar outer s H E).A (cxOf (L2.CX P w) P w K mg base ["thing", "wide", "others", "row", "other"] "own_shape" (defScope s_p_own_shape) A.f_p_own_shape cdv Ar outer s H E).env (cxOf (L2.CX P w) P w K mg base ["thing", "wide", "others", "row", "other"] "own_shape" (defScope s_p_own_shape) A.f_p_own_shape cdv Ar outer s H E).xe := passes_of rfl
  unfold sem_p_own_shape
  exact (ds_cons (ds_if (DW.dt (dw_or (d_not (d_truth (d_callB cIsiF rfl F.z_isinstance bt_isinstance (da_cons (d_var (i := 0) rfl (vis_by rfl)) (da_cons (d_bltn rfl F.z_tuple bt_tuple rfl) da_nil))))) (dw_or1 (d_not (d_chainT oLe oLe d_int (d_callB cLen rfl F.z_len bt_len (da_cons (d_var (i := 0) rfl (vis_by rfl)) da_nil)) (d_globI rfl F.kv_MOST_SIDE)))))) (ds_one (ds_ret d_non)) ds_nil) (ds_cons (ds_if (DW.dt (dw_or (d_not (d_truth (d_callB cIsiF rfl F.z_isinstance bt_isinstance (da_cons (d_ixV (i := 0) rfl (vis_by rfl) d_int (fun _ _ => rfl)) (da_cons (d_bltn rfl F.z_tuple bt_tuple rfl) da_nil))))) (dw_or1 (d_not (d_chainT oLe oLe d_int (d_callB cLen rfl F.z_len bt_len (da_cons (d_ixV (i := 0) rfl (vis_by rfl) d_int (fun _ _ => rfl)) da_nil)) (d_globI rfl F.kv_MOST_SIDE)))))) (ds_one (ds_ret d_non)) ds_nil) (ds_cons (ds_star (i := 1) (j := 2) rfl sc_p_own_shape.nd rfl rfl (loc_by rfl) (loc_by rfl) (d_fz (d_lcI (own := [("row", 3)]) rfl sc_p_own_shape.nd (di_seq (d_var (i := 0) rfl (vis_by rfl))) (blk_by rfl) (by decide) (fun _ _ _ _ _ => (dg_name (i := 3) sc_p_own_shape.nd rfl (loc_by rfl))) (fun _ _ _ _ _ => dps_nil) (fun _ _ _ _ _ => (d_ifE (d_truth (d_callB cIsiF rfl F.z_isinstance bt_isinstance (da_cons (d_var (i := 3) rfl (vis_by rfl)) (da_cons (d_bltn rfl F.z_tuple bt_tuple rfl) da_nil)))) (d_callB cLen rfl F.z_len bt_len (da_cons (d_var (i := 3) rfl (vis_by rfl)) da_nil)) d_int))))) (ds_one (ds_ret (d_ifE (d_truth (d_callB (cAll rfl) rfl F.z_all bt_all (da_cons (d_fz (d_lcI (own := [("other", 4)]) rfl sc_p_own_shape.nd (di_seq (d_var (i := 2) rfl (vis_by rfl))) (blk_by rfl) (by decide) (fun _ _ _ _ _ => (dg_name (i := 4) sc_p_own_shape.nd rfl (loc_by rfl))) (fun _ _ _ _ _ => dps_nil) (fun _ _ _ _ _ => (d_cmp (oEqE (hu64 hr)) (d_var (i := 4) rfl (vis_by rfl)) (d_var (i := 1) rfl (vis_by rfl)) (nomark _))))) da_nil))) (d_tup (da_cons (d_var (i := 1) rfl (vis_by rfl)) (da_cons (d_callB cLen rfl F.z_len bt_len (da_cons (d_var (i := 0) rfl (vis_by rfl)) da_nil)) da_nil))) d_non))))))
theorem ok_p_shape_spots (F : Fct K mg A)     {p : DP} (hP : ∀ rs C k e, p rs C k e → rs.length = 1 ∧ sem_p_shape_spots K A   (defEnds k) ⟨start3 5 rs, C⟩ (defExc e)) :
    FnG P w K mg base 1 A.f_p_shape_spots A.d_p_shape_spots ["shape"] (spD K 1 p) := by
  refine fnG_def F.f_p_shape_spots sc_p_shape_spots (fun cdv Ar outer s H E hcd hr hgd => ?_) hP
  have tk : Takes (cxOf (L2.CX P w) P w K mg base ["shape", "wide", "high", "x", "y"] "shape_spots" (defScope s_p_shape_spots) A.f_p_shape_spots cdv Ar outer s H E) (fun cls d _ H2 => E cls d H2) := takes_of rfl rfl rfl rfl
  have po : PassesOwn (model P w) (cxOf (L2.CX P w) P w K mg base ["shape", "wide", "high", "x", "y"] "shape_spots" (defScope s_p_shape_spots) A.f_p_shape_spots cdv Ar outer s H E).A (cxOf (L2.CX P w) P w K mg base ["shape", "wide", "high", "x", "y"] "shape_spots" (defScope s_p_shape_spots) A.f_p_shape_spots cdv Ar outer s H E).env (cxOf (L2.CX P w) P w K mg base ["shape", "wide", "high", "x", "y"] "shape_spots" (defScope s_p_shape_spots) A.f_p_shape_spots cdv Ar outer s H E).xe := passes_of rfl
  unfold sem_p_shape_spots
  exact (ds_cons (ds_asg (d_var (i := 0) rfl (vis_by rfl)) (dg_tup rfl (dgs_cons (dg_name (i := 1) sc_p_shape_spots.nd rfl (loc_by rfl)) (dgs_cons (dg_name (i := 2) sc_p_shape_spots.nd rfl (loc_by rfl)) dgs_nil)))) (ds_one (ds_ret (d_fz (d_lc2 (own := [("x", 3), ("y", 4)]) (vs1 := [4]) rfl sc_p_shape_spots.nd (di_range1 rfl F.z_range (d_var (i := 1) rfl (vis_by rfl))) (blk_by rfl) (by decide) (by decide) (by decide) (fun _ _ _ _ _ => (dg_name (i := 3) sc_p_shape_spots.nd rfl (loc_by rfl))) (fun _ _ _ _ _ => dps_nil) (fun _ _ _ _ _ => (di_range1 rfl F.z_range (d_var (i := 2) rfl (vis_by rfl)))) (fun _ _ _ _ _ => (dg_name (i := 4) sc_p_shape_spots.nd rfl (loc_by rfl))) (fun _ _ _ _ _ => dps_nil) (fun _ _ _ _ _ => (d_tup (da_cons (d_var (i := 3) rfl (vis_by rfl)) (da_cons (d_var (i := 4) rfl (vis_by rfl)) da_nil)))))))))
theorem ok_p_is_on_rim (F : Fct K mg A)     {p : DP} (hP : ∀ rs C k e, p rs C k e → rs.length = 2 ∧ sem_p_is_on_rim K A   (defEnds k) ⟨start3 2 rs, C⟩ (defExc e)) :
    FnG P w K mg base 1 A.f_p_is_on_rim A.d_p_is_on_rim ["shape", "spot"] (spD K 2 p) := by
  refine fnG_def F.f_p_is_on_rim sc_p_is_on_rim (fun cdv Ar outer s H E hcd hr hgd => ?_) hP
  have tk : Takes (cxOf (L2.CX P w) P w K mg base ["shape", "spot"] "is_on_rim" (defScope s_p_is_on_rim) A.f_p_is_on_rim cdv Ar outer s H E) (fun cls d _ H2 => E cls d H2) := takes_of rfl rfl rfl rfl
  have po : PassesOwn (model P w) (cxOf (L2.CX P w) P w K mg base ["shape", "spot"] "is_on_rim" (defScope s_p_is_on_rim) A.f_p_is_on_rim cdv Ar outer s H E).A (cxOf (L2.CX P w) P w K mg base ["shape", "spot"] "is_on_rim" (defScope s_p_is_on_rim) A.f_p_is_on_rim cdv Ar outer s H E).env (cxOf (L2.CX P w) P w K mg base ["shape", "spot"] "is_on_rim" (defScope s_p_is_on_rim) A.f_p_is_on_rim cdv Ar outer s H E).xe := passes_of rfl
  unfold sem_p_is_on_rim
  exact (ds_one (ds_ret (d_orV (d_cmp oIn (d_ixV (i := 1) rfl (vis_by rfl) d_int (fun _ _ => rfl)) (d_tup (da_cons d_int (da_cons (d_op oSub (d_ixV (i := 0) rfl (vis_by rfl) d_int (fun _ _ => rfl)) d_int) da_nil))) rfl) (d_one (d_cmp oIn (d_ixV (i := 1) rfl (vis_by rfl) d_int (fun _ _ => rfl)) (d_tup (da_cons d_int (da_cons (d_op oSub (d_ixV (i := 0) rfl (vis_by rfl) d_int (fun _ _ => rfl)) d_int) da_nil))) rfl)))))
theorem ok_p_at (F : Fct K mg A)     {p : DP} (hP : ∀ rs C k e, p rs C k e → rs.length = 2 ∧ sem_p_at K A   (defEnds k) ⟨start3 2 rs, C⟩ (defExc e)) :
    FnG P w K mg base 1 A.f_p_at A.d_p_at ["rows", "spot"] (spD K 2 p) := by
  refine fnG_def F.f_p_at sc_p_at (fun cdv Ar outer s H E hcd hr hgd => ?_) hP
  have tk : Takes (cxOf (L2.CX P w) P w K mg base ["rows", "spot"] "at" (defScope s_p_at) A.f_p_at cdv Ar outer s H E) (fun cls d _ H2 => E cls d H2) := takes_of rfl rfl rfl rfl
  have po : PassesOwn (model P w) (cxOf (L2.CX P w) P w K mg base ["rows", "spot"] "at" (defScope s_p_at) A.f_p_at cdv Ar outer s H E).A (cxOf (L2.CX P w) P w K mg base ["rows", "spot"] "at" (defScope s_p_at) A.f_p_at cdv Ar outer s H E).env (cxOf (L2.CX P w) P w K mg base ["rows", "spot"] "at" (defScope s_p_at) A.f_p_at cdv Ar outer s H E).xe := passes_of rfl
  unfold sem_p_at
  exact (ds_one (ds_ret (d_ix (d_ixV (i := 0) rfl (vis_by rfl) (d_ixV (i := 1) rfl (vis_by rfl) d_int (fun _ _ => rfl)) (fun _ _ => rfl)) (d_ixV (i := 1) rfl (vis_by rfl) d_int (fun _ _ => rfl)) (fun _ _ => rfl))))
theorem ok_p_exchanged (F : Fct K mg A)     {p : DP} (hP : ∀ rs C k e, p rs C k e → rs.length = 3 ∧ sem_p_exchanged K A   (defEnds k) ⟨start3 5 rs, C⟩ (defExc e)) :
    FnG P w K mg base 1 A.f_p_exchanged A.d_p_exchanged ["rows", "spot", "thing"] (spD K 3 p) := by
  refine fnG_def F.f_p_exchanged sc_p_exchanged (fun cdv Ar outer s H E hcd hr hgd => ?_) hP
  have tk : Takes (cxOf (L2.CX P w) P w K mg base ["rows", "spot", "thing", "x", "y"] "exchanged" (defScope s_p_exchanged) A.f_p_exchanged cdv Ar outer s H E) (fun cls d _ H2 => E cls d H2) := takes_of rfl rfl rfl rfl
  have po : PassesOwn (model P w) (cxOf (L2.CX P w) P w K mg base ["rows", "spot", "thing", "x", "y"] "exchanged" (defScope s_p_exchanged) A.f_p_exchanged cdv Ar outer s H E).A (cxOf (L2.CX P w) P w K mg base ["rows", "spot", "thing", "x", "y"] "exchanged" (defScope s_p_exchanged) A.f_p_exchanged cdv Ar outer s H E).env (cxOf (L2.CX P w) P w K mg base ["rows", "spot", "thing", "x", "y"] "exchanged" (defScope s_p_exchanged) A.f_p_exchanged cdv Ar outer s H E).xe := passes_of rfl
  unfold sem_p_exchanged
  exact (ds_cons (ds_asg (d_var (i := 1) rfl (vis_by rfl)) (dg_tup rfl (dgs_cons (dg_name (i := 3) sc_p_exchanged.nd rfl (loc_by rfl)) (dgs_cons (dg_name (i := 4) sc_p_exchanged.nd rfl (loc_by rfl)) dgs_nil)))) (ds_one (ds_ret (d_op oAddB (d_op oAddB (d_slV (i := 0) rfl (vis_by rfl) do_none (do_some (d_var (i := 4) rfl (vis_by rfl))) do_none) (d_tup (da_cons (d_op oAddB (d_op oAddB (d_slG (d_ixV (i := 0) rfl (vis_by rfl) (d_var (i := 4) rfl (vis_by rfl)) (fun _ _ => rfl)) do_none (do_some (d_var (i := 3) rfl (vis_by rfl))) do_none) (d_tup (da_cons (d_var (i := 2) rfl (vis_by rfl)) da_nil))) (d_slG (d_ixV (i := 0) rfl (vis_by rfl) (d_var (i := 4) rfl (vis_by rfl)) (fun _ _ => rfl)) (do_some (d_op oAddB (d_var (i := 3) rfl (vis_by rfl)) d_int)) do_none do_none)) da_nil))) (d_slV (i := 0) rfl (vis_by rfl) (do_some (d_op oAddB (d_var (i := 4) rfl (vis_by rfl)) d_int)) do_none do_none)))))
theorem ok_p_are_numbers (F : Fct K mg A) {P_p_at : DP} (G_p_at : FnG P w K mg base 1 A.f_p_at A.d_p_at ["rows", "spot"] (spD K 2 P_p_at)) (l_p_at : ∀ rs C k e, P_p_at rs C k e → rs.length = 2) {P_p_is_on_rim : DP} (G_p_is_on_rim : FnG P w K mg base 1 A.f_p_is_on_rim A.d_p_is_on_rim ["shape", "spot"] (spD K 2 P_p_is_on_rim)) (l_p_is_on_rim : ∀ rs C k e, P_p_is_on_rim rs C k e → rs.length = 2) {P_p_is_whole : DP} (G_p_is_whole : FnG P w K mg base 1 A.f_p_is_whole A.d_p_is_whole ["thing"] (spD K 1 P_p_is_whole)) (l_p_is_whole : ∀ rs C k e, P_p_is_whole rs C k e → rs.length = 1) {P_p_shape_spots : DP} (G_p_shape_spots : FnG P w K mg base 1 A.f_p_shape_spots A.d_p_shape_spots ["shape"] (spD K 1 P_p_shape_spots)) (l_p_shape_spots : ∀ rs C k e, P_p_shape_spots rs C k e → rs.length = 1)    {p : DP} (hP : ∀ rs C k e, p rs C k e → rs.length = 2 ∧ sem_p_are_numbers K A P_p_at P_p_is_on_rim P_p_is_whole P_p_shape_spots  (defEnds k) ⟨start3 4 rs, C⟩ (defExc e)) :
    FnG P w K mg base 2 A.f_p_are_numbers A.d_p_are_numbers ["rows", "shape"] (spD K 2 p) := by
  refine fnG_def F.f_p_are_numbers sc_p_are_numbers (fun cdv Ar outer s H E hcd hr hgd => ?_) hP
  have tk : Takes (cxOf (L2.CX P w) P w K mg base ["rows", "shape", "spot", "height"] "are_numbers" (defScope s_p_are_numbers) A.f_p_are_numbers cdv Ar outer s H E) (fun cls d _ H2 => E cls d H2) := takes_of rfl rfl rfl rfl
  have po : PassesOwn (model P w) (cxOf (L2.CX P w) P w K mg base ["rows", "shape", "spot", "height"] "are_numbers" (defScope s_p_are_numbers) A.f_p_are_numbers cdv Ar outer s H E).A (cxOf (L2.CX P w) P w K mg base ["rows", "shape", "spot", "height"] "are_numbers" (defScope s_p_are_numbers) A.f_p_are_numbers cdv Ar outer s H E).env (cxOf (L2.CX P w) P w K mg base ["rows", "shape", "spot", "height"] "are_numbers" (defScope s_p_are_numbers) A.f_p_are_numbers cdv Ar outer s H E).xe := passes_of rfl
  unfold sem_p_are_numbers
  exact (ds_cons (ds_forI po rfl (di_seq (d_call (kk := 1) G_p_shape_spots (hr.mono (by omega)) hgd rfl F.m_p_shape_spots F.f_p_shape_spots.kp F.b_p_shape_spots tk (da_cons (d_var (i := 1) rfl (vis_by rfl)) da_nil) l_p_shape_spots)) (dg_name (i := 2) sc_p_are_numbers.nd rfl (loc_by rfl)) (ds_cons (ds_set (i := 3) sc_p_are_numbers.nd rfl (loc_by rfl) (d_call (kk := 1) G_p_at (hr.mono (by omega)) hgd rfl F.m_p_at F.f_p_at.kp F.b_p_at tk (da_cons (d_var (i := 0) rfl (vis_by rfl)) (da_cons (d_var (i := 2) rfl (vis_by rfl)) da_nil)) l_p_at)) (ds_one (ds_if (DW.dt (dw_or (d_not (d_truth (d_call (kk := 1) G_p_is_whole (hr.mono (by omega)) hgd rfl F.m_p_is_whole F.f_p_is_whole.kp F.b_p_is_whole tk (da_cons (d_var (i := 3) rfl (vis_by rfl)) da_nil) l_p_is_whole))) (dw_or1 (DW.dt (dw_and (d_truth (d_call (kk := 1) G_p_is_on_rim (hr.mono (by omega)) hgd rfl F.m_p_is_on_rim F.f_p_is_on_rim.kp F.b_p_is_on_rim tk (da_cons (d_var (i := 1) rfl (vis_by rfl)) (da_cons (d_var (i := 2) rfl (vis_by rfl)) da_nil)) l_p_is_on_rim)) (dw_and1 (d_cmpT oGt (d_callB cAbs rfl F.z_abs bt_abs (da_cons (d_var (i := 3) rfl (vis_by rfl)) da_nil)) (d_globI rfl F.kv_MOST_RIM) (nomark _)))))))) (ds_one (ds_ret d_bl)) ds_nil)))) (ds_one (ds_ret d_bl)))
theorem ok_p_are_steps (F : Fct K mg A) {P_p_shape_spots : DP} (G_p_shape_spots : FnG P w K mg base 1 A.f_p_shape_spots A.d_p_shape_spots ["shape"] (spD K 1 P_p_shape_spots)) (l_p_shape_spots : ∀ rs C k e, P_p_shape_spots rs C k e → rs.length = 1) {P_p_own_shape : DP} (G_p_own_shape : FnG P w K mg base 1 A.f_p_own_shape A.d_p_own_shape ["thing"] (spD K 1 P_p_own_shape)) (l_p_own_shape : ∀ rs C k e, P_p_own_shape rs C k e → rs.length = 1)    {p : DP} (hP : ∀ rs C k e, p rs C k e → rs.length = 1 ∧ sem_p_are_steps K A P_p_shape_spots P_p_own_shape  (defEnds k) ⟨start3 3 rs, C⟩ (defExc e)) :
    FnG P w K mg base 2 A.f_p_are_steps A.d_p_are_steps ["heights"] (spD K 1 p) := by
  refine fnG_def F.f_p_are_steps sc_p_are_steps (fun cdv Ar outer s H E hcd hr hgd => ?_) hP
  have tk : Takes (cxOf (L2.CX P w) P w K mg base ["heights", "x", "y"] "are_steps" (defScope s_p_are_steps) A.f_p_are_steps cdv Ar outer s H E) (fun cls d _ H2 => E cls d H2) := takes_of rfl rfl rfl rfl
  have po : PassesOwn (model P w) (cxOf (L2.CX P w) P w K mg base ["heights", "x", "y"] "are_steps" (defScope s_p_are_steps) A.f_p_are_steps cdv Ar outer s H E).A (cxOf (L2.CX P w) P w K mg base ["heights", "x", "y"] "are_steps" (defScope s_p_are_steps) A.f_p_are_steps cdv Ar outer s H E).env (cxOf (L2.CX P w) P w K mg base ["heights", "x", "y"] "are_steps" (defScope s_p_are_steps) A.f_p_are_steps cdv Ar outer s H E).xe := passes_of rfl
  unfold sem_p_are_steps
  exact (ds_cons (ds_forI po rfl (di_seq (d_call (kk := 1) G_p_shape_spots (hr.mono (by omega)) hgd rfl F.m_p_shape_spots F.f_p_shape_spots.kp F.b_p_shape_spots tk (da_cons (d_call (kk := 1) G_p_own_shape (hr.mono (by omega)) hgd rfl F.m_p_own_shape F.f_p_own_shape.kp F.b_p_own_shape tk (da_cons (d_var (i := 0) rfl (vis_by rfl)) da_nil) l_p_own_shape) da_nil) l_p_shape_spots)) (dg_tup rfl (dgs_cons (dg_name (i := 1) sc_p_are_steps.nd rfl (loc_by rfl)) (dgs_cons (dg_name (i := 2) sc_p_are_steps.nd rfl (loc_by rfl)) dgs_nil))) (ds_cons (ds_if (d_cmpT (oNeE (hu64 hr)) (d_op oMod (d_op oSub (d_op oSub (d_ix (d_ixV (i := 0) rfl (vis_by rfl) (d_var (i := 2) rfl (vis_by rfl)) (fun _ _ => rfl)) (d_var (i := 1) rfl (vis_by rfl)) (fun _ _ => rfl)) (d_var (i := 1) rfl (vis_by rfl))) (d_var (i := 2) rfl (vis_by rfl))) d_int) d_int (nomark _)) (ds_one (ds_ret d_bl)) ds_nil) (ds_cons (ds_if (DW.dt (dw_and (d_cmpT oGt (d_var (i := 1) rfl (vis_by rfl)) d_int (nomark _)) (dw_and1 (d_cmpT (oNeE (hu64 hr)) (d_callB cAbs rfl F.z_abs bt_abs (da_cons (d_op oSub (d_ix (d_ixV (i := 0) rfl (vis_by rfl) (d_var (i := 2) rfl (vis_by rfl)) (fun _ _ => rfl)) (d_var (i := 1) rfl (vis_by rfl)) (fun _ _ => rfl)) (d_ix (d_ixV (i := 0) rfl (vis_by rfl) (d_var (i := 2) rfl (vis_by rfl)) (fun _ _ => rfl)) (d_op oSub (d_var (i := 1) rfl (vis_by rfl)) d_int) (fun _ _ => rfl))) da_nil)) d_int (nomark _))))) (ds_one (ds_ret d_bl)) ds_nil) (ds_one (ds_if (DW.dt (dw_and (d_cmpT oGt (d_var (i := 2) rfl (vis_by rfl)) d_int (nomark _)) (dw_and1 (d_cmpT (oNeE (hu64 hr)) (d_callB cAbs rfl F.z_abs bt_abs (da_cons (d_op oSub (d_ix (d_ixV (i := 0) rfl (vis_by rfl) (d_var (i := 2) rfl (vis_by rfl)) (fun _ _ => rfl)) (d_var (i := 1) rfl (vis_by rfl)) (fun _ _ => rfl)) (d_ix (d_ixV (i := 0) rfl (vis_by rfl) (d_op oSub (d_var (i := 2) rfl (vis_by rfl)) d_int) (fun _ _ => rfl)) (d_var (i := 1) rfl (vis_by rfl)) (fun _ _ => rfl))) da_nil)) d_int (nomark _))))) (ds_one (ds_ret d_bl)) ds_nil))))) (ds_one (ds_ret d_bl)))
theorem ok_p_are_worths (F : Fct K mg A) {P_p_own_shape : DP} (G_p_own_shape : FnG P w K mg base 1 A.f_p_own_shape A.d_p_own_shape ["thing"] (spD K 1 P_p_own_shape)) (l_p_own_shape : ∀ rs C k e, P_p_own_shape rs C k e → rs.length = 1) {P_p_is_fraction : DP} (G_p_is_fraction : FnG P w K mg base 2 A.f_p_is_fraction A.d_p_is_fraction ["thing"] (spD K 1 P_p_is_fraction)) (l_p_is_fraction : ∀ rs C k e, P_p_is_fraction rs C k e → rs.length = 1)    {p : DP} (hP : ∀ rs C k e, p rs C k e → rs.length = 2 ∧ sem_p_are_worths K A P_p_own_shape P_p_is_fraction  (defEnds k) ⟨start3 4 rs, C⟩ (defExc e)) :
    FnG P w K mg base 3 A.f_p_are_worths A.d_p_are_worths ["thing", "shape"] (spD K 2 p) := by
  refine fnG_def F.f_p_are_worths sc_p_are_worths (fun cdv Ar outer s H E hcd hr hgd => ?_) hP
  have tk : Takes (cxOf (L2.CX P w) P w K mg base ["thing", "shape", "row", "worth"] "are_worths" (defScope s_p_are_worths) A.f_p_are_worths cdv Ar outer s H E) (fun cls d _ H2 => E cls d H2) := takes_of rfl rfl rfl rfl
  have po : PassesOwn (model P w) (cxOf (L2.CX P w) P w K mg base ["thing", "shape", "row", "worth"] "are_worths" (defScope s_p_are_worths) A.f_p_are_worths cdv Ar outer s H E).A (cxOf (L2.CX P w) P w K mg base ["thing", "shape", "row", "worth"] "are_worths" (defScope s_p_are_worths) A.f_p_are_worths cdv Ar outer s H E).env (cxOf (L2.CX P w) P w K mg base ["thing", "shape", "row", "worth"] "are_worths" (defScope s_p_are_worths) A.f_p_are_worths cdv Ar outer s H E).xe := passes_of rfl
  unfold sem_p_are_worths
  exact (ds_cons (ds_if (d_cmpT (oNeE (hu64 hr)) (d_call (kk := 1) G_p_own_shape (hr.mono (by omega)) hgd rfl F.m_p_own_shape F.f_p_own_shape.kp F.b_p_own_shape tk (da_cons (d_var (i := 0) rfl (vis_by rfl)) da_nil) l_p_own_shape) (d_var (i := 1) rfl (vis_by rfl)) (nomark _)) (ds_one (ds_ret d_bl)) ds_nil) (ds_one (ds_ret (d_callB (cAll rfl) rfl F.z_all bt_all (da_cons (d_fz (d_lc2 (own := [("row", 2), ("worth", 3)]) (vs1 := [3]) rfl sc_p_are_worths.nd (di_seq (d_var (i := 0) rfl (vis_by rfl))) (blk_by rfl) (by decide) (by decide) (by decide) (fun _ _ _ _ _ => (dg_name (i := 2) sc_p_are_worths.nd rfl (loc_by rfl))) (fun _ _ _ _ _ => dps_nil) (fun _ _ _ _ _ => (di_seq (d_var (i := 2) rfl (vis_by rfl)))) (fun _ _ _ _ _ => (dg_name (i := 3) sc_p_are_worths.nd rfl (loc_by rfl))) (fun _ _ _ _ _ => dps_nil) (fun _ _ _ _ _ => (d_andV (d_call (kk := 2) G_p_is_fraction (hr.mono (by omega)) hgd rfl F.m_p_is_fraction F.f_p_is_fraction.kp F.b_p_is_fraction LamX.takes0 (da_cons (d_var (i := 3) rfl (vis_by rfl)) da_nil) l_p_is_fraction) (d_one (d_cmp (oNeE (hu64 hr)) (d_ixV (i := 3) rfl (vis_by rfl) d_int (fun _ _ => rfl)) d_int (nomark _))))))) da_nil)))))
theorem ok_p_field_faults (F : Fct K mg A) {P_p_own_shape : DP} (G_p_own_shape : FnG P w K mg base 1 A.f_p_own_shape A.d_p_own_shape ["thing"] (spD K 1 P_p_own_shape)) (l_p_own_shape : ∀ rs C k e, P_p_own_shape rs C k e → rs.length = 1) {P_p_are_numbers : DP} (G_p_are_numbers : FnG P w K mg base 2 A.f_p_are_numbers A.d_p_are_numbers ["rows", "shape"] (spD K 2 P_p_are_numbers)) (l_p_are_numbers : ∀ rs C k e, P_p_are_numbers rs C k e → rs.length = 2) {P_p_are_steps : DP} (G_p_are_steps : FnG P w K mg base 2 A.f_p_are_steps A.d_p_are_steps ["heights"] (spD K 1 P_p_are_steps)) (l_p_are_steps : ∀ rs C k e, P_p_are_steps rs C k e → rs.length = 1) {P_p_are_worths : DP} (G_p_are_worths : FnG P w K mg base 3 A.f_p_are_worths A.d_p_are_worths ["thing", "shape"] (spD K 2 P_p_are_worths)) (l_p_are_worths : ∀ rs C k e, P_p_are_worths rs C k e → rs.length = 2)    {p : DP} (hP : ∀ rs C k e, p rs C k e → rs.length = 1 ∧ sem_p_field_faults K A P_p_own_shape P_p_are_numbers P_p_are_steps P_p_are_worths  (defEnds k) ⟨start3 4 rs, C⟩ (defExc e)) :
    FnG P w K mg base 4 A.f_p_field_faults A.d_p_field_faults ["thing"] (spD K 1 p) := by
  refine fnG_def F.f_p_field_faults sc_p_field_faults (fun cdv Ar outer s H E hcd hr hgd => ?_) hP
  have tk : Takes (cxOf (L2.CX P w) P w K mg base ["thing", "heights", "worths", "shape"] "field_faults" (defScope s_p_field_faults) A.f_p_field_faults cdv Ar outer s H E) (fun cls d _ H2 => E cls d H2) := takes_of rfl rfl rfl rfl
  have po : PassesOwn (model P w) (cxOf (L2.CX P w) P w K mg base ["thing", "heights", "worths", "shape"] "field_faults" (defScope s_p_field_faults) A.f_p_field_faults cdv Ar outer s H E).A (cxOf (L2.CX P w) P w K mg base ["thing", "heights", "worths", "shape"] "field_faults" (defScope s_p_field_faults) A.f_p_field_faults cdv Ar outer s H E).env (cxOf (L2.CX P w) P w K mg base ["thing", "heights", "worths", "shape"] "field_faults" (defScope s_p_field_faults) A.f_p_field_faults cdv Ar outer s H E).xe := passes_of rfl
  unfold sem_p_field_faults
  exact (ds_cons (ds_if (DW.dt (dw_or (d_not (d_truth (d_callB cIsiF rfl F.z_isinstance bt_isinstance (da_cons (d_var (i := 0) rfl (vis_by rfl)) (da_cons (d_bltn rfl F.z_tuple bt_tuple rfl) da_nil))))) (dw_or1 (d_cmpT (oNeE (hu64 hr)) (d_callB cLen rfl F.z_len bt_len (da_cons (d_var (i := 0) rfl (vis_by rfl)) da_nil)) d_int (nomark _))))) (ds_one (ds_ret (d_fz (d_lst (da_cons d_non da_nil))))) ds_nil) (ds_cons (ds_asg (d_var (i := 0) rfl (vis_by rfl)) (dg_tup rfl (dgs_cons (dg_name (i := 1) sc_p_field_faults.nd rfl (loc_by rfl)) (dgs_cons (dg_name (i := 2) sc_p_field_faults.nd rfl (loc_by rfl)) dgs_nil)))) (ds_cons (ds_set (i := 3) sc_p_field_faults.nd rfl (loc_by rfl) (d_call (kk := 1) G_p_own_shape (hr.mono (by omega)) hgd rfl F.m_p_own_shape F.f_p_own_shape.kp F.b_p_own_shape tk (da_cons (d_var (i := 1) rfl (vis_by rfl)) da_nil) l_p_own_shape)) (ds_cons (ds_if (DW.dt (dw_or (d_cmpT oIs2 (d_var (i := 3) rfl (vis_by rfl)) d_non (nomark _)) (dw_or1 (d_not (d_truth (d_call (kk := 2) G_p_are_numbers (hr.mono (by omega)) hgd rfl F.m_p_are_numbers F.f_p_are_numbers.kp F.b_p_are_numbers tk (da_cons (d_var (i := 1) rfl (vis_by rfl)) (da_cons (d_var (i := 3) rfl (vis_by rfl)) da_nil)) l_p_are_numbers)))))) (ds_one (ds_ret (d_fz (d_lst (da_cons d_str da_nil))))) ds_nil) (ds_cons (ds_if (d_not (d_truth (d_call (kk := 2) G_p_are_steps (hr.mono (by omega)) hgd rfl F.m_p_are_steps F.f_p_are_steps.kp F.b_p_are_steps tk (da_cons (d_var (i := 1) rfl (vis_by rfl)) da_nil) l_p_are_steps))) (ds_one (ds_ret (d_fz (d_lst (da_cons d_str da_nil))))) ds_nil) (ds_one (ds_ret (d_ifE (d_truth (d_call (kk := 3) G_p_are_worths (hr.mono (by omega)) hgd rfl F.m_p_are_worths F.f_p_are_worths.kp F.b_p_are_worths tk (da_cons (d_var (i := 2) rfl (vis_by rfl)) (da_cons (d_var (i := 3) rfl (vis_by rfl)) da_nil)) l_p_are_worths)) (d_fz (d_lst da_nil)) (d_fz (d_lst (da_cons d_str da_nil)))))))))))
theorem ok_p_need_field (F : Fct K mg A) {P_p_field_faults : DP} (G_p_field_faults : FnG P w K mg base 4 A.f_p_field_faults A.d_p_field_faults ["thing"] (spD K 1 P_p_field_faults)) (l_p_field_faults : ∀ rs C k e, P_p_field_faults rs C k e → rs.length = 1)    {p : DP} (hP : ∀ rs C k e, p rs C k e → rs.length = 1 ∧ sem_p_need_field K A P_p_field_faults  (defEnds k) ⟨start3 2 rs, C⟩ (defExc e)) :
    FnG P w K mg base 5 A.f_p_need_field A.d_p_need_field ["thing"] (spD K 1 p) := by
  refine fnG_def F.f_p_need_field sc_p_need_field (fun cdv Ar outer s H E hcd hr hgd => ?_) hP
  have tk : Takes (cxOf (L2.CX P w) P w K mg base ["thing", "place"] "need_field" (defScope s_p_need_field) A.f_p_need_field cdv Ar outer s H E) (fun cls d _ H2 => E cls d H2) := takes_of rfl rfl rfl rfl
  have po : PassesOwn (model P w) (cxOf (L2.CX P w) P w K mg base ["thing", "place"] "need_field" (defScope s_p_need_field) A.f_p_need_field cdv Ar outer s H E).A (cxOf (L2.CX P w) P w K mg base ["thing", "place"] "need_field" (defScope s_p_need_field) A.f_p_need_field cdv Ar outer s H E).env (cxOf (L2.CX P w) P w K mg base ["thing", "place"] "need_field" (defScope s_p_need_field) A.f_p_need_field cdv Ar outer s H E).xe := passes_of rfl
  unfold sem_p_need_field
  exact (ds_one (ds_forI po rfl (di_seq (d_call (kk := 4) G_p_field_faults (hr.mono (by omega)) hgd rfl F.m_p_field_faults F.f_p_field_faults.kp F.b_p_field_faults tk (da_cons (d_var (i := 0) rfl (vis_by rfl)) da_nil) l_p_field_faults)) (dg_name (i := 1) sc_p_need_field.nd rfl (loc_by rfl)) (ds_one (ds_raiseF (n := "place") rfl tk F.ox_BadField F.ic_BadField F.ti_BadField (ini_BadField F) (hr.mono (by omega)) F.bi_BadField rfl F.mc_BadField (d_var (i := 1) rfl (vis_by rfl))))))
theorem ok_p_is_spot_of (F : Fct K mg A) {P_p_is_whole : DP} (G_p_is_whole : FnG P w K mg base 1 A.f_p_is_whole A.d_p_is_whole ["thing"] (spD K 1 P_p_is_whole)) (l_p_is_whole : ∀ rs C k e, P_p_is_whole rs C k e → rs.length = 1)    {p : DP} (hP : ∀ rs C k e, p rs C k e → rs.length = 2 ∧ sem_p_is_spot_of K A P_p_is_whole  (defEnds k) ⟨start3 3 rs, C⟩ (defExc e)) :
    FnG P w K mg base 2 A.f_p_is_spot_of A.d_p_is_spot_of ["shape", "thing"] (spD K 2 p) := by
  refine fnG_def F.f_p_is_spot_of sc_p_is_spot_of (fun cdv Ar outer s H E hcd hr hgd => ?_) hP
  have tk : Takes (cxOf (L2.CX P w) P w K mg base ["shape", "thing", "part"] "is_spot_of" (defScope s_p_is_spot_of) A.f_p_is_spot_of cdv Ar outer s H E) (fun cls d _ H2 => E cls d H2) := takes_of rfl rfl rfl rfl
  have po : PassesOwn (model P w) (cxOf (L2.CX P w) P w K mg base ["shape", "thing", "part"] "is_spot_of" (defScope s_p_is_spot_of) A.f_p_is_spot_of cdv Ar outer s H E).A (cxOf (L2.CX P w) P w K mg base ["shape", "thing", "part"] "is_spot_of" (defScope s_p_is_spot_of) A.f_p_is_spot_of cdv Ar outer s H E).env (cxOf (L2.CX P w) P w K mg base ["shape", "thing", "part"] "is_spot_of" (defScope s_p_is_spot_of) A.f_p_is_spot_of cdv Ar outer s H E).xe := passes_of rfl
  unfold sem_p_is_spot_of
  exact (ds_cons (ds_if (DW.dt (dw_or (d_not (d_truth (d_callB cIsiF rfl F.z_isinstance bt_isinstance (da_cons (d_var (i := 1) rfl (vis_by rfl)) (da_cons (d_bltn rfl F.z_tuple bt_tuple rfl) da_nil))))) (dw_or (d_cmpT (oNeE (hu64 hr)) (d_callB cLen rfl F.z_len bt_len (da_cons (d_var (i := 1) rfl (vis_by rfl)) da_nil)) d_int (nomark _)) (dw_or1 (d_not (d_truth (d_callB (cAll rfl) rfl F.z_all bt_all (da_cons (d_fz (d_lcI (own := [("part", 2)]) rfl sc_p_is_spot_of.nd (di_seq (d_var (i := 1) rfl (vis_by rfl))) (blk_by rfl) (by decide) (fun _ _ _ _ _ => (dg_name (i := 2) sc_p_is_spot_of.nd rfl (loc_by rfl))) (fun _ _ _ _ _ => dps_nil) (fun _ _ _ _ _ => (d_call (kk := 1) G_p_is_whole (hr.mono (by omega)) hgd rfl F.m_p_is_whole F.f_p_is_whole.kp F.b_p_is_whole LamX.takes0 (da_cons (d_var (i := 2) rfl (vis_by rfl)) da_nil) l_p_is_whole)))) da_nil)))))))) (ds_one (ds_ret d_bl)) ds_nil) (ds_one (ds_ret (d_andV (d_chain oLe oLt d_int (d_ixV (i := 1) rfl (vis_by rfl) d_int (fun _ _ => rfl)) (d_ixV (i := 0) rfl (vis_by rfl) d_int (fun _ _ => rfl))) (d_one (d_chain oLe oLt d_int (d_ixV (i := 1) rfl (vis_by rfl) d_int (fun _ _ => rfl)) (d_ixV (i := 0) rfl (vis_by rfl) d_int (fun _ _ => rfl))))))))
theorem ok_p_need_spot (F : Fct K mg A) {P_p_is_spot_of : DP} (G_p_is_spot_of : FnG P w K mg base 2 A.f_p_is_spot_of A.d_p_is_spot_of ["shape", "thing"] (spD K 2 P_p_is_spot_of)) (l_p_is_spot_of : ∀ rs C k e, P_p_is_spot_of rs C k e → rs.length = 2) {P_p_own_shape : DP} (G_p_own_shape : FnG P w K mg base 1 A.f_p_own_shape A.d_p_own_shape ["thing"] (spD K 1 P_p_own_shape)) (l_p_own_shape : ∀ rs C k e, P_p_own_shape rs C k e → rs.length = 1)    {p : DP} (hP : ∀ rs C k e, p rs C k e → rs.length = 2 ∧ sem_p_need_spot K A P_p_is_spot_of P_p_own_shape  (defEnds k) ⟨start3 2 rs, C⟩ (defExc e)) :
    FnG P w K mg base 3 A.f_p_need_spot A.d_p_need_spot ["field", "spot"] (spD K 2 p) := by
  refine fnG_def F.f_p_need_spot sc_p_need_spot (fun cdv Ar outer s H E hcd hr hgd => ?_) hP
  have tk : Takes (cxOf (L2.CX P w) P w K mg base ["field", "spot"] "need_spot" (defScope s_p_need_spot) A.f_p_need_spot cdv Ar outer s H E) (fun cls d _ H2 => E cls d H2) := takes_of rfl rfl rfl rfl
  have po : PassesOwn (model P w) (cxOf (L2.CX P w) P w K mg base ["field", "spot"] "need_spot" (defScope s_p_need_spot) A.f_p_need_spot cdv Ar outer s H E).A (cxOf (L2.CX P w) P w K mg base ["field", "spot"] "need_spot" (defScope s_p_need_spot) A.f_p_need_spot cdv Ar outer s H E).env (cxOf (L2.CX P w) P w K mg base ["field", "spot"] "need_spot" (defScope s_p_need_spot) A.f_p_need_spot cdv Ar outer s H E).xe := passes_of rfl
  unfold sem_p_need_spot
  exact (ds_one (ds_if (d_not (d_truth (d_call (kk := 2) G_p_is_spot_of (hr.mono (by omega)) hgd rfl F.m_p_is_spot_of F.f_p_is_spot_of.kp F.b_p_is_spot_of tk (da_cons (d_call (kk := 1) G_p_own_shape (hr.mono (by omega)) hgd rfl F.m_p_own_shape F.f_p_own_shape.kp F.b_p_own_shape tk (da_cons (d_ixV (i := 0) rfl (vis_by rfl) d_int (fun _ _ => rfl)) da_nil) l_p_own_shape) (da_cons (d_var (i := 1) rfl (vis_by rfl)) da_nil)) l_p_is_spot_of))) (ds_one (ds_raise rfl tk PySem.F.excBase_ValueError F.x_BadSpot F.mc_BadSpot F.kc_BadSpot (raises_own F.sb_BadSpot F.ty_BadSpot) rfl)) ds_nil))
theorem ok_p_own_spots (F : Fct K mg A) {P_p_shape_spots : DP} (G_p_shape_spots : FnG P w K mg base 1 A.f_p_shape_spots A.d_p_shape_spots ["shape"] (spD K 1 P_p_shape_spots)) (l_p_shape_spots : ∀ rs C k e, P_p_shape_spots rs C k e → rs.length = 1) {P_p_own_shape : DP} (G_p_own_shape : FnG P w K mg base 1 A.f_p_own_shape A.d_p_own_shape ["thing"] (spD K 1 P_p_own_shape)) (l_p_own_shape : ∀ rs C k e, P_p_own_shape rs C k e → rs.length = 1)    {p : DP} (hP : ∀ rs C k e, p rs C k e → rs.length = 1 ∧ sem_p_own_spots K A P_p_shape_spots P_p_own_shape  (defEnds k) ⟨start3 1 rs, C⟩ (defExc e)) :
    FnG P w K mg base 2 A.f_p_own_spots A.d_p_own_spots ["field"] (spD K 1 p) := by
  refine fnG_def F.f_p_own_spots sc_p_own_spots (fun cdv Ar outer s H E hcd hr hgd => ?_) hP
  have tk : Takes (cxOf (L2.CX P w) P w K mg base ["field"] "own_spots" (defScope s_p_own_spots) A.f_p_own_spots cdv Ar outer s H E) (fun cls d _ H2 => E cls d H2) := takes_of rfl rfl rfl rfl
  have po : PassesOwn (model P w) (cxOf (L2.CX P w) P w K mg base ["field"] "own_spots" (defScope s_p_own_spots) A.f_p_own_spots cdv Ar outer s H E).A (cxOf (L2.CX P w) P w K mg base ["field"] "own_spots" (defScope s_p_own_spots) A.f_p_own_spots cdv Ar outer s H E).env (cxOf (L2.CX P w) P w K mg base ["field"] "own_spots" (defScope s_p_own_spots) A.f_p_own_spots cdv Ar outer s H E).xe := passes_of rfl
  unfold sem_p_own_spots
  exact (ds_one (ds_ret (d_call (kk := 1) G_p_shape_spots (hr.mono (by omega)) hgd rfl F.m_p_shape_spots F.f_p_shape_spots.kp F.b_p_shape_spots tk (da_cons (d_call (kk := 1) G_p_own_shape (hr.mono (by omega)) hgd rfl F.m_p_own_shape F.f_p_own_shape.kp F.b_p_own_shape tk (da_cons (d_ixV (i := 0) rfl (vis_by rfl) d_int (fun _ _ => rfl)) da_nil) l_p_own_shape) da_nil) l_p_shape_spots)))
theorem ok_p_own_rim (F : Fct K mg A) {P_p_shape_spots : DP} (G_p_shape_spots : FnG P w K mg base 1 A.f_p_shape_spots A.d_p_shape_spots ["shape"] (spD K 1 P_p_shape_spots)) (l_p_shape_spots : ∀ rs C k e, P_p_shape_spots rs C k e → rs.length = 1) {P_p_is_on_rim : DP} (G_p_is_on_rim : FnG P w K mg base 1 A.f_p_is_on_rim A.d_p_is_on_rim ["shape", "spot"] (spD K 2 P_p_is_on_rim)) (l_p_is_on_rim : ∀ rs C k e, P_p_is_on_rim rs C k e → rs.length = 2)    {p : DP} (hP : ∀ rs C k e, p rs C k e → rs.length = 1 ∧ sem_p_own_rim K A P_p_shape_spots P_p_is_on_rim  (defEnds k) ⟨start3 2 rs, C⟩ (defExc e)) :
    FnG P w K mg base 2 A.f_p_own_rim A.d_p_own_rim ["shape"] (spD K 1 p) := by
  refine fnG_def F.f_p_own_rim sc_p_own_rim (fun cdv Ar outer s H E hcd hr hgd => ?_) hP
  have tk : Takes (cxOf (L2.CX P w) P w K mg base ["shape", "spot"] "own_rim" (defScope s_p_own_rim) A.f_p_own_rim cdv Ar outer s H E) (fun cls d _ H2 => E cls d H2) := takes_of rfl rfl rfl rfl
  have po : PassesOwn (model P w) (cxOf (L2.CX P w) P w K mg base ["shape", "spot"] "own_rim" (defScope s_p_own_rim) A.f_p_own_rim cdv Ar outer s H E).A (cxOf (L2.CX P w) P w K mg base ["shape", "spot"] "own_rim" (defScope s_p_own_rim) A.f_p_own_rim cdv Ar outer s H E).env (cxOf (L2.CX P w) P w K mg base ["shape", "spot"] "own_rim" (defScope s_p_own_rim) A.f_p_own_rim cdv Ar outer s H E).xe := passes_of rfl
  unfold sem_p_own_rim
  exact (ds_one (ds_ret (d_fz (d_lcI (own := [("spot", 1)]) rfl sc_p_own_rim.nd (di_seq (d_call (kk := 1) G_p_shape_spots (hr.mono (by omega)) hgd rfl F.m_p_shape_spots F.f_p_shape_spots.kp F.b_p_shape_spots tk (da_cons (d_var (i := 0) rfl (vis_by rfl)) da_nil) l_p_shape_spots)) (blk_by rfl) (by decide) (fun _ _ _ _ _ => (dg_name (i := 1) sc_p_own_rim.nd rfl (loc_by rfl))) (fun _ _ _ _ _ => (dps_one (d_truth (d_call (kk := 1) G_p_is_on_rim (hr.mono (by omega)) hgd rfl F.m_p_is_on_rim F.f_p_is_on_rim.kp F.b_p_is_on_rim LamX.takes0 (da_cons (d_var (i := 0) rfl (vis_by rfl)) (da_cons (d_var (i := 1) rfl (vis_by rfl)) da_nil)) l_p_is_on_rim)))) (fun _ _ _ _ _ => (d_var (i := 1) rfl (vis_by rfl)))))))
theorem ok_p_own_neighbours (F : Fct K mg A) {P_p_is_spot_of : DP} (G_p_is_spot_of : FnG P w K mg base 2 A.f_p_is_spot_of A.d_p_is_spot_of ["shape", "thing"] (spD K 2 P_p_is_spot_of)) (l_p_is_spot_of : ∀ rs C k e, P_p_is_spot_of rs C k e → rs.length = 2)    {p : DP} (hP : ∀ rs C k e, p rs C k e → rs.length = 2 ∧ sem_p_own_neighbours K A P_p_is_spot_of  (defEnds k) ⟨start3 5 rs, C⟩ (defExc e)) :
    FnG P w K mg base 3 A.f_p_own_neighbours A.d_p_own_neighbours ["shape", "spot"] (spD K 2 p) := by
  refine fnG_def F.f_p_own_neighbours sc_p_own_neighbours (fun cdv Ar outer s H E hcd hr hgd => ?_) hP
  have tk : Takes (cxOf (L2.CX P w) P w K mg base ["shape", "spot", "x", "y", "other"] "own_neighbours" (defScope s_p_own_neighbours) A.f_p_own_neighbours cdv Ar outer s H E) (fun cls d _ H2 => E cls d H2) := takes_of rfl rfl rfl rfl
  have po : PassesOwn (model P w) (cxOf (L2.CX P w) P w K mg base ["shape", "spot", "x", "y", "other"] "own_neighbours" (defScope s_p_own_neighbours) A.f_p_own_neighbours cdv Ar outer s H E).A (cxOf (L2.CX P w) P w K mg base ["shape", "spot", "x", "y", "other"] "own_neighbours" (defScope s_p_own_neighbours) A.f_p_own_neighbours cdv Ar outer s H E).env (cxOf (L2.CX P w) P w K mg base ["shape", "spot", "x", "y", "other"] "own_neighbours" (defScope s_p_own_neighbours) A.f_p_own_neighbours cdv Ar outer s H E).xe := passes_of rfl
  unfold sem_p_own_neighbours
  exact (ds_cons (ds_asg (d_var (i := 1) rfl (vis_by rfl)) (dg_tup rfl (dgs_cons (dg_name (i := 2) sc_p_own_neighbours.nd rfl (loc_by rfl)) (dgs_cons (dg_name (i := 3) sc_p_own_neighbours.nd rfl (loc_by rfl)) dgs_nil)))) (ds_one (ds_ret (d_fz (d_lcI (own := [("other", 4)]) rfl sc_p_own_neighbours.nd (di_seq (d_tup (da_cons (d_tup (da_cons (d_op oSub (d_var (i := 2) rfl (vis_by rfl)) d_int) (da_cons (d_var (i := 3) rfl (vis_by rfl)) da_nil))) (da_cons (d_tup (da_cons (d_var (i := 2) rfl (vis_by rfl)) (da_cons (d_op oSub (d_var (i := 3) rfl (vis_by rfl)) d_int) da_nil))) (da_cons (d_tup (da_cons (d_var (i := 2) rfl (vis_by rfl)) (da_cons (d_op oAddB (d_var (i := 3) rfl (vis_by rfl)) d_int) da_nil))) (da_cons (d_tup (da_cons (d_op oAddB (d_var (i := 2) rfl (vis_by rfl)) d_int) (da_cons (d_var (i := 3) rfl (vis_by rfl)) da_nil))) da_nil)))))) (blk_by rfl) (by decide) (fun _ _ _ _ _ => (dg_name (i := 4) sc_p_own_neighbours.nd rfl (loc_by rfl))) (fun _ _ _ _ _ => (dps_one (d_truth (d_call (kk := 2) G_p_is_spot_of (hr.mono (by omega)) hgd rfl F.m_p_is_spot_of F.f_p_is_spot_of.kp F.b_p_is_spot_of LamX.takes0 (da_cons (d_var (i := 0) rfl (vis_by rfl)) (da_cons (d_var (i := 4) rfl (vis_by rfl)) da_nil)) l_p_is_spot_of)))) (fun _ _ _ _ _ => (d_var (i := 4) rfl (vis_by rfl))))))))
theorem ok_p_height_in (F : Fct K mg A) {P_p_at : DP} (G_p_at : FnG P w K mg base 1 A.f_p_at A.d_p_at ["rows", "spot"] (spD K 2 P_p_at)) (l_p_at : ∀ rs C k e, P_p_at rs C k e → rs.length = 2)    {p : DP} (hP : ∀ rs C k e, p rs C k e → rs.length = 2 ∧ sem_p_height_in K A P_p_at  (defEnds k) ⟨start3 2 rs, C⟩ (defExc e)) :
    FnG P w K mg base 2 A.f_p_height_in A.d_p_height_in ["field", "spot"] (spD K 2 p) := by
  refine fnG_def F.f_p_height_in sc_p_height_in (fun cdv Ar outer s H E hcd hr hgd => ?_) hP
  have tk : Takes (cxOf (L2.CX P w) P w K mg base ["field", "spot"] "height_in" (defScope s_p_height_in) A.f_p_height_in cdv Ar outer s H E) (fun cls d _ H2 => E cls d H2) := takes_of rfl rfl rfl rfl
  have po : PassesOwn (model P w) (cxOf (L2.CX P w) P w K mg base ["field", "spot"] "height_in" (defScope s_p_height_in) A.f_p_height_in cdv Ar outer s H E).A (cxOf (L2.CX P w) P w K mg base ["field", "spot"] "height_in" (defScope s_p_height_in) A.f_p_height_in cdv Ar outer s H E).env (cxOf (L2.CX P w) P w K mg base ["field", "spot"] "height_in" (defScope s_p_height_in) A.f_p_height_in cdv Ar outer s H E).xe := passes_of rfl
  unfold sem_p_height_in
  exact (ds_one (ds_ret (d_call (kk := 1) G_p_at (hr.mono (by omega)) hgd rfl F.m_p_at F.f_p_at.kp F.b_p_at tk (da_cons (d_ixV (i := 0) rfl (vis_by rfl) d_int (fun _ _ => rfl)) (da_cons (d_var (i := 1) rfl (vis_by rfl)) da_nil)) l_p_at)))
theorem ok_p_worth_in (F : Fct K mg A) {P_p_at : DP} (G_p_at : FnG P w K mg base 1 A.f_p_at A.d_p_at ["rows", "spot"] (spD K 2 P_p_at)) (l_p_at : ∀ rs C k e, P_p_at rs C k e → rs.length = 2)    {p : DP} (hP : ∀ rs C k e, p rs C k e → rs.length = 2 ∧ sem_p_worth_in K A P_p_at  (defEnds k) ⟨start3 2 rs, C⟩ (defExc e)) :
    FnG P w K mg base 2 A.f_p_worth_in A.d_p_worth_in ["field", "spot"] (spD K 2 p) := by
  refine fnG_def F.f_p_worth_in sc_p_worth_in (fun cdv Ar outer s H E hcd hr hgd => ?_) hP
  have tk : Takes (cxOf (L2.CX P w) P w K mg base ["field", "spot"] "worth_in" (defScope s_p_worth_in) A.f_p_worth_in cdv Ar outer s H E) (fun cls d _ H2 => E cls d H2) := takes_of rfl rfl rfl rfl
  have po : PassesOwn (model P w) (cxOf (L2.CX P w) P w K mg base ["field", "spot"] "worth_in" (defScope s_p_worth_in) A.f_p_worth_in cdv Ar outer s H E).A (cxOf (L2.CX P w) P w K mg base ["field", "spot"] "worth_in" (defScope s_p_worth_in) A.f_p_worth_in cdv Ar outer s H E).env (cxOf (L2.CX P w) P w K mg base ["field", "spot"] "worth_in" (defScope s_p_worth_in) A.f_p_worth_in cdv Ar outer s H E).xe := passes_of rfl
  unfold sem_p_worth_in
  exact (ds_one (ds_ret (d_call (kk := 1) G_p_at (hr.mono (by omega)) hgd rfl F.m_p_at F.f_p_at.kp F.b_p_at tk (da_cons (d_ixV (i := 0) rfl (vis_by rfl) d_int (fun _ _ => rfl)) (da_cons (d_var (i := 1) rfl (vis_by rfl)) da_nil)) l_p_at)))
theorem ok_p_board (F : Fct K mg A) {P_p_need_field : DP} (G_p_need_field : FnG P w K mg base 5 A.f_p_need_field A.d_p_need_field ["thing"] (spD K 1 P_p_need_field)) (l_p_need_field : ∀ rs C k e, P_p_need_field rs C k e → rs.length = 1) {P_p_own_shape : DP} (G_p_own_shape : FnG P w K mg base 1 A.f_p_own_shape A.d_p_own_shape ["thing"] (spD K 1 P_p_own_shape)) (l_p_own_shape : ∀ rs C k e, P_p_own_shape rs C k e → rs.length = 1)    {p : DP} (hP : ∀ rs C k e, p rs C k e → rs.length = 1 ∧ sem_p_board K A P_p_need_field P_p_own_shape  (defEnds k) ⟨start3 1 rs, C⟩ (defExc e)) :
    FnG P w K mg base 6 A.f_p_board A.d_p_board ["field"] (spD K 1 p) := by
  refine fnG_def F.f_p_board sc_p_board (fun cdv Ar outer s H E hcd hr hgd => ?_) hP
  have tk : Takes (cxOf (L2.CX P w) P w K mg base ["field"] "board" (defScope s_p_board) A.f_p_board cdv Ar outer s H E) (fun cls d _ H2 => E cls d H2) := takes_of rfl rfl rfl rfl
  have po : PassesOwn (model P w) (cxOf (L2.CX P w) P w K mg base ["field"] "board" (defScope s_p_board) A.f_p_board cdv Ar outer s H E).A (cxOf (L2.CX P w) P w K mg base ["field"] "board" (defScope s_p_board) A.f_p_board cdv Ar outer s H E).env (cxOf (L2.CX P w) P w K mg base ["field"] "board" (defScope s_p_board) A.f_p_board cdv Ar outer s H E).xe := passes_of rfl
  unfold sem_p_board
  exact (ds_cons (ds_expr (d_call (kk := 5) G_p_need_field (hr.mono (by omega)) hgd rfl F.m_p_need_field F.f_p_need_field.kp F.b_p_need_field tk (da_cons (d_var (i := 0) rfl (vis_by rfl)) da_nil) l_p_need_field)) (ds_one (ds_ret (d_call (kk := 1) G_p_own_shape (hr.mono (by omega)) hgd rfl F.m_p_own_shape F.f_p_own_shape.kp F.b_p_own_shape tk (da_cons (d_ixV (i := 0) rfl (vis_by rfl) d_int (fun _ _ => rfl)) da_nil) l_p_own_shape))))
theorem ok_p_spots (F : Fct K mg A) {P_p_need_field : DP} (G_p_need_field : FnG P w K mg base 5 A.f_p_need_field A.d_p_need_field ["thing"] (spD K 1 P_p_need_field)) (l_p_need_field : ∀ rs C k e, P_p_need_field rs C k e → rs.length = 1) {P_p_own_spots : DP} (G_p_own_spots : FnG P w K mg base 2 A.f_p_own_spots A.d_p_own_spots ["field"] (spD K 1 P_p_own_spots)) (l_p_own_spots : ∀ rs C k e, P_p_own_spots rs C k e → rs.length = 1)    {p : DP} (hP : ∀ rs C k e, p rs C k e → rs.length = 1 ∧ sem_p_spots K A P_p_need_field P_p_own_spots  (defEnds k) ⟨start3 1 rs, C⟩ (defExc e)) :
    FnG P w K mg base 6 A.f_p_spots A.d_p_spots ["field"] (spD K 1 p) := by
  refine fnG_def F.f_p_spots sc_p_spots (fun cdv Ar outer s H E hcd hr hgd => ?_) hP
  have tk : Takes (cxOf (L2.CX P w) P w K mg base ["field"] "spots" (defScope s_p_spots) A.f_p_spots cdv Ar outer s H E) (fun cls d _ H2 => E cls d H2) := takes_of rfl rfl rfl rfl
  have po : PassesOwn (model P w) (cxOf (L2.CX P w) P w K mg base ["field"] "spots" (defScope s_p_spots) A.f_p_spots cdv Ar outer s H E).A (cxOf (L2.CX P w) P w K mg base ["field"] "spots" (defScope s_p_spots) A.f_p_spots cdv Ar outer s H E).env (cxOf (L2.CX P w) P w K mg base ["field"] "spots" (defScope s_p_spots) A.f_p_spots cdv Ar outer s H E).xe := passes_of rfl
  unfold sem_p_spots
  exact (ds_cons (ds_expr (d_call (kk := 5) G_p_need_field (hr.mono (by omega)) hgd rfl F.m_p_need_field F.f_p_need_field.kp F.b_p_need_field tk (da_cons (d_var (i := 0) rfl (vis_by rfl)) da_nil) l_p_need_field)) (ds_one (ds_ret (d_callTy cTupOf rfl F.z_tuple bt_tuple (da_cons (d_call (kk := 2) G_p_own_spots (hr.mono (by omega)) hgd rfl F.m_p_own_spots F.f_p_own_spots.kp F.b_p_own_spots tk (da_cons (d_var (i := 0) rfl (vis_by rfl)) da_nil) l_p_own_spots) da_nil)))))
theorem ok_p_rim (F : Fct K mg A) {P_p_need_field : DP} (G_p_need_field : FnG P w K mg base 5 A.f_p_need_field A.d_p_need_field ["thing"] (spD K 1 P_p_need_field)) (l_p_need_field : ∀ rs C k e, P_p_need_field rs C k e → rs.length = 1) {P_p_own_rim : DP} (G_p_own_rim : FnG P w K mg base 2 A.f_p_own_rim A.d_p_own_rim ["shape"] (spD K 1 P_p_own_rim)) (l_p_own_rim : ∀ rs C k e, P_p_own_rim rs C k e → rs.length = 1) {P_p_own_shape : DP} (G_p_own_shape : FnG P w K mg base 1 A.f_p_own_shape A.d_p_own_shape ["thing"] (spD K 1 P_p_own_shape)) (l_p_own_shape : ∀ rs C k e, P_p_own_shape rs C k e → rs.length = 1)    {p : DP} (hP : ∀ rs C k e, p rs C k e → rs.length = 1 ∧ sem_p_rim K A P_p_need_field P_p_own_rim P_p_own_shape  (defEnds k) ⟨start3 1 rs, C⟩ (defExc e)) :
    FnG P w K mg base 6 A.f_p_rim A.d_p_rim ["field"] (spD K 1 p) := by
  refine fnG_def F.f_p_rim sc_p_rim (fun cdv Ar outer s H E hcd hr hgd => ?_) hP
  have tk : Takes (cxOf (L2.CX P w) P w K mg base ["field"] "rim" (defScope s_p_rim) A.f_p_rim cdv Ar outer s H E) (fun cls d _ H2 => E cls d H2) := takes_of rfl rfl rfl rfl
  have po : PassesOwn (model P w) (cxOf (L2.CX P w) P w K mg base ["field"] "rim" (defScope s_p_rim) A.f_p_rim cdv Ar outer s H E).A (cxOf (L2.CX P w) P w K mg base ["field"] "rim" (defScope s_p_rim) A.f_p_rim cdv Ar outer s H E).env (cxOf (L2.CX P w) P w K mg base ["field"] "rim" (defScope s_p_rim) A.f_p_rim cdv Ar outer s H E).xe := passes_of rfl
  unfold sem_p_rim
  exact (ds_cons (ds_expr (d_call (kk := 5) G_p_need_field (hr.mono (by omega)) hgd rfl F.m_p_need_field F.f_p_need_field.kp F.b_p_need_field tk (da_cons (d_var (i := 0) rfl (vis_by rfl)) da_nil) l_p_need_field)) (ds_one (ds_ret (d_callTy cTupOf rfl F.z_tuple bt_tuple (da_cons (d_call (kk := 2) G_p_own_rim (hr.mono (by omega)) hgd rfl F.m_p_own_rim F.f_p_own_rim.kp F.b_p_own_rim tk (da_cons (d_call (kk := 1) G_p_own_shape (hr.mono (by omega)) hgd rfl F.m_p_own_shape F.f_p_own_shape.kp F.b_p_own_shape tk (da_cons (d_ixV (i := 0) rfl (vis_by rfl) d_int (fun _ _ => rfl)) da_nil) l_p_own_shape) da_nil) l_p_own_rim) da_nil)))))
theorem ok_p_inner (F : Fct K mg A) {P_p_need_field : DP} (G_p_need_field : FnG P w K mg base 5 A.f_p_need_field A.d_p_need_field ["thing"] (spD K 1 P_p_need_field)) (l_p_need_field : ∀ rs C k e, P_p_need_field rs C k e → rs.length = 1) {P_p_own_shape : DP} (G_p_own_shape : FnG P w K mg base 1 A.f_p_own_shape A.d_p_own_shape ["thing"] (spD K 1 P_p_own_shape)) (l_p_own_shape : ∀ rs C k e, P_p_own_shape rs C k e → rs.length = 1) {P_p_shape_spots : DP} (G_p_shape_spots : FnG P w K mg base 1 A.f_p_shape_spots A.d_p_shape_spots ["shape"] (spD K 1 P_p_shape_spots)) (l_p_shape_spots : ∀ rs C k e, P_p_shape_spots rs C k e → rs.length = 1) {P_p_is_on_rim : DP} (G_p_is_on_rim : FnG P w K mg base 1 A.f_p_is_on_rim A.d_p_is_on_rim ["shape", "spot"] (spD K 2 P_p_is_on_rim)) (l_p_is_on_rim : ∀ rs C k e, P_p_is_on_rim rs C k e → rs.length = 2)    {p : DP} (hP : ∀ rs C k e, p rs C k e → rs.length = 1 ∧ sem_p_inner K A P_p_need_field P_p_own_shape P_p_shape_spots P_p_is_on_rim  (defEnds k) ⟨start3 3 rs, C⟩ (defExc e)) :
    FnG P w K mg base 6 A.f_p_inner A.d_p_inner ["field"] (spD K 1 p) := by
  refine fnG_def F.f_p_inner sc_p_inner (fun cdv Ar outer s H E hcd hr hgd => ?_) hP
  have tk : Takes (cxOf (L2.CX P w) P w K mg base ["field", "shape", "spot"] "inner" (defScope s_p_inner) A.f_p_inner cdv Ar outer s H E) (fun cls d _ H2 => E cls d H2) := takes_of rfl rfl rfl rfl
  have po : PassesOwn (model P w) (cxOf (L2.CX P w) P w K mg base ["field", "shape", "spot"] "inner" (defScope s_p_inner) A.f_p_inner cdv Ar outer s H E).A (cxOf (L2.CX P w) P w K mg base ["field", "shape", "spot"] "inner" (defScope s_p_inner) A.f_p_inner cdv Ar outer s H E).env (cxOf (L2.CX P w) P w K mg base ["field", "shape", "spot"] "inner" (defScope s_p_inner) A.f_p_inner cdv Ar outer s H E).xe := passes_of rfl
  unfold sem_p_inner
  exact (ds_cons (ds_expr (d_call (kk := 5) G_p_need_field (hr.mono (by omega)) hgd rfl F.m_p_need_field F.f_p_need_field.kp F.b_p_need_field tk (da_cons (d_var (i := 0) rfl (vis_by rfl)) da_nil) l_p_need_field)) (ds_cons (ds_set (i := 1) sc_p_inner.nd rfl (loc_by rfl) (d_call (kk := 1) G_p_own_shape (hr.mono (by omega)) hgd rfl F.m_p_own_shape F.f_p_own_shape.kp F.b_p_own_shape tk (da_cons (d_ixV (i := 0) rfl (vis_by rfl) d_int (fun _ _ => rfl)) da_nil) l_p_own_shape)) (ds_one (ds_ret (d_callTy cTupOf rfl F.z_tuple bt_tuple (da_cons (d_fz (d_lcI (own := [("spot", 2)]) rfl sc_p_inner.nd (di_seq (d_call (kk := 1) G_p_shape_spots (hr.mono (by omega)) hgd rfl F.m_p_shape_spots F.f_p_shape_spots.kp F.b_p_shape_spots tk (da_cons (d_var (i := 1) rfl (vis_by rfl)) da_nil) l_p_shape_spots)) (blk_by rfl) (by decide) (fun _ _ _ _ _ => (dg_name (i := 2) sc_p_inner.nd rfl (loc_by rfl))) (fun _ _ _ _ _ => (dps_one (d_not (d_truth (d_call (kk := 1) G_p_is_on_rim (hr.mono (by omega)) hgd rfl F.m_p_is_on_rim F.f_p_is_on_rim.kp F.b_p_is_on_rim LamX.takes0 (da_cons (d_var (i := 1) rfl (vis_by rfl)) (da_cons (d_var (i := 2) rfl (vis_by rfl)) da_nil)) l_p_is_on_rim))))) (fun _ _ _ _ _ => (d_var (i := 2) rfl (vis_by rfl))))) da_nil))))))
theorem ok_p_neighbours (F : Fct K mg A) {P_p_need_field : DP} (G_p_need_field : FnG P w K mg base 5 A.f_p_need_field A.d_p_need_field ["thing"] (spD K 1 P_p_need_field)) (l_p_need_field : ∀ rs C k e, P_p_need_field rs C k e → rs.length = 1) {P_p_need_spot : DP} (G_p_need_spot : FnG P w K mg base 3 A.f_p_need_spot A.d_p_need_spot ["field", "spot"] (spD K 2 P_p_need_spot)) (l_p_need_spot : ∀ rs C k e, P_p_need_spot rs C k e → rs.length = 2) {P_p_own_neighbours : DP} (G_p_own_neighbours : FnG P w K mg base 3 A.f_p_own_neighbours A.d_p_own_neighbours ["shape", "spot"] (spD K 2 P_p_own_neighbours)) (l_p_own_neighbours : ∀ rs C k e, P_p_own_neighbours rs C k e → rs.length = 2) {P_p_own_shape : DP} (G_p_own_shape : FnG P w K mg base 1 A.f_p_own_shape A.d_p_own_shape ["thing"] (spD K 1 P_p_own_shape)) (l_p_own_shape : ∀ rs C k e, P_p_own_shape rs C k e → rs.length = 1)    {p : DP} (hP : ∀ rs C k e, p rs C k e → rs.length = 2 ∧ sem_p_neighbours K A P_p_need_field P_p_need_spot P_p_own_neighbours P_p_own_shape  (defEnds k) ⟨start3 2 rs, C⟩ (defExc e)) :
    FnG P w K mg base 6 A.f_p_neighbours A.d_p_neighbours ["field", "spot"] (spD K 2 p) := by
  refine fnG_def F.f_p_neighbours sc_p_neighbours (fun cdv Ar outer s H E hcd hr hgd => ?_) hP
  have tk : Takes (cxOf (L2.CX P w) P w K mg base ["field", "spot"] "neighbours" (defScope s_p_neighbours) A.f_p_neighbours cdv Ar outer s H E) (fun cls d _ H2 => E cls d H2) := takes_of rfl rfl rfl rfl
  have po : PassesOwn (model P w) (cxOf (L2.CX P w) P w K mg base ["field", "spot"] "neighbours" (defScope s_p_neighbours) A.f_p_neighbours cdv Ar outer s H E).A (cxOf (L2.CX P w) P w K mg base ["field", "spot"] "neighbours" (defScope s_p_neighbours) A.f_p_neighbours cdv Ar outer s H E).env (cxOf (L2.CX P w) P w K mg base ["field", "spot"] "neighbours" (defScope s_p_neighbours) A.f_p_neighbours cdv Ar outer s H E).xe := passes_of rfl
  unfold sem_p_neighbours
  exact (ds_cons (ds_expr (d_call (kk := 5) G_p_need_field (hr.mono (by omega)) hgd rfl F.m_p_need_field F.f_p_need_field.kp F.b_p_need_field tk (da_cons (d_var (i := 0) rfl (vis_by rfl)) da_nil) l_p_need_field)) (ds_cons (ds_expr (d_call (kk := 3) G_p_need_spot (hr.mono (by omega)) hgd rfl F.m_p_need_spot F.f_p_need_spot.kp F.b_p_need_spot tk (da_cons (d_var (i := 0) rfl (vis_by rfl)) (da_cons (d_var (i := 1) rfl (vis_by rfl)) da_nil)) l_p_need_spot)) (ds_one (ds_ret (d_callTy cTupOf rfl F.z_tuple bt_tuple (da_cons (d_call (kk := 3) G_p_own_neighbours (hr.mono (by omega)) hgd rfl F.m_p_own_neighbours F.f_p_own_neighbours.kp F.b_p_own_neighbours tk (da_cons (d_call (kk := 1) G_p_own_shape (hr.mono (by omega)) hgd rfl F.m_p_own_shape F.f_p_own_shape.kp F.b_p_own_shape tk (da_cons (d_ixV (i := 0) rfl (vis_by rfl) d_int (fun _ _ => rfl)) da_nil) l_p_own_shape) (da_cons (d_var (i := 1) rfl (vis_by rfl)) da_nil)) l_p_own_neighbours) da_nil))))))
theorem ok_p_way (F : Fct K mg A)     {p : DP} (hP : ∀ rs C k e, p rs C k e → rs.length = 2 ∧ sem_p_way K A   (defEnds k) ⟨start3 2 rs, C⟩ (defExc e)) :
    FnG P w K mg base 1 A.f_p_way A.d_p_way ["spot", "other"] (spD K 2 p) := by
  refine fnG_def F.f_p_way sc_p_way (fun cdv Ar outer s H E hcd hr hgd => ?_) hP
  have tk : Takes (cxOf (L2.CX P w) P w K mg base ["spot", "other"] "way" (defScope s_p_way) A.f_p_way cdv Ar outer s H E) (fun cls d _ H2 => E cls d H2) := takes_of rfl rfl rfl rfl
  have po : PassesOwn (model P w) (cxOf (L2.CX P w) P w K mg base ["spot", "other"] "way" (defScope s_p_way) A.f_p_way cdv Ar outer s H E).A (cxOf (L2.CX P w) P w K mg base ["spot", "other"] "way" (defScope s_p_way) A.f_p_way cdv Ar outer s H E).env (cxOf (L2.CX P w) P w K mg base ["spot", "other"] "way" (defScope s_p_way) A.f_p_way cdv Ar outer s H E).xe := passes_of rfl
  unfold sem_p_way
  exact (ds_one (ds_ret (d_op oAddB (d_callB cAbs rfl F.z_abs bt_abs (da_cons (d_op oSub (d_ixV (i := 0) rfl (vis_by rfl) d_int (fun _ _ => rfl)) (d_ixV (i := 1) rfl (vis_by rfl) d_int (fun _ _ => rfl))) da_nil)) (d_callB cAbs rfl F.z_abs bt_abs (da_cons (d_op oSub (d_ixV (i := 0) rfl (vis_by rfl) d_int (fun _ _ => rfl)) (d_ixV (i := 1) rfl (vis_by rfl) d_int (fun _ _ => rfl))) da_nil)))))
theorem ok_p_height_at (F : Fct K mg A) {P_p_need_field : DP} (G_p_need_field : FnG P w K mg base 5 A.f_p_need_field A.d_p_need_field ["thing"] (spD K 1 P_p_need_field)) (l_p_need_field : ∀ rs C k e, P_p_need_field rs C k e → rs.length = 1) {P_p_need_spot : DP} (G_p_need_spot : FnG P w K mg base 3 A.f_p_need_spot A.d_p_need_spot ["field", "spot"] (spD K 2 P_p_need_spot)) (l_p_need_spot : ∀ rs C k e, P_p_need_spot rs C k e → rs.length = 2) {P_p_height_in : DP} (G_p_height_in : FnG P w K mg base 2 A.f_p_height_in A.d_p_height_in ["field", "spot"] (spD K 2 P_p_height_in)) (l_p_height_in : ∀ rs C k e, P_p_height_in rs C k e → rs.length = 2)    {p : DP} (hP : ∀ rs C k e, p rs C k e → rs.length = 2 ∧ sem_p_height_at K A P_p_need_field P_p_need_spot P_p_height_in  (defEnds k) ⟨start3 2 rs, C⟩ (defExc e)) :
    FnG P w K mg base 6 A.f_p_height_at A.d_p_height_at ["field", "spot"] (spD K 2 p) := by
  refine fnG_def F.f_p_height_at sc_p_height_at (fun cdv Ar outer s H E hcd hr hgd => ?_) hP
  have tk : Takes (cxOf (L2.CX P w) P w K mg base ["field", "spot"] "height_at" (defScope s_p_height_at) A.f_p_height_at cdv Ar outer s H E) (fun cls d _ H2 => E cls d H2) := takes_of rfl rfl rfl rfl
  have po : PassesOwn (model P w) (cxOf (L2.CX P w) P w K mg base ["field", "spot"] "height_at" (defScope s_p_height_at) A.f_p_height_at cdv Ar outer s H E).A (cxOf (L2.CX P w) P w K mg base ["field", "spot"] "height_at" (defScope s_p_height_at) A.f_p_height_at cdv Ar outer s H E).env (cxOf (L2.CX P w) P w K mg base ["field", "spot"] "height_at" (defScope s_p_height_at) A.f_p_height_at cdv Ar outer s H E).xe := passes_of rfl
  unfold sem_p_height_at
  exact (ds_cons (ds_expr (d_call (kk := 5) G_p_need_field (hr.mono (by omega)) hgd rfl F.m_p_need_field F.f_p_need_field.kp F.b_p_need_field tk (da_cons (d_var (i := 0) rfl (vis_by rfl)) da_nil) l_p_need_field)) (ds_cons (ds_expr (d_call (kk := 3) G_p_need_spot (hr.mono (by omega)) hgd rfl F.m_p_need_spot F.f_p_need_spot.kp F.b_p_need_spot tk (da_cons (d_var (i := 0) rfl (vis_by rfl)) (da_cons (d_var (i := 1) rfl (vis_by rfl)) da_nil)) l_p_need_spot)) (ds_one (ds_ret (d_call (kk := 2) G_p_height_in (hr.mono (by omega)) hgd rfl F.m_p_height_in F.f_p_height_in.kp F.b_p_height_in tk (da_cons (d_var (i := 0) rfl (vis_by rfl)) (da_cons (d_var (i := 1) rfl (vis_by rfl)) da_nil)) l_p_height_in)))))
theorem ok_p_worth_of (F : Fct K mg A) {P_p_need_field : DP} (G_p_need_field : FnG P w K mg base 5 A.f_p_need_field A.d_p_need_field ["thing"] (spD K 1 P_p_need_field)) (l_p_need_field : ∀ rs C k e, P_p_need_field rs C k e → rs.length = 1) {P_p_need_spot : DP} (G_p_need_spot : FnG P w K mg base 3 A.f_p_need_spot A.d_p_need_spot ["field", "spot"] (spD K 2 P_p_need_spot)) (l_p_need_spot : ∀ rs C k e, P_p_need_spot rs C k e → rs.length = 2) {P_p_worth_in : DP} (G_p_worth_in : FnG P w K mg base 2 A.f_p_worth_in A.d_p_worth_in ["field", "spot"] (spD K 2 P_p_worth_in)) (l_p_worth_in : ∀ rs C k e, P_p_worth_in rs C k e → rs.length = 2)    {p : DP} (hP : ∀ rs C k e, p rs C k e → rs.length = 2 ∧ sem_p_worth_of K A P_p_need_field P_p_need_spot P_p_worth_in  (defEnds k) ⟨start3 2 rs, C⟩ (defExc e)) :
    FnG P w K mg base 6 A.f_p_worth_of A.d_p_worth_of ["field", "spot"] (spD K 2 p) := by
  refine fnG_def F.f_p_worth_of sc_p_worth_of (fun cdv Ar outer s H E hcd hr hgd => ?_) hP
  have tk : Takes (cxOf (L2.CX P w) P w K mg base ["field", "spot"] "worth_of" (defScope s_p_worth_of) A.f_p_worth_of cdv Ar outer s H E) (fun cls d _ H2 => E cls d H2) := takes_of rfl rfl rfl rfl
  have po : PassesOwn (model P w) (cxOf (L2.CX P w) P w K mg base ["field", "spot"] "worth_of" (defScope s_p_worth_of) A.f_p_worth_of cdv Ar outer s H E).A (cxOf (L2.CX P w) P w K mg base ["field", "spot"] "worth_of" (defScope s_p_worth_of) A.f_p_worth_of cdv Ar outer s H E).env (cxOf (L2.CX P w) P w K mg base ["field", "spot"] "worth_of" (defScope s_p_worth_of) A.f_p_worth_of cdv Ar outer s H E).xe := passes_of rfl
  unfold sem_p_worth_of
  exact (ds_cons (ds_expr (d_call (kk := 5) G_p_need_field (hr.mono (by omega)) hgd rfl F.m_p_need_field F.f_p_need_field.kp F.b_p_need_field tk (da_cons (d_var (i := 0) rfl (vis_by rfl)) da_nil) l_p_need_field)) (ds_cons (ds_expr (d_call (kk := 3) G_p_need_spot (hr.mono (by omega)) hgd rfl F.m_p_need_spot F.f_p_need_spot.kp F.b_p_need_spot tk (da_cons (d_var (i := 0) rfl (vis_by rfl)) (da_cons (d_var (i := 1) rfl (vis_by rfl)) da_nil)) l_p_need_spot)) (ds_one (ds_ret (d_call (kk := 2) G_p_worth_in (hr.mono (by omega)) hgd rfl F.m_p_worth_in F.f_p_worth_in.kp F.b_p_worth_in tk (da_cons (d_var (i := 0) rfl (vis_by rfl)) (da_cons (d_var (i := 1) rfl (vis_by rfl)) da_nil)) l_p_worth_in)))))
theorem ok_p_own_with (F : Fct K mg A) {P_p_exchanged : DP} (G_p_exchanged : FnG P w K mg base 1 A.f_p_exchanged A.d_p_exchanged ["rows", "spot", "thing"] (spD K 3 P_p_exchanged)) (l_p_exchanged : ∀ rs C k e, P_p_exchanged rs C k e → rs.length = 3)    {p : DP} (hP : ∀ rs C k e, p rs C k e → rs.length = 3 ∧ sem_p_own_with K A P_p_exchanged  (defEnds k) ⟨start3 3 rs, C⟩ (defExc e)) :
    FnG P w K mg base 2 A.f_p_own_with A.d_p_own_with ["field", "spot", "worth"] (spD K 3 p) := by
  refine fnG_def F.f_p_own_with sc_p_own_with (fun cdv Ar outer s H E hcd hr hgd => ?_) hP
  have tk : Takes (cxOf (L2.CX P w) P w K mg base ["field", "spot", "worth"] "own_with" (defScope s_p_own_with) A.f_p_own_with cdv Ar outer s H E) (fun cls d _ H2 => E cls d H2) := takes_of rfl rfl rfl rfl
  have po : PassesOwn (model P w) (cxOf (L2.CX P w) P w K mg base ["field", "spot", "worth"] "own_with" (defScope s_p_own_with) A.f_p_own_with cdv Ar outer s H E).A (cxOf (L2.CX P w) P w K mg base ["field", "spot", "worth"] "own_with" (defScope s_p_own_with) A.f_p_own_with cdv Ar outer s H E).env (cxOf (L2.CX P w) P w K mg base ["field", "spot", "worth"] "own_with" (defScope s_p_own_with) A.f_p_own_with cdv Ar outer s H E).xe := passes_of rfl
  unfold sem_p_own_with
  exact (ds_one (ds_ret (d_tup (da_cons (d_ixV (i := 0) rfl (vis_by rfl) d_int (fun _ _ => rfl)) (da_cons (d_call (kk := 1) G_p_exchanged (hr.mono (by omega)) hgd rfl F.m_p_exchanged F.f_p_exchanged.kp F.b_p_exchanged tk (da_cons (d_ixV (i := 0) rfl (vis_by rfl) d_int (fun _ _ => rfl)) (da_cons (d_var (i := 1) rfl (vis_by rfl)) (da_cons (d_var (i := 2) rfl (vis_by rfl)) da_nil))) l_p_exchanged) da_nil)))))
theorem ok_p_with_worth (F : Fct K mg A) {P_p_need_field : DP} (G_p_need_field : FnG P w K mg base 5 A.f_p_need_field A.d_p_need_field ["thing"] (spD K 1 P_p_need_field)) (l_p_need_field : ∀ rs C k e, P_p_need_field rs C k e → rs.length = 1) {P_p_need_spot : DP} (G_p_need_spot : FnG P w K mg base 3 A.f_p_need_spot A.d_p_need_spot ["field", "spot"] (spD K 2 P_p_need_spot)) (l_p_need_spot : ∀ rs C k e, P_p_need_spot rs C k e → rs.length = 2) {P_p_is_fraction : DP} (G_p_is_fraction : FnG P w K mg base 2 A.f_p_is_fraction A.d_p_is_fraction ["thing"] (spD K 1 P_p_is_fraction)) (l_p_is_fraction : ∀ rs C k e, P_p_is_fraction rs C k e → rs.length = 1) {P_p_own_with : DP} (G_p_own_with : FnG P w K mg base 2 A.f_p_own_with A.d_p_own_with ["field", "spot", "worth"] (spD K 3 P_p_own_with)) (l_p_own_with : ∀ rs C k e, P_p_own_with rs C k e → rs.length = 3)    {p : DP} (hP : ∀ rs C k e, p rs C k e → rs.length = 3 ∧ sem_p_with_worth K A P_p_need_field P_p_need_spot P_p_is_fraction P_p_own_with  (defEnds k) ⟨start3 3 rs, C⟩ (defExc e)) :
    FnG P w K mg base 6 A.f_p_with_worth A.d_p_with_worth ["field", "spot", "fraction"] (spD K 3 p) := by
  refine fnG_def F.f_p_with_worth sc_p_with_worth (fun cdv Ar outer s H E hcd hr hgd => ?_) hP
  have tk : Takes (cxOf (L2.CX P w) P w K mg base ["field", "spot", "fraction"] "with_worth" (defScope s_p_with_worth) A.f_p_with_worth cdv Ar outer s H E) (fun cls d _ H2 => E cls d H2) := takes_of rfl rfl rfl rfl
  have po : PassesOwn (model P w) (cxOf (L2.CX P w) P w K mg base ["field", "spot", "fraction"] "with_worth" (defScope s_p_with_worth) A.f_p_with_worth cdv Ar outer s H E).A (cxOf (L2.CX P w) P w K mg base ["field", "spot", "fraction"] "with_worth" (defScope s_p_with_worth) A.f_p_with_worth cdv Ar outer s H E).env (cxOf (L2.CX P w) P w K mg base ["field", "spot", "fraction"] "with_worth" (defScope s_p_with_worth) A.f_p_with_worth cdv Ar outer s H E).xe := passes_of rfl
  unfold sem_p_with_worth
  exact (ds_cons (ds_expr (d_call (kk := 5) G_p_need_field (hr.mono (by omega)) hgd rfl F.m_p_need_field F.f_p_need_field.kp F.b_p_need_field tk (da_cons (d_var (i := 0) rfl (vis_by rfl)) da_nil) l_p_need_field)) (ds_cons (ds_expr (d_call (kk := 3) G_p_need_spot (hr.mono (by omega)) hgd rfl F.m_p_need_spot F.f_p_need_spot.kp F.b_p_need_spot tk (da_cons (d_var (i := 0) rfl (vis_by rfl)) (da_cons (d_var (i := 1) rfl (vis_by rfl)) da_nil)) l_p_need_spot)) (ds_cons (ds_if (DW.dt (dw_or (d_not (d_truth (d_call (kk := 2) G_p_is_fraction (hr.mono (by omega)) hgd rfl F.m_p_is_fraction F.f_p_is_fraction.kp F.b_p_is_fraction tk (da_cons (d_var (i := 2) rfl (vis_by rfl)) da_nil) l_p_is_fraction))) (dw_or1 (d_cmpT (oEqE (hu64 hr)) (d_ixV (i := 2) rfl (vis_by rfl) d_int (fun _ _ => rfl)) d_int (nomark _))))) (ds_one (ds_raise rfl tk PySem.F.excBase_ValueError F.x_BadFraction F.mc_BadFraction F.kc_BadFraction (raises_own F.sb_BadFraction F.ty_BadFraction) rfl)) ds_nil) (ds_one (ds_ret (d_call (kk := 2) G_p_own_with (hr.mono (by omega)) hgd rfl F.m_p_own_with F.f_p_own_with.kp F.b_p_own_with tk (da_cons (d_var (i := 0) rfl (vis_by rfl)) (da_cons (d_var (i := 1) rfl (vis_by rfl)) (da_cons (d_var (i := 2) rfl (vis_by rfl)) da_nil))) l_p_own_with))))))
theorem ok_u_law_cell (F : Fct K mg A)     {p : DP} (hP : ∀ rs C k e, p rs C k e → rs.length = 2 ∧ sem_u_law_cell K A   (defEnds k) ⟨start3 6 rs, C⟩ (defExc e)) :
    FnG P w K mg base 1 A.f_u_law_cell A.d_u_law_cell ["_law_cells", "_law_spot"] (spD K 2 p) := by
  refine fnG_def F.f_u_law_cell sc_u_law_cell (fun cdv Ar outer s H E hcd hr hgd => ?_) hP
  have tk : Takes (cxOf (L2.CX P w) P w K mg base ["_law_cells", "_law_spot", "_law_k", "_law_base", "_law_own", "_law_turn"] "_law_cell" (defScope s_u_law_cell) A.f_u_law_cell cdv Ar outer s H E) (fun cls d _ H2 => E cls d H2) := takes_of rfl rfl rfl rfl
  have po : PassesOwn (model P w) (cxOf (L2.CX P w) P w K mg base ["_law_cells", "_law_spot", "_law_k", "_law_base", "_law_own", "_law_turn"] "_law_cell" (defScope s_u_law_cell) A.f_u_law_cell cdv Ar outer s H E).A (cxOf (L2.CX P w) P w K mg base ["_law_cells", "_law_spot", "_law_k", "_law_base", "_law_own", "_law_turn"] "_law_cell" (defScope s_u_law_cell) A.f_u_law_cell cdv Ar outer s H E).env (cxOf (L2.CX P w) P w K mg base ["_law_cells", "_law_spot", "_law_k", "_law_base", "_law_own", "_law_turn"] "_law_cell" (defScope s_u_law_cell) A.f_u_law_cell cdv Ar outer s H E).xe := passes_of rfl
  unfold sem_u_law_cell
  exact (ds_cons (ds_put (i := 1) rfl (vis_by rfl) (d_op oAddB (d_ixV (i := 1) rfl (vis_by rfl) d_int (fun _ _ => rfl)) d_int) d_int) (ds_cons (ds_set (i := 2) sc_u_law_cell.nd rfl (loc_by rfl) (d_ixV (i := 1) rfl (vis_by rfl) d_int (fun _ _ => rfl))) (ds_cons (ds_set (i := 3) sc_u_law_cell.nd rfl (loc_by rfl) (d_op oAddB (d_op oMul (d_op oMul d_int (d_var (i := 2) rfl (vis_by rfl))) (d_var (i := 2) rfl (vis_by rfl))) (d_op oMul d_int (d_var (i := 2) rfl (vis_by rfl))))) (ds_cons (ds_if (DW.dt (dw_and (d_cmpT oGt (d_callB cLen rfl F.z_len bt_len (da_cons (d_var (i := 0) rfl (vis_by rfl)) da_nil)) d_int (nomark _)) (dw_and (d_cmpT oGe (d_ixV (i := 0) rfl (vis_by rfl) (d_op oMod (d_var (i := 2) rfl (vis_by rfl)) (d_callB cLen rfl F.z_len bt_len (da_cons (d_var (i := 0) rfl (vis_by rfl)) da_nil))) (fun _ _ => rfl)) (d_op oPow d_int d_int) (nomark _)) (dw_and1 (d_cmpT oLt (d_op oDiv (d_var (i := 2) rfl (vis_by rfl)) (d_callB cLen rfl F.z_len bt_len (da_cons (d_var (i := 0) rfl (vis_by rfl)) da_nil))) d_int (nomark _)))))) (ds_cons (ds_set (i := 4) sc_u_law_cell.nd rfl (loc_by rfl) (d_ixV (i := 0) rfl (vis_by rfl) (d_op oMod (d_var (i := 2) rfl (vis_by rfl)) (d_callB cLen rfl F.z_len bt_len (da_cons (d_var (i := 0) rfl (vis_by rfl)) da_nil))) (fun _ _ => rfl))) (ds_cons (ds_forI po rfl (di_range1 rfl F.z_range (d_op oDiv (d_var (i := 2) rfl (vis_by rfl)) (d_callB cLen rfl F.z_len bt_len (da_cons (d_var (i := 0) rfl (vis_by rfl)) da_nil)))) (dg_name (i := 5) sc_u_law_cell.nd rfl (loc_by rfl)) (ds_one (ds_set (i := 4) sc_u_law_cell.nd rfl (loc_by rfl) (d_op oDiv (d_var (i := 4) rfl (vis_by rfl)) d_int)))) (ds_one (ds_if (d_cmpT oGt (d_var (i := 4) rfl (vis_by rfl)) d_int (nomark _)) (ds_one (ds_ret (d_op oMod (d_var (i := 4) rfl (vis_by rfl)) d_int))) ds_nil)))) ds_nil) (ds_cons (ds_if (d_cmpT oGt (d_callB cLen rfl F.z_len bt_len (da_cons (d_var (i := 0) rfl (vis_by rfl)) da_nil)) d_int (nomark _)) (ds_one (ds_set (i := 3) sc_u_law_cell.nd rfl (loc_by rfl) (d_op oAddB (d_var (i := 3) rfl (vis_by rfl)) (d_op oMul (d_op oMod (d_ixV (i := 0) rfl (vis_by rfl) (d_op oMod (d_var (i := 2) rfl (vis_by rfl)) (d_callB cLen rfl F.z_len bt_len (da_cons (d_var (i := 0) rfl (vis_by rfl)) da_nil))) (fun _ _ => rfl)) d_int) (d_op oAddB d_int (d_op oDiv (d_var (i := 2) rfl (vis_by rfl)) (d_callB cLen rfl F.z_len bt_len (da_cons (d_var (i := 0) rfl (vis_by rfl)) da_nil)))))))) ds_nil) (ds_one (ds_ret (d_op oDiv (d_op oMod (d_op oPow (d_op oMod (d_var (i := 3) rfl (vis_by rfl)) d_int) d_int) d_int) d_int))))))))
theorem ok_u_law_low (F : Fct K mg A)     {p : DP} (hP : ∀ rs C k e, p rs C k e → rs.length = 2 ∧ sem_u_law_low K A   (defEnds k) ⟨start3 5 rs, C⟩ (defExc e)) :
    FnG P w K mg base 1 A.f_u_law_low A.d_u_law_low ["_law_above", "_law_below"] (spD K 2 p) := by
  refine fnG_def F.f_u_law_low sc_u_law_low (fun cdv Ar outer s H E hcd hr hgd => ?_) hP
  have tk : Takes (cxOf (L2.CX P w) P w K mg base ["_law_above", "_law_below", "_law_one", "_law_other", "_law_part"] "_law_low" (defScope s_u_law_low) A.f_u_law_low cdv Ar outer s H E) (fun cls d _ H2 => E cls d H2) := takes_of rfl rfl rfl rfl
  have po : PassesOwn (model P w) (cxOf (L2.CX P w) P w K mg base ["_law_above", "_law_below", "_law_one", "_law_other", "_law_part"] "_law_low" (defScope s_u_law_low) A.f_u_law_low cdv Ar outer s H E).A (cxOf (L2.CX P w) P w K mg base ["_law_above", "_law_below", "_law_one", "_law_other", "_law_part"] "_law_low" (defScope s_u_law_low) A.f_u_law_low cdv Ar outer s H E).env (cxOf (L2.CX P w) P w K mg base ["_law_above", "_law_below", "_law_one", "_law_other", "_law_part"] "_law_low" (defScope s_u_law_low) A.f_u_law_low cdv Ar outer s H E).xe := passes_of rfl
  unfold sem_u_law_low
  exact (ds_cons (ds_par (i := 2) (j := 3) rfl sc_u_law_low.nd rfl rfl (by decide) rfl rfl (d_callB cAbs rfl F.z_abs bt_abs (da_cons (d_var (i := 0) rfl (vis_by rfl)) da_nil)) (d_callB cAbs rfl F.z_abs bt_abs (da_cons (d_var (i := 1) rfl (vis_by rfl)) da_nil)) rfl) (ds_cons (ds_while po (d_cmpT (oNeE (hu64 hr)) (d_var (i := 3) rfl (vis_by rfl)) d_int (nomark _)) (ds_one (ds_par (i := 2) (j := 3) rfl sc_u_law_low.nd rfl rfl (by decide) rfl rfl (d_var (i := 3) rfl (vis_by rfl)) (d_op oMod (d_var (i := 2) rfl (vis_by rfl)) (d_var (i := 3) rfl (vis_by rfl))) rfl))) (ds_cons (ds_set (i := 4) sc_u_law_low.nd rfl (loc_by rfl) (d_ifE (d_cmpT oGt (d_var (i := 1) rfl (vis_by rfl)) d_int (nomark _)) (d_var (i := 2) rfl (vis_by rfl)) (d_op oSub d_int (d_var (i := 2) rfl (vis_by rfl))))) (ds_one (ds_ret (d_tup (da_cons (d_op oDiv (d_var (i := 0) rfl (vis_by rfl)) (d_var (i := 4) rfl (vis_by rfl))) (da_cons (d_op oDiv (d_var (i := 1) rfl (vis_by rfl)) (d_var (i := 4) rfl (vis_by rfl))) da_nil))))))))
theorem ok_u_law_heights (F : Fct K mg A) {P_u_law_cell : DP} (G_u_law_cell : FnG P w K mg base 1 A.f_u_law_cell A.d_u_law_cell ["_law_cells", "_law_spot"] (spD K 2 P_u_law_cell)) (l_u_law_cell : ∀ rs C k e, P_u_law_cell rs C k e → rs.length = 2)    {p : DP} (hP : ∀ rs C k e, p rs C k e → rs.length = 5 ∧ sem_u_law_heights K A P_u_law_cell  (defEnds k) ⟨start3 14 rs, C⟩ (defExc e)) :
    FnG P w K mg base 2 A.f_u_law_heights A.d_u_law_heights ["_law_cells", "_law_spot", "_law_wide", "_law_high", "_law_base"] (spD K 5 p) := by
  refine fnG_def F.f_u_law_heights sc_u_law_heights (fun cdv Ar outer s H E hcd hr hgd => ?_) hP
  have tk : Takes (cxOf (L2.CX P w) P w K mg base ["_law_cells", "_law_spot", "_law_wide", "_law_high", "_law_base", "_law_found", "_law_y", "_law_n", "_law_row", "_law_x", "_law_near_here", "_law_ahead", "_law_some", "_law_one"] "_law_heights" (defScope s_u_law_heights) A.f_u_law_heights cdv Ar outer s H E) (fun cls d _ H2 => E cls d H2) := takes_of rfl rfl rfl rfl
  have po : PassesOwn (model P w) (cxOf (L2.CX P w) P w K mg base ["_law_cells", "_law_spot", "_law_wide", "_law_high", "_law_base", "_law_found", "_law_y", "_law_n", "_law_row", "_law_x", "_law_near_here", "_law_ahead", "_law_some", "_law_one"] "_law_heights" (defScope s_u_law_heights) A.f_u_law_heights cdv Ar outer s H E).A (cxOf (L2.CX P w) P w K mg base ["_law_cells", "_law_spot", "_law_wide", "_law_high", "_law_base", "_law_found", "_law_y", "_law_n", "_law_row", "_law_x", "_law_near_here", "_law_ahead", "_law_some", "_law_one"] "_law_heights" (defScope s_u_law_heights) A.f_u_law_heights cdv Ar outer s H E).env (cxOf (L2.CX P w) P w K mg base ["_law_cells", "_law_spot", "_law_wide", "_law_high", "_law_base", "_law_found", "_law_y", "_law_n", "_law_row", "_law_x", "_law_near_here", "_law_ahead", "_law_some", "_law_one"] "_law_heights" (defScope s_u_law_heights) A.f_u_law_heights cdv Ar outer s H E).xe := passes_of rfl
  unfold sem_u_law_heights
  exact (ds_cons (ds_own (i := 5) sc_u_law_heights.nd rfl (loc_by rfl) (d_lst da_nil)) (ds_cons (ds_forI po rfl (di_range1 rfl F.z_range (d_var (i := 3) rfl (vis_by rfl))) (dg_name (i := 6) sc_u_law_heights.nd rfl (loc_by rfl)) (ds_cons (ds_parEL (i := 7) (j := 8) rfl sc_u_law_heights.nd rfl rfl (by decide) rfl rfl (d_call (kk := 1) G_u_law_cell (hr.mono (by omega)) hgd rfl F.m_u_law_cell F.f_u_law_cell.kp F.b_u_law_cell tk (da_cons (d_var (i := 0) rfl (vis_by rfl)) (da_cons (d_var (i := 1) rfl (vis_by rfl)) da_nil)) l_u_law_cell) (d_lst da_nil) rfl) (ds_cons (ds_forI po rfl (di_range1 rfl F.z_range (d_var (i := 2) rfl (vis_by rfl))) (dg_name (i := 9) sc_u_law_heights.nd rfl (loc_by rfl)) (ds_cons (ds_own (i := 10) sc_u_law_heights.nd rfl (loc_by rfl) (d_addL (d_slV (i := 8) rfl (vis_by rfl) (do_some (d_neg d_int)) do_none do_none) (d_fz (d_lcI (own := [("_law_ahead", 11)]) rfl sc_u_law_heights.nd (di_seq (d_slV (i := 5) rfl (vis_by rfl) (do_some (d_neg d_int)) do_none do_none)) (blk_by rfl) (by decide) (fun _ _ _ _ _ => (dg_name (i := 11) sc_u_law_heights.nd rfl (loc_by rfl))) (fun _ _ _ _ _ => dps_nil) (fun _ _ _ _ _ => (d_ixV (i := 11) rfl (vis_by rfl) (d_var (i := 9) rfl (vis_by rfl)) (fun _ _ => rfl))))))) (ds_cons (ds_own (i := 12) sc_u_law_heights.nd rfl (loc_by rfl) (d_lst (da_cons (d_var (i := 4) rfl (vis_by rfl)) (da_cons (d_var (i := 4) rfl (vis_by rfl)) da_nil)))) (ds_cons (ds_if (d_cmpT (oNeE (hu64 hr)) (d_var (i := 10) rfl (vis_by rfl)) (d_fz (d_lst da_nil)) (nomark _)) (ds_cons (ds_own (i := 12) sc_u_law_heights.nd rfl (loc_by rfl) (d_lst (da_cons (d_op oSub (d_ixV (i := 10) rfl (vis_by rfl) d_int (fun _ _ => rfl)) d_int) (da_cons (d_op oAddB (d_ixV (i := 10) rfl (vis_by rfl) d_int (fun _ _ => rfl)) d_int) da_nil)))) (ds_one (ds_setLcI (i := 12) (own := [("_law_one", 13)]) rfl sc_u_law_heights.nd rfl rfl rfl (di_seq (d_var (i := 12) rfl (vis_by rfl))) (blk_by rfl) (by decide) (fun _ _ _ _ _ => (dg_name (i := 13) sc_u_law_heights.nd rfl (loc_by rfl))) (fun _ _ _ _ _ => (dps_one (d_cmpT (oEqE (hu64 hr)) (d_callB cAbs rfl F.z_abs bt_abs (da_cons (d_op oSub (d_var (i := 13) rfl (vis_by rfl)) (d_ixV (i := 10) rfl (vis_by rfl) (d_neg d_int) (fun _ _ => rfl))) da_nil)) d_int (nomark _)))) (fun _ _ _ _ _ => (d_var (i := 13) rfl (vis_by rfl)))))) ds_nil) (ds_one (ds_app (i := 8) rfl rfl (vis_by rfl) (d_ixV (i := 12) rfl (vis_by rfl) (d_op oMod (d_op oAnd (d_op oShr (d_var (i := 7) rfl (vis_by rfl)) (d_var (i := 9) rfl (vis_by rfl))) d_int) (d_callB cLen rfl F.z_len bt_len (da_cons (d_var (i := 12) rfl (vis_by rfl)) da_nil))) (fun _ _ => rfl)) rfl rfl rfl rfl rfl rfl rfl rfl)))))) (ds_one (ds_app (i := 5) rfl rfl (vis_by rfl) (d_callTy cTupOf rfl F.z_tuple bt_tuple (da_cons (d_var (i := 8) rfl (vis_by rfl)) da_nil)) rfl rfl rfl rfl rfl rfl rfl rfl))))) (ds_one (ds_ret (d_callTy cTupOf rfl F.z_tuple bt_tuple (da_cons (d_var (i := 5) rfl (vis_by rfl)) da_nil))))))
theorem ok_u_law_worths (F : Fct K mg A) {P_u_law_cell : DP} (G_u_law_cell : FnG P w K mg base 1 A.f_u_law_cell A.d_u_law_cell ["_law_cells", "_law_spot"] (spD K 2 P_u_law_cell)) (l_u_law_cell : ∀ rs C k e, P_u_law_cell rs C k e → rs.length = 2) {P_u_law_low : DP} (G_u_law_low : FnG P w K mg base 1 A.f_u_law_low A.d_u_law_low ["_law_above", "_law_below"] (spD K 2 P_u_law_low)) (l_u_law_low : ∀ rs C k e, P_u_law_low rs C k e → rs.length = 2)    {p : DP} (hP : ∀ rs C k e, p rs C k e → rs.length = 5 ∧ sem_u_law_worths K A P_u_law_cell P_u_law_low  (defEnds k) ⟨start3 14 rs, C⟩ (defExc e)) :
    FnG P w K mg base 2 A.f_u_law_worths A.d_u_law_worths ["_law_cells", "_law_spot", "_law_wide", "_law_high", "_law_sort"] (spD K 5 p) := by
  refine fnG_def F.f_u_law_worths sc_u_law_worths (fun cdv Ar outer s H E hcd hr hgd => ?_) hP
  have tk : Takes (cxOf (L2.CX P w) P w K mg base ["_law_cells", "_law_spot", "_law_wide", "_law_high", "_law_sort", "_law_found", "_law_y", "_law_row", "_law_x", "_law_n", "_law_above", "_law_below", "_law_far", "_law_some"] "_law_worths" (defScope s_u_law_worths) A.f_u_law_worths cdv Ar outer s H E) (fun cls d _ H2 => E cls d H2) := takes_of rfl rfl rfl rfl
  have po : PassesOwn (model P w) (cxOf (L2.CX P w) P w K mg base ["_law_cells", "_law_spot", "_law_wide", "_law_high", "_law_sort", "_law_found", "_law_y", "_law_row", "_law_x", "_law_n", "_law_above", "_law_below", "_law_far", "_law_some"] "_law_worths" (defScope s_u_law_worths) A.f_u_law_worths cdv Ar outer s H E).A (cxOf (L2.CX P w) P w K mg base ["_law_cells", "_law_spot", "_law_wide", "_law_high", "_law_sort", "_law_found", "_law_y", "_law_row", "_law_x", "_law_n", "_law_above", "_law_below", "_law_far", "_law_some"] "_law_worths" (defScope s_u_law_worths) A.f_u_law_worths cdv Ar outer s H E).env (cxOf (L2.CX P w) P w K mg base ["_law_cells", "_law_spot", "_law_wide", "_law_high", "_law_sort", "_law_found", "_law_y", "_law_row", "_law_x", "_law_n", "_law_above", "_law_below", "_law_far", "_law_some"] "_law_worths" (defScope s_u_law_worths) A.f_u_law_worths cdv Ar outer s H E).xe := passes_of rfl
  unfold sem_u_law_worths
  exact (ds_cons (ds_own (i := 5) sc_u_law_worths.nd rfl (loc_by rfl) (d_lst da_nil)) (ds_cons (ds_forI po rfl (di_range1 rfl F.z_range (d_var (i := 3) rfl (vis_by rfl))) (dg_name (i := 6) sc_u_law_worths.nd rfl (loc_by rfl)) (ds_cons (ds_own (i := 7) sc_u_law_worths.nd rfl (loc_by rfl) (d_lst da_nil)) (ds_cons (ds_forI po rfl (di_range1 rfl F.z_range (d_var (i := 2) rfl (vis_by rfl))) (dg_name (i := 8) sc_u_law_worths.nd rfl (loc_by rfl)) (ds_cons (ds_set (i := 9) sc_u_law_worths.nd rfl (loc_by rfl) (d_call (kk := 1) G_u_law_cell (hr.mono (by omega)) hgd rfl F.m_u_law_cell F.f_u_law_cell.kp F.b_u_law_cell tk (da_cons (d_var (i := 0) rfl (vis_by rfl)) (da_cons (d_var (i := 1) rfl (vis_by rfl)) da_nil)) l_u_law_cell)) (ds_cons (ds_par (i := 10) (j := 11) rfl sc_u_law_worths.nd rfl rfl (by decide) rfl rfl (d_op oAddB d_int (d_op oMod (d_var (i := 9) rfl (vis_by rfl)) d_int)) (d_op oAddB d_int (d_op oMod (d_op oDiv (d_var (i := 9) rfl (vis_by rfl)) d_int) d_int)) rfl) (ds_cons (ds_set (i := 12) sc_u_law_worths.nd rfl (loc_by rfl) (d_op oMul (d_var (i := 10) rfl (vis_by rfl)) (d_op oSub d_int (d_op oMul (d_op oMod (d_op oDiv (d_var (i := 9) rfl (vis_by rfl)) d_int) d_int) d_int)))) (ds_cons (ds_own (i := 13) sc_u_law_worths.nd rfl (loc_by rfl) (d_lst (da_cons (d_tup (da_cons d_int (da_cons d_int da_nil))) (da_cons (d_tup (da_cons (d_var (i := 10) rfl (vis_by rfl)) (da_cons d_int da_nil))) (da_cons (d_call (kk := 1) G_u_law_low (hr.mono (by omega)) hgd rfl F.m_u_law_low F.f_u_law_low.kp F.b_u_law_low tk (da_cons (d_var (i := 10) rfl (vis_by rfl)) (da_cons (d_var (i := 11) rfl (vis_by rfl)) da_nil)) l_u_law_low) da_nil))))) (ds_one (ds_app (i := 7) rfl rfl (vis_by rfl) (d_ix (d_fz (d_addL (d_var (i := 13) rfl (vis_by rfl)) (d_fz (d_lst (da_cons (d_call (kk := 1) G_u_law_low (hr.mono (by omega)) hgd rfl F.m_u_law_low F.f_u_law_low.kp F.b_u_law_low tk (da_cons (d_var (i := 12) rfl (vis_by rfl)) (da_cons (d_var (i := 11) rfl (vis_by rfl)) da_nil)) l_u_law_low) da_nil))))) (d_var (i := 4) rfl (vis_by rfl)) (fun _ _ => rfl)) rfl rfl rfl rfl rfl rfl rfl rfl))))))) (ds_one (ds_app (i := 5) rfl rfl (vis_by rfl) (d_callTy cTupOf rfl F.z_tuple bt_tuple (da_cons (d_var (i := 7) rfl (vis_by rfl)) da_nil)) rfl rfl rfl rfl rfl rfl rfl rfl))))) (ds_one (ds_ret (d_callTy cTupOf rfl F.z_tuple bt_tuple (da_cons (d_var (i := 5) rfl (vis_by rfl)) da_nil))))))
theorem ok_u_law_field (F : Fct K mg A) {P_u_law_cell : DP} (G_u_law_cell : FnG P w K mg base 1 A.f_u_law_cell A.d_u_law_cell ["_law_cells", "_law_spot"] (spD K 2 P_u_law_cell)) (l_u_law_cell : ∀ rs C k e, P_u_law_cell rs C k e → rs.length = 2) {P_u_law_heights : DP} (G_u_law_heights : FnG P w K mg base 2 A.f_u_law_heights A.d_u_law_heights ["_law_cells", "_law_spot", "_law_wide", "_law_high", "_law_base"] (spD K 5 P_u_law_heights)) (l_u_law_heights : ∀ rs C k e, P_u_law_heights rs C k e → rs.length = 5) {P_u_law_worths : DP} (G_u_law_worths : FnG P w K mg base 2 A.f_u_law_worths A.d_u_law_worths ["_law_cells", "_law_spot", "_law_wide", "_law_high", "_law_sort"] (spD K 5 P_u_law_worths)) (l_u_law_worths : ∀ rs C k e, P_u_law_worths rs C k e → rs.length = 5)    {p : DP} (hP : ∀ rs C k e, p rs C k e → rs.length = 4 ∧ sem_u_law_field K A P_u_law_cell P_u_law_heights P_u_law_worths  (defEnds k) ⟨start3 9 rs, C⟩ (defExc e)) :
    FnG P w K mg base 3 A.f_u_law_field A.d_u_law_field ["_law_cells", "_law_spot", "_law_least", "_law_most"] (spD K 4 p) := by
  refine fnG_def F.f_u_law_field sc_u_law_field (fun cdv Ar outer s H E hcd hr hgd => ?_) hP
  have tk : Takes (cxOf (L2.CX P w) P w K mg base ["_law_cells", "_law_spot", "_law_least", "_law_most", "_law_n", "_law_size", "_law_wide", "_law_high", "_law_heights_here"] "_law_field" (defScope s_u_law_field) A.f_u_law_field cdv Ar outer s H E) (fun cls d _ H2 => E cls d H2) := takes_of rfl rfl rfl rfl
  have po : PassesOwn (model P w) (cxOf (L2.CX P w) P w K mg base ["_law_cells", "_law_spot", "_law_least", "_law_most", "_law_n", "_law_size", "_law_wide", "_law_high", "_law_heights_here"] "_law_field" (defScope s_u_law_field) A.f_u_law_field cdv Ar outer s H E).A (cxOf (L2.CX P w) P w K mg base ["_law_cells", "_law_spot", "_law_least", "_law_most", "_law_n", "_law_size", "_law_wide", "_law_high", "_law_heights_here"] "_law_field" (defScope s_u_law_field) A.f_u_law_field cdv Ar outer s H E).env (cxOf (L2.CX P w) P w K mg base ["_law_cells", "_law_spot", "_law_least", "_law_most", "_law_n", "_law_size", "_law_wide", "_law_high", "_law_heights_here"] "_law_field" (defScope s_u_law_field) A.f_u_law_field cdv Ar outer s H E).xe := passes_of rfl
  unfold sem_u_law_field
  exact (ds_cons (ds_par (i := 4) (j := 5) rfl sc_u_law_field.nd rfl rfl (by decide) rfl rfl (d_call (kk := 1) G_u_law_cell (hr.mono (by omega)) hgd rfl F.m_u_law_cell F.f_u_law_cell.kp F.b_u_law_cell tk (da_cons (d_var (i := 0) rfl (vis_by rfl)) (da_cons (d_var (i := 1) rfl (vis_by rfl)) da_nil)) l_u_law_cell) (d_op oAddB (d_op oSub (d_var (i := 3) rfl (vis_by rfl)) (d_var (i := 2) rfl (vis_by rfl))) d_int) rfl) (ds_cons (ds_par (i := 6) (j := 7) rfl sc_u_law_field.nd rfl rfl (by decide) rfl rfl (d_op oAddB (d_var (i := 2) rfl (vis_by rfl)) (d_op oMod (d_var (i := 4) rfl (vis_by rfl)) (d_var (i := 5) rfl (vis_by rfl)))) (d_op oAddB (d_var (i := 2) rfl (vis_by rfl)) (d_op oMod (d_op oDiv (d_var (i := 4) rfl (vis_by rfl)) d_int) (d_var (i := 5) rfl (vis_by rfl)))) rfl) (ds_cons (ds_set (i := 8) sc_u_law_field.nd rfl (loc_by rfl) (d_call (kk := 2) G_u_law_heights (hr.mono (by omega)) hgd rfl F.m_u_law_heights F.f_u_law_heights.kp F.b_u_law_heights tk (da_cons (d_var (i := 0) rfl (vis_by rfl)) (da_cons (d_var (i := 1) rfl (vis_by rfl)) (da_cons (d_var (i := 6) rfl (vis_by rfl)) (da_cons (d_var (i := 7) rfl (vis_by rfl)) (da_cons (d_op oSub (d_op oMul d_int (d_op oMod (d_op oDiv (d_var (i := 4) rfl (vis_by rfl)) d_int) d_int)) d_int) da_nil))))) l_u_law_heights)) (ds_one (ds_ret (d_tup (da_cons (d_var (i := 8) rfl (vis_by rfl)) (da_cons (d_call (kk := 2) G_u_law_worths (hr.mono (by omega)) hgd rfl F.m_u_law_worths F.f_u_law_worths.kp F.b_u_law_worths tk (da_cons (d_var (i := 0) rfl (vis_by rfl)) (da_cons (d_var (i := 1) rfl (vis_by rfl)) (da_cons (d_var (i := 6) rfl (vis_by rfl)) (da_cons (d_var (i := 7) rfl (vis_by rfl)) (da_cons (d_op oMod (d_op oDiv (d_var (i := 4) rfl (vis_by rfl)) d_int) d_int) da_nil))))) l_u_law_worths) da_nil))))))))
theorem body_u_law_asked (F : Fct K mg A)  (cdv : Value) {Ar : Around} {outer : List Env} {s : Shared} {H : Hp} {E : XK} {TT : SV} {Pt : TP} {kr : Nat} (hr0 : Room kr (Ar.deeper (envOfC "_law_asked" (defScope s_u_law_asked) s.heap.objs.size A.f_u_law_asked cdv))) (hkr : 0 ≤ kr) (hgd : Ar.guards = some [])
    (hthk : ∀ (W : WX) (pn : List (Addr × Obj)) (xe : Value → Shared → Prop) (p1 p2 : Pos), Takes ((cxOf (L2.CX P w) P w K mg base ["_law_deed", "_law_wrong", "_law_found", "error", "_law_some", "_law_words", "_law_word", "_law_is_it", "_law_kinds", "_law_own"] "_law_asked" (defScope s_u_law_asked) A.f_u_law_asked cdv Ar outer s H E).tr pn xe) W → DE ((cxOf (L2.CX P w) P w K mg base ["_law_deed", "_law_wrong", "_law_found", "error", "_law_some", "_law_words", "_law_word", "_law_is_it", "_law_kinds", "_law_own"] "_law_asked" (defScope s_u_law_asked) A.f_u_law_asked cdv Ar outer s H E).tr pn xe) W (.Call (.Name "_law_deed" p1) [] [] p2) (dThk TT Pt)) :
    DSs (cxOf (L2.CX P w) P w K mg base ["_law_deed", "_law_wrong", "_law_found", "error", "_law_some", "_law_words", "_law_word", "_law_is_it", "_law_kinds", "_law_own"] "_law_asked" (defScope s_u_law_asked) A.f_u_law_asked cdv Ar outer s H E) (fun cls d _ H2 => E cls d H2) (defBody s_u_law_asked) (sem_u_law_asked K A   TT Pt) := by
  have hr := hr0.mono hkr
  have tk : Takes (cxOf (L2.CX P w) P w K mg base ["_law_deed", "_law_wrong", "_law_found", "error", "_law_some", "_law_words", "_law_word", "_law_is_it", "_law_kinds", "_law_own"] "_law_asked" (defScope s_u_law_asked) A.f_u_law_asked cdv Ar outer s H E) (fun cls d _ H2 => E cls d H2) := takes_of rfl rfl rfl rfl
  have po : PassesOwn (model P w) (cxOf (L2.CX P w) P w K mg base ["_law_deed", "_law_wrong", "_law_found", "error", "_law_some", "_law_words", "_law_word", "_law_is_it", "_law_kinds", "_law_own"] "_law_asked" (defScope s_u_law_asked) A.f_u_law_asked cdv Ar outer s H E).A (cxOf (L2.CX P w) P w K mg base ["_law_deed", "_law_wrong", "_law_found", "error", "_law_some", "_law_words", "_law_word", "_law_is_it", "_law_kinds", "_law_own"] "_law_asked" (defScope s_u_law_asked) A.f_u_law_asked cdv Ar outer s H E).env (cxOf (L2.CX P w) P w K mg base ["_law_deed", "_law_wrong", "_law_found", "error", "_law_some", "_law_words", "_law_word", "_law_is_it", "_law_kinds", "_law_own"] "_law_asked" (defScope s_u_law_asked) A.f_u_law_asked cdv Ar outer s H E).xe := passes_of rfl
  unfold sem_u_law_asked
  exact (ds_cons (ds_asg (d_tup (da_cons d_non (da_cons d_non da_nil))) (dg_tup rfl (dgs_cons (dg_name (i := 1) sc_u_law_asked.nd rfl (loc_by rfl)) (dgs_cons (dg_name (i := 2) sc_u_law_asked.nd rfl (loc_by rfl)) dgs_nil)))) (ds_cons (ds_try_law (good := (fun C => PySem.W.exmAny K (.ref C) [.ref A.c_HollowError, .ref A.c_DeedError, .ref A.c_BookError] = some true)) (i := 3) (j := 1) rfl rfl rfl sc_u_law_asked.nd rfl rfl rfl (loc_by rfl) (.inl rfl) (clause_three rfl F.mc_HollowError rfl F.mc_DeedError rfl F.mc_BookError (fun _ h => h)) rfl rfl rfl (fun W pn xe tk po => (ds_one (ds_set (i := 2) sc_u_law_asked.nd rfl (loc_by rfl) (hthk _ _ _ _ _ tk))))) (ds_cons (ds_if (d_cmpT oIs2 (d_var (i := 1) rfl (vis_by rfl)) d_non (nomark _)) (ds_one (ds_ret (d_fz (d_lst (da_cons (d_var (i := 2) rfl (vis_by rfl)) da_nil))))) ds_nil) (ds_cons (ds_own (i := 4) sc_u_law_asked.nd rfl (loc_by rfl) (d_lst (da_cons (d_tup (da_cons d_str (da_cons (d_callB cIsiF rfl F.z_isinstance bt_isinstance (da_cons (d_var (i := 1) rfl (vis_by rfl)) (da_cons (d_glob (v := .ref A.c_BadField) rfl F.mc_BadField rfl (fun _ _ => rfl)) da_nil))) da_nil))) (da_cons (d_tup (da_cons d_str (da_cons (d_callB cIsiF rfl F.z_isinstance bt_isinstance (da_cons (d_var (i := 1) rfl (vis_by rfl)) (da_cons (d_glob (v := .ref A.c_BadFraction) rfl F.mc_BadFraction rfl (fun _ _ => rfl)) da_nil))) da_nil))) da_nil)))) (ds_cons (ds_own (i := 4) sc_u_law_asked.nd rfl (loc_by rfl) (d_addL (d_var (i := 4) rfl (vis_by rfl)) (d_fz (d_lst (da_cons (d_tup (da_cons d_str (da_cons (d_callB cIsiF rfl F.z_isinstance bt_isinstance (da_cons (d_var (i := 1) rfl (vis_by rfl)) (da_cons (d_glob (v := .ref A.c_BadRule) rfl F.mc_BadRule rfl (fun _ _ => rfl)) da_nil))) da_nil))) (da_cons (d_tup (da_cons d_str (da_cons (d_callB cIsiF rfl F.z_isinstance bt_isinstance (da_cons (d_var (i := 1) rfl (vis_by rfl)) (da_cons (d_glob (v := .ref A.c_BadSpot) rfl F.mc_BadSpot rfl (fun _ _ => rfl)) da_nil))) da_nil))) da_nil)))))) (ds_cons (ds_own (i := 4) sc_u_law_asked.nd rfl (loc_by rfl) (d_addL (d_var (i := 4) rfl (vis_by rfl)) (d_fz (d_lst (da_cons (d_tup (da_cons d_str (da_cons (d_callB cIsiF rfl F.z_isinstance bt_isinstance (da_cons (d_var (i := 1) rfl (vis_by rfl)) (da_cons (d_glob (v := .ref A.c_BadTarget) rfl F.mc_BadTarget rfl (fun _ _ => rfl)) da_nil))) da_nil))) (da_cons (d_tup (da_cons d_str (da_cons (d_callB cIsiF rfl F.z_isinstance bt_isinstance (da_cons (d_var (i := 1) rfl (vis_by rfl)) (da_cons (d_glob (v := .ref A.c_BadRow) rfl F.mc_BadRow rfl (fun _ _ => rfl)) da_nil))) da_nil))) da_nil)))))) (ds_cons (ds_app (i := 4) rfl rfl (vis_by rfl) (d_tup (da_cons d_str (da_cons (d_callB cIsiF rfl F.z_isinstance bt_isinstance (da_cons (d_var (i := 1) rfl (vis_by rfl)) (da_cons (d_glob (v := .ref A.c_BadHeights) rfl F.mc_BadHeights rfl (fun _ _ => rfl)) da_nil))) da_nil))) rfl rfl rfl rfl rfl rfl rfl rfl) (ds_cons (ds_app (i := 4) rfl rfl (vis_by rfl) (d_tup (da_cons d_str (da_cons (d_callB cIsiF rfl F.z_isinstance bt_isinstance (da_cons (d_var (i := 1) rfl (vis_by rfl)) (da_cons (d_glob (v := .ref A.c_TooGreat) rfl F.mc_TooGreat rfl (fun _ _ => rfl)) da_nil))) da_nil))) rfl rfl rfl rfl rfl rfl rfl rfl) (ds_cons (ds_own (i := 4) sc_u_law_asked.nd rfl (loc_by rfl) (d_addL (d_var (i := 4) rfl (vis_by rfl)) (d_fz (d_lst (da_cons (d_tup (da_cons d_str (da_cons (d_callB cIsiF rfl F.z_isinstance bt_isinstance (da_cons (d_var (i := 1) rfl (vis_by rfl)) (da_cons (d_glob (v := .ref A.c_NoHollow) rfl F.mc_NoHollow rfl (fun _ _ => rfl)) da_nil))) da_nil))) (da_cons (d_tup (da_cons d_str (da_cons (d_callB cIsiF rfl F.z_isinstance bt_isinstance (da_cons (d_var (i := 1) rfl (vis_by rfl)) (da_cons (d_glob (v := .ref A.c_NoPeak) rfl F.mc_NoPeak rfl (fun _ _ => rfl)) da_nil))) da_nil))) da_nil)))))) (ds_cons (ds_own (i := 4) sc_u_law_asked.nd rfl (loc_by rfl) (d_addL (d_var (i := 4) rfl (vis_by rfl)) (d_fz (d_lst (da_cons (d_tup (da_cons d_str (da_cons (d_callB cIsiF rfl F.z_isinstance bt_isinstance (da_cons (d_var (i := 1) rfl (vis_by rfl)) (da_cons (d_glob (v := .ref A.c_Nought) rfl F.mc_Nought rfl (fun _ _ => rfl)) da_nil))) da_nil))) (da_cons (d_tup (da_cons d_str (da_cons (d_callB cIsiF rfl F.z_isinstance bt_isinstance (da_cons (d_var (i := 1) rfl (vis_by rfl)) (da_cons (d_glob (v := .ref A.c_Gone) rfl F.mc_Gone rfl (fun _ _ => rfl)) da_nil))) da_nil))) da_nil)))))) (ds_cons (ds_app (i := 4) rfl rfl (vis_by rfl) (d_tup (da_cons d_str (da_cons (d_isiT (d_var (i := 1) rfl (vis_by rfl)) (da_cons (d_glob (v := .ref A.c_BadPairing) rfl F.mc_BadPairing rfl (fun _ _ => rfl)) (da_cons (d_glob (v := .ref A.c_BadPaper) rfl F.mc_BadPaper rfl (fun _ _ => rfl)) (da_cons (d_glob (v := .ref A.c_BadCoin) rfl F.mc_BadCoin rfl (fun _ _ => rfl)) (da_cons (d_glob (v := .ref A.c_TooFew) rfl F.mc_TooFew rfl (fun _ _ => rfl)) (da_cons (d_glob (v := .ref A.c_BadText) rfl F.mc_BadText rfl (fun _ _ => rfl)) da_nil))))) rfl F.z_isinstance bt_isinstance) da_nil))) rfl rfl rfl rfl rfl rfl rfl rfl) (ds_cons (ds_setLcI (i := 5) (own := [("_law_word", 6), ("_law_is_it", 7)]) rfl sc_u_law_asked.nd rfl rfl rfl (di_seq (d_var (i := 4) rfl (vis_by rfl))) (blk_by rfl) (by decide) (fun _ _ _ _ _ => (dg_tup rfl (dgs_cons (dg_name (i := 6) sc_u_law_asked.nd rfl (loc_by rfl)) (dgs_cons (dg_name (i := 7) sc_u_law_asked.nd rfl (loc_by rfl)) dgs_nil)))) (fun _ _ _ _ _ => (dps_one (d_truth (d_var (i := 7) rfl (vis_by rfl))))) (fun _ _ _ _ _ => (d_var (i := 6) rfl (vis_by rfl)))) (ds_cons (ds_own (i := 8) sc_u_law_asked.nd rfl (loc_by rfl) (d_lst (da_cons (d_callB cIsiF rfl F.z_isinstance bt_isinstance (da_cons (d_var (i := 1) rfl (vis_by rfl)) (da_cons (d_bltn rfl F.z_ValueError bt_ValueError rfl) da_nil))) (da_cons (d_callB cIsiF rfl F.z_isinstance bt_isinstance (da_cons (d_var (i := 1) rfl (vis_by rfl)) (da_cons (d_bltn rfl F.z_RuntimeError bt_RuntimeError rfl) da_nil))) da_nil)))) (ds_cons (ds_own (i := 9) sc_u_law_asked.nd rfl (loc_by rfl) (d_lst (da_cons (d_callB cIsiF rfl F.z_isinstance bt_isinstance (da_cons (d_var (i := 1) rfl (vis_by rfl)) (da_cons (d_glob (v := .ref A.c_HollowError) rfl F.mc_HollowError rfl (fun _ _ => rfl)) da_nil))) (da_cons (d_callB cIsiF rfl F.z_isinstance bt_isinstance (da_cons (d_var (i := 1) rfl (vis_by rfl)) (da_cons (d_glob (v := .ref A.c_DeedError) rfl F.mc_DeedError rfl (fun _ _ => rfl)) da_nil))) da_nil)))) (ds_cons (ds_app (i := 8) rfl rfl (vis_by rfl) (d_callB cIsiF rfl F.z_isinstance bt_isinstance (da_cons (d_var (i := 1) rfl (vis_by rfl)) (da_cons (d_bltn rfl F.z_LookupError bt_LookupError rfl) da_nil))) rfl rfl rfl rfl rfl rfl rfl rfl) (ds_cons (ds_app (i := 9) rfl rfl (vis_by rfl) (d_callB cIsiF rfl F.z_isinstance bt_isinstance (da_cons (d_var (i := 1) rfl (vis_by rfl)) (da_cons (d_glob (v := .ref A.c_BookError) rfl F.mc_BookError rfl (fun _ _ => rfl)) da_nil))) rfl rfl rfl rfl rfl rfl rfl rfl) (ds_cons (ds_if (DW.dt (dw_or (d_cmpT (oNeE (hu64 hr)) (d_callB cLen rfl F.z_len bt_len (da_cons (d_var (i := 5) rfl (vis_by rfl)) da_nil)) d_int (nomark _)) (dw_or (d_cmpT (oNeE (hu64 hr)) (d_var (i := 8) rfl (vis_by rfl)) (d_var (i := 9) rfl (vis_by rfl)) (nomark _)) (dw_or1 (d_cmpT (oNeE (hu64 hr)) (d_cnt (d_var (i := 9) rfl (vis_by rfl)) d_bl) d_int (nomark _)))))) (ds_one (ds_ret d_str)) ds_nil) (ds_cons (ds_if (d_cmpT oIn (d_ixV (i := 5) rfl (vis_by rfl) d_int (fun _ _ => rfl)) (d_tup (da_cons d_str (da_cons d_str (da_cons d_str da_nil)))) rfl) (ds_one (ds_ret (d_tup (da_cons (d_ixV (i := 5) rfl (vis_by rfl) d_int (fun _ _ => rfl)) (da_cons (d_fld (i := 1) rfl (vis_by rfl)) da_nil))))) ds_nil) (ds_cons (ds_if (d_cmpT (oEqE (hu64 hr)) (d_ixV (i := 5) rfl (vis_by rfl) d_int (fun _ _ => rfl)) d_str (nomark _)) (ds_one (ds_ret (d_tup (da_cons d_str (da_cons (d_fld (i := 1) rfl (vis_by rfl)) da_nil))))) ds_nil) (ds_cons (ds_if (d_cmpT (oEqE (hu64 hr)) (d_ixV (i := 5) rfl (vis_by rfl) d_int (fun _ _ => rfl)) d_str (nomark _)) (ds_one (ds_ret (d_tup (da_cons d_str (da_cons (d_fld (i := 1) rfl (vis_by rfl)) da_nil))))) ds_nil) (ds_one (ds_ret (d_ifE (d_cmpT (oEqE (hu64 hr)) (d_ixV (i := 5) rfl (vis_by rfl) d_int (fun _ _ => rfl)) d_str (nomark _)) (d_tup (da_cons d_str (da_cons (d_fld (i := 1) rfl (vis_by rfl)) da_nil))) (d_ixV (i := 5) rfl (vis_by rfl) d_int (fun _ _ => rfl)))))))))))))))))))))))))
theorem ok_u_law_spots (F : Fct K mg A)     {p : DP} (hP : ∀ rs C k e, p rs C k e → rs.length = 2 ∧ sem_u_law_spots K A   (defEnds k) ⟨start3 5 rs, C⟩ (defExc e)) :
    FnG P w K mg base 1 A.f_u_law_spots A.d_u_law_spots ["_law_wide", "_law_high"] (spD K 2 p) := by
  refine fnG_def F.f_u_law_spots sc_u_law_spots (fun cdv Ar outer s H E hcd hr hgd => ?_) hP
  have tk : Takes (cxOf (L2.CX P w) P w K mg base ["_law_wide", "_law_high", "_law_found", "_law_x", "_law_y"] "_law_spots" (defScope s_u_law_spots) A.f_u_law_spots cdv Ar outer s H E) (fun cls d _ H2 => E cls d H2) := takes_of rfl rfl rfl rfl
  have po : PassesOwn (model P w) (cxOf (L2.CX P w) P w K mg base ["_law_wide", "_law_high", "_law_found", "_law_x", "_law_y"] "_law_spots" (defScope s_u_law_spots) A.f_u_law_spots cdv Ar outer s H E).A (cxOf (L2.CX P w) P w K mg base ["_law_wide", "_law_high", "_law_found", "_law_x", "_law_y"] "_law_spots" (defScope s_u_law_spots) A.f_u_law_spots cdv Ar outer s H E).env (cxOf (L2.CX P w) P w K mg base ["_law_wide", "_law_high", "_law_found", "_law_x", "_law_y"] "_law_spots" (defScope s_u_law_spots) A.f_u_law_spots cdv Ar outer s H E).xe := passes_of rfl
  unfold sem_u_law_spots
  exact (ds_cons (ds_own (i := 2) sc_u_law_spots.nd rfl (loc_by rfl) (d_lst da_nil)) (ds_cons (ds_forI po rfl (di_range1 rfl F.z_range (d_var (i := 0) rfl (vis_by rfl))) (dg_name (i := 3) sc_u_law_spots.nd rfl (loc_by rfl)) (ds_one (ds_ext (i := 2) rfl rfl (vis_by rfl) (d_fz (d_lcI (own := [("_law_y", 4)]) rfl sc_u_law_spots.nd (di_range1 rfl F.z_range (d_var (i := 1) rfl (vis_by rfl))) (blk_by rfl) (by decide) (fun _ _ _ _ _ => (dg_name (i := 4) sc_u_law_spots.nd rfl (loc_by rfl))) (fun _ _ _ _ _ => dps_nil) (fun _ _ _ _ _ => (d_tup (da_cons (d_var (i := 3) rfl (vis_by rfl)) (da_cons (d_var (i := 4) rfl (vis_by rfl)) da_nil)))))) rfl rfl rfl rfl rfl rfl rfl rfl))) (ds_one (ds_ret (d_var (i := 2) rfl (vis_by rfl))))))
theorem ok_u_law_near (F : Fct K mg A)     {p : DP} (hP : ∀ rs C k e, p rs C k e → rs.length = 2 ∧ sem_u_law_near K A   (defEnds k) ⟨start3 5 rs, C⟩ (defExc e)) :
    FnG P w K mg base 1 A.f_u_law_near A.d_u_law_near ["_law_some", "_law_spot"] (spD K 2 p) := by
  refine fnG_def F.f_u_law_near sc_u_law_near (fun cdv Ar outer s H E hcd hr hgd => ?_) hP
  have tk : Takes (cxOf (L2.CX P w) P w K mg base ["_law_some", "_law_spot", "_law_x", "_law_y", "_law_one"] "_law_near" (defScope s_u_law_near) A.f_u_law_near cdv Ar outer s H E) (fun cls d _ H2 => E cls d H2) := takes_of rfl rfl rfl rfl
  have po : PassesOwn (model P w) (cxOf (L2.CX P w) P w K mg base ["_law_some", "_law_spot", "_law_x", "_law_y", "_law_one"] "_law_near" (defScope s_u_law_near) A.f_u_law_near cdv Ar outer s H E).A (cxOf (L2.CX P w) P w K mg base ["_law_some", "_law_spot", "_law_x", "_law_y", "_law_one"] "_law_near" (defScope s_u_law_near) A.f_u_law_near cdv Ar outer s H E).env (cxOf (L2.CX P w) P w K mg base ["_law_some", "_law_spot", "_law_x", "_law_y", "_law_one"] "_law_near" (defScope s_u_law_near) A.f_u_law_near cdv Ar outer s H E).xe := passes_of rfl
  unfold sem_u_law_near
  exact (ds_cons (ds_asg (d_var (i := 1) rfl (vis_by rfl)) (dg_tup rfl (dgs_cons (dg_name (i := 2) sc_u_law_near.nd rfl (loc_by rfl)) (dgs_cons (dg_name (i := 3) sc_u_law_near.nd rfl (loc_by rfl)) dgs_nil)))) (ds_one (ds_ret (d_callTy cTupOf rfl F.z_tuple bt_tuple (da_cons (d_fz (d_lcI (own := [("_law_one", 4)]) rfl sc_u_law_near.nd (di_seq (d_var (i := 0) rfl (vis_by rfl))) (blk_by rfl) (by decide) (fun _ _ _ _ _ => (dg_name (i := 4) sc_u_law_near.nd rfl (loc_by rfl))) (fun _ _ _ _ _ => (dps_one (d_cmpT (oEqE (hu64 hr)) (d_op oAddB (d_callB cAbs rfl F.z_abs bt_abs (da_cons (d_op oSub (d_ixV (i := 4) rfl (vis_by rfl) d_int (fun _ _ => rfl)) (d_var (i := 2) rfl (vis_by rfl))) da_nil)) (d_callB cAbs rfl F.z_abs bt_abs (da_cons (d_op oSub (d_ixV (i := 4) rfl (vis_by rfl) d_int (fun _ _ => rfl)) (d_var (i := 3) rfl (vis_by rfl))) da_nil))) d_int (nomark _)))) (fun _ _ _ _ _ => (d_var (i := 4) rfl (vis_by rfl))))) da_nil)))))
theorem ok_u_law_whole_right (F : Fct K mg A) {P_u_law_spots : DP} (G_u_law_spots : FnG P w K mg base 1 A.f_u_law_spots A.d_u_law_spots ["_law_wide", "_law_high"] (spD K 2 P_u_law_spots)) (l_u_law_spots : ∀ rs C k e, P_u_law_spots rs C k e → rs.length = 2) {P_u_law_near : DP} (G_u_law_near : FnG P w K mg base 1 A.f_u_law_near A.d_u_law_near ["_law_some", "_law_spot"] (spD K 2 P_u_law_near)) (l_u_law_near : ∀ rs C k e, P_u_law_near rs C k e → rs.length = 2) {P_p_inner : DP} (G_p_inner : FnG P w K mg base 6 A.f_p_inner A.d_p_inner ["field"] (spD K 1 P_p_inner)) (l_p_inner : ∀ rs C k e, P_p_inner rs C k e → rs.length = 1) {P_p_rim : DP} (G_p_rim : FnG P w K mg base 6 A.f_p_rim A.d_p_rim ["field"] (spD K 1 P_p_rim)) (l_p_rim : ∀ rs C k e, P_p_rim rs C k e → rs.length = 1) {P_p_spots : DP} (G_p_spots : FnG P w K mg base 6 A.f_p_spots A.d_p_spots ["field"] (spD K 1 P_p_spots)) (l_p_spots : ∀ rs C k e, P_p_spots rs C k e → rs.length = 1) {P_p_board : DP} (G_p_board : FnG P w K mg base 6 A.f_p_board A.d_p_board ["field"] (spD K 1 P_p_board)) (l_p_board : ∀ rs C k e, P_p_board rs C k e → rs.length = 1)    {p : DP} (hP : ∀ rs C k e, p rs C k e → rs.length = 1 ∧ sem_u_law_whole_right K A P_u_law_spots P_u_law_near P_p_inner P_p_rim P_p_spots P_p_board  (defEnds k) ⟨start3 9 rs, C⟩ (defExc e)) :
    FnG P w K mg base 7 A.f_u_law_whole_right A.d_u_law_whole_right ["_law_field_here"] (spD K 1 p) := by
  refine fnG_def F.f_u_law_whole_right sc_u_law_whole_right (fun cdv Ar outer s H E hcd hr hgd => ?_) hP
  have tk : Takes (cxOf (L2.CX P w) P w K mg base ["_law_field_here", "_law_wide", "_law_high", "_law_some", "_law_middles", "_law_one", "_law_edge", "_law_told", "_law_due"] "_law_whole_right" (defScope s_u_law_whole_right) A.f_u_law_whole_right cdv Ar outer s H E) (fun cls d _ H2 => E cls d H2) := takes_of rfl rfl rfl rfl
  have po : PassesOwn (model P w) (cxOf (L2.CX P w) P w K mg base ["_law_field_here", "_law_wide", "_law_high", "_law_some", "_law_middles", "_law_one", "_law_edge", "_law_told", "_law_due"] "_law_whole_right" (defScope s_u_law_whole_right) A.f_u_law_whole_right cdv Ar outer s H E).A (cxOf (L2.CX P w) P w K mg base ["_law_field_here", "_law_wide", "_law_high", "_law_some", "_law_middles", "_law_one", "_law_edge", "_law_told", "_law_due"] "_law_whole_right" (defScope s_u_law_whole_right) A.f_u_law_whole_right cdv Ar outer s H E).env (cxOf (L2.CX P w) P w K mg base ["_law_field_here", "_law_wide", "_law_high", "_law_some", "_law_middles", "_law_one", "_law_edge", "_law_told", "_law_due"] "_law_whole_right" (defScope s_u_law_whole_right) A.f_u_law_whole_right cdv Ar outer s H E).xe := passes_of rfl
  unfold sem_u_law_whole_right
  exact (ds_cons (ds_par (i := 1) (j := 2) rfl sc_u_law_whole_right.nd rfl rfl (by decide) rfl rfl (d_callB cLen rfl F.z_len bt_len (da_cons (d_ix (d_ixV (i := 0) rfl (vis_by rfl) d_int (fun _ _ => rfl)) d_int (fun _ _ => rfl)) da_nil)) (d_callB cLen rfl F.z_len bt_len (da_cons (d_ixV (i := 0) rfl (vis_by rfl) d_int (fun _ _ => rfl)) da_nil)) rfl) (ds_cons (ds_set (i := 3) sc_u_law_whole_right.nd rfl (loc_by rfl) (d_call (kk := 1) G_u_law_spots (hr.mono (by omega)) hgd rfl F.m_u_law_spots F.f_u_law_spots.kp F.b_u_law_spots tk (da_cons (d_var (i := 1) rfl (vis_by rfl)) (da_cons (d_var (i := 2) rfl (vis_by rfl)) da_nil)) l_u_law_spots)) (ds_cons (ds_own (i := 4) sc_u_law_whole_right.nd rfl (loc_by rfl) (d_lcI (own := [("_law_one", 5)]) rfl sc_u_law_whole_right.nd (di_seq (d_var (i := 3) rfl (vis_by rfl))) (blk_by rfl) (by decide) (fun _ _ _ _ _ => (dg_name (i := 5) sc_u_law_whole_right.nd rfl (loc_by rfl))) (fun _ _ _ _ _ => (dps_one (d_cmpT (oEqE (hu64 hr)) (d_callB cLen rfl F.z_len bt_len (da_cons (d_call (kk := 1) G_u_law_near (hr.mono (by omega)) hgd rfl F.m_u_law_near F.f_u_law_near.kp F.b_u_law_near LamX.takes0 (da_cons (d_var (i := 3) rfl (vis_by rfl)) (da_cons (d_var (i := 5) rfl (vis_by rfl)) da_nil)) l_u_law_near) da_nil)) d_int (nomark _)))) (fun _ _ _ _ _ => (d_var (i := 5) rfl (vis_by rfl))))) (ds_cons (ds_setLcI (i := 6) (own := [("_law_one", 5)]) rfl sc_u_law_whole_right.nd rfl rfl rfl (di_seq (d_var (i := 3) rfl (vis_by rfl))) (blk_by rfl) (by decide) (fun _ _ _ _ _ => (dg_name (i := 5) sc_u_law_whole_right.nd rfl (loc_by rfl))) (fun _ _ _ _ _ => (dps_one (d_cmpT (oNotInB (hu65 hr)) (d_var (i := 5) rfl (vis_by rfl)) (d_var (i := 4) rfl (vis_by rfl)) rfl))) (fun _ _ _ _ _ => (d_var (i := 5) rfl (vis_by rfl)))) (ds_cons (ds_own (i := 7) sc_u_law_whole_right.nd rfl (loc_by rfl) (d_lst (da_cons (d_call (kk := 6) G_p_board (hr.mono (by omega)) hgd rfl F.m_p_board F.f_p_board.kp F.b_p_board tk (da_cons (d_var (i := 0) rfl (vis_by rfl)) da_nil) l_p_board) (da_cons (d_call (kk := 6) G_p_spots (hr.mono (by omega)) hgd rfl F.m_p_spots F.f_p_spots.kp F.b_p_spots tk (da_cons (d_var (i := 0) rfl (vis_by rfl)) da_nil) l_p_spots) (da_cons (d_call (kk := 6) G_p_rim (hr.mono (by omega)) hgd rfl F.m_p_rim F.f_p_rim.kp F.b_p_rim tk (da_cons (d_var (i := 0) rfl (vis_by rfl)) da_nil) l_p_rim) (da_cons (d_call (kk := 6) G_p_inner (hr.mono (by omega)) hgd rfl F.m_p_inner F.f_p_inner.kp F.b_p_inner tk (da_cons (d_var (i := 0) rfl (vis_by rfl)) da_nil) l_p_inner) da_nil)))))) (ds_cons (ds_own (i := 8) sc_u_law_whole_right.nd rfl (loc_by rfl) (d_lst (da_cons (d_tup (da_cons (d_var (i := 1) rfl (vis_by rfl)) (da_cons (d_var (i := 2) rfl (vis_by rfl)) da_nil))) (da_cons (d_callTy cTupOf rfl F.z_tuple bt_tuple (da_cons (d_var (i := 3) rfl (vis_by rfl)) da_nil)) (da_cons (d_callTy cTupOf rfl F.z_tuple bt_tuple (da_cons (d_var (i := 6) rfl (vis_by rfl)) da_nil)) (da_cons (d_callTy cTupOf rfl F.z_tuple bt_tuple (da_cons (d_var (i := 4) rfl (vis_by rfl)) da_nil)) da_nil)))))) (ds_one (ds_ret (d_cmp (oEqE (hu64 hr)) (d_callB (cReprE hgd (hu64 hr)) rfl F.z_repr bt_repr (da_cons (d_var (i := 7) rfl (vis_by rfl)) da_nil)) (d_callB (cReprE hgd (hu64 hr)) rfl F.z_repr bt_repr (da_cons (d_var (i := 8) rfl (vis_by rfl)) da_nil)) (nomark _))))))))))
theorem ok_u_law_spot_right (F : Fct K mg A) {P_u_law_spots : DP} (G_u_law_spots : FnG P w K mg base 1 A.f_u_law_spots A.d_u_law_spots ["_law_wide", "_law_high"] (spD K 2 P_u_law_spots)) (l_u_law_spots : ∀ rs C k e, P_u_law_spots rs C k e → rs.length = 2) {P_p_worth_of : DP} (G_p_worth_of : FnG P w K mg base 6 A.f_p_worth_of A.d_p_worth_of ["field", "spot"] (spD K 2 P_p_worth_of)) (l_p_worth_of : ∀ rs C k e, P_p_worth_of rs C k e → rs.length = 2) {P_p_height_at : DP} (G_p_height_at : FnG P w K mg base 6 A.f_p_height_at A.d_p_height_at ["field", "spot"] (spD K 2 P_p_height_at)) (l_p_height_at : ∀ rs C k e, P_p_height_at rs C k e → rs.length = 2) {P_p_neighbours : DP} (G_p_neighbours : FnG P w K mg base 6 A.f_p_neighbours A.d_p_neighbours ["field", "spot"] (spD K 2 P_p_neighbours)) (l_p_neighbours : ∀ rs C k e, P_p_neighbours rs C k e → rs.length = 2) {P_u_law_near : DP} (G_u_law_near : FnG P w K mg base 1 A.f_u_law_near A.d_u_law_near ["_law_some", "_law_spot"] (spD K 2 P_u_law_near)) (l_u_law_near : ∀ rs C k e, P_u_law_near rs C k e → rs.length = 2) {P_p_way : DP} (G_p_way : FnG P w K mg base 1 A.f_p_way A.d_p_way ["spot", "other"] (spD K 2 P_p_way)) (l_p_way : ∀ rs C k e, P_p_way rs C k e → rs.length = 2)    {p : DP} (hP : ∀ rs C k e, p rs C k e → rs.length = 3 ∧ sem_u_law_spot_right K A P_u_law_spots P_p_worth_of P_p_height_at P_p_neighbours P_u_law_near P_p_way  (defEnds k) ⟨start3 8 rs, C⟩ (defExc e)) :
    FnG P w K mg base 7 A.f_u_law_spot_right A.d_u_law_spot_right ["_law_field_here", "_law_spot", "_law_other"] (spD K 3 p) := by
  refine fnG_def F.f_u_law_spot_right sc_u_law_spot_right (fun cdv Ar outer s H E hcd hr hgd => ?_) hP
  have tk : Takes (cxOf (L2.CX P w) P w K mg base ["_law_field_here", "_law_spot", "_law_other", "_law_some", "_law_x", "_law_y", "_law_told", "_law_far"] "_law_spot_right" (defScope s_u_law_spot_right) A.f_u_law_spot_right cdv Ar outer s H E) (fun cls d _ H2 => E cls d H2) := takes_of rfl rfl rfl rfl
  have po : PassesOwn (model P w) (cxOf (L2.CX P w) P w K mg base ["_law_field_here", "_law_spot", "_law_other", "_law_some", "_law_x", "_law_y", "_law_told", "_law_far"] "_law_spot_right" (defScope s_u_law_spot_right) A.f_u_law_spot_right cdv Ar outer s H E).A (cxOf (L2.CX P w) P w K mg base ["_law_field_here", "_law_spot", "_law_other", "_law_some", "_law_x", "_law_y", "_law_told", "_law_far"] "_law_spot_right" (defScope s_u_law_spot_right) A.f_u_law_spot_right cdv Ar outer s H E).env (cxOf (L2.CX P w) P w K mg base ["_law_field_here", "_law_spot", "_law_other", "_law_some", "_law_x", "_law_y", "_law_told", "_law_far"] "_law_spot_right" (defScope s_u_law_spot_right) A.f_u_law_spot_right cdv Ar outer s H E).xe := passes_of rfl
  unfold sem_u_law_spot_right
  exact (ds_cons (ds_set (i := 3) sc_u_law_spot_right.nd rfl (loc_by rfl) (d_call (kk := 1) G_u_law_spots (hr.mono (by omega)) hgd rfl F.m_u_law_spots F.f_u_law_spots.kp F.b_u_law_spots tk (da_cons (d_callB cLen rfl F.z_len bt_len (da_cons (d_ix (d_ixV (i := 0) rfl (vis_by rfl) d_int (fun _ _ => rfl)) d_int (fun _ _ => rfl)) da_nil)) (da_cons (d_callB cLen rfl F.z_len bt_len (da_cons (d_ixV (i := 0) rfl (vis_by rfl) d_int (fun _ _ => rfl)) da_nil)) da_nil)) l_u_law_spots)) (ds_cons (ds_asg (d_var (i := 1) rfl (vis_by rfl)) (dg_tup rfl (dgs_cons (dg_name (i := 4) sc_u_law_spot_right.nd rfl (loc_by rfl)) (dgs_cons (dg_name (i := 5) sc_u_law_spot_right.nd rfl (loc_by rfl)) dgs_nil)))) (ds_cons (ds_own (i := 6) sc_u_law_spot_right.nd rfl (loc_by rfl) (d_lst (da_cons (d_call (kk := 6) G_p_height_at (hr.mono (by omega)) hgd rfl F.m_p_height_at F.f_p_height_at.kp F.b_p_height_at tk (da_cons (d_var (i := 0) rfl (vis_by rfl)) (da_cons (d_var (i := 1) rfl (vis_by rfl)) da_nil)) l_p_height_at) (da_cons (d_call (kk := 6) G_p_worth_of (hr.mono (by omega)) hgd rfl F.m_p_worth_of F.f_p_worth_of.kp F.b_p_worth_of tk (da_cons (d_var (i := 0) rfl (vis_by rfl)) (da_cons (d_var (i := 1) rfl (vis_by rfl)) da_nil)) l_p_worth_of) da_nil)))) (ds_cons (ds_if (d_cmpT (oNeE (hu64 hr)) (d_callB (cReprE hgd (hu64 hr)) rfl F.z_repr bt_repr (da_cons (d_var (i := 6) rfl (vis_by rfl)) da_nil)) (d_callB (cReprE hgd (hu64 hr)) rfl F.z_repr bt_repr (da_cons (d_fz (d_lst (da_cons (d_ix (d_ix (d_ixV (i := 0) rfl (vis_by rfl) d_int (fun _ _ => rfl)) (d_var (i := 5) rfl (vis_by rfl)) (fun _ _ => rfl)) (d_var (i := 4) rfl (vis_by rfl)) (fun _ _ => rfl)) (da_cons (d_ix (d_ix (d_ixV (i := 0) rfl (vis_by rfl) d_int (fun _ _ => rfl)) (d_var (i := 5) rfl (vis_by rfl)) (fun _ _ => rfl)) (d_var (i := 4) rfl (vis_by rfl)) (fun _ _ => rfl)) da_nil)))) da_nil)) (nomark _)) (ds_one (ds_ret d_bl)) ds_nil) (ds_cons (ds_if (d_cmpT (oNeE (hu64 hr)) (d_callB (cReprE hgd (hu64 hr)) rfl F.z_repr bt_repr (da_cons (d_call (kk := 6) G_p_neighbours (hr.mono (by omega)) hgd rfl F.m_p_neighbours F.f_p_neighbours.kp F.b_p_neighbours tk (da_cons (d_var (i := 0) rfl (vis_by rfl)) (da_cons (d_var (i := 1) rfl (vis_by rfl)) da_nil)) l_p_neighbours) da_nil)) (d_callB (cReprE hgd (hu64 hr)) rfl F.z_repr bt_repr (da_cons (d_call (kk := 1) G_u_law_near (hr.mono (by omega)) hgd rfl F.m_u_law_near F.f_u_law_near.kp F.b_u_law_near tk (da_cons (d_var (i := 3) rfl (vis_by rfl)) (da_cons (d_var (i := 1) rfl (vis_by rfl)) da_nil)) l_u_law_near) da_nil)) (nomark _)) (ds_one (ds_ret d_bl)) ds_nil) (ds_cons (ds_set (i := 7) sc_u_law_spot_right.nd rfl (loc_by rfl) (d_op oAddB (d_callB cAbs rfl F.z_abs bt_abs (da_cons (d_op oSub (d_var (i := 4) rfl (vis_by rfl)) (d_ixV (i := 2) rfl (vis_by rfl) d_int (fun _ _ => rfl))) da_nil)) (d_callB cAbs rfl F.z_abs bt_abs (da_cons (d_op oSub (d_var (i := 5) rfl (vis_by rfl)) (d_ixV (i := 2) rfl (vis_by rfl) d_int (fun _ _ => rfl))) da_nil)))) (ds_one (ds_ret (d_cmp (oEqE (hu64 hr)) (d_fz (d_lst (da_cons (d_call (kk := 1) G_p_way (hr.mono (by omega)) hgd rfl F.m_p_way F.f_p_way.kp F.b_p_way tk (da_cons (d_var (i := 1) rfl (vis_by rfl)) (da_cons (d_var (i := 2) rfl (vis_by rfl)) da_nil)) l_p_way) (da_cons (d_call (kk := 1) G_p_way (hr.mono (by omega)) hgd rfl F.m_p_way F.f_p_way.kp F.b_p_way tk (da_cons (d_var (i := 2) rfl (vis_by rfl)) (da_cons (d_var (i := 1) rfl (vis_by rfl)) da_nil)) l_p_way) da_nil)))) (d_fz (d_lst (da_cons (d_var (i := 7) rfl (vis_by rfl)) (da_cons (d_var (i := 7) rfl (vis_by rfl)) da_nil)))) (nomark _))))))))))
theorem ok_u_law_with_right (F : Fct K mg A) {P_p_with_worth : DP} (G_p_with_worth : FnG P w K mg base 6 A.f_p_with_worth A.d_p_with_worth ["field", "spot", "fraction"] (spD K 3 P_p_with_worth)) (l_p_with_worth : ∀ rs C k e, P_p_with_worth rs C k e → rs.length = 3)    {p : DP} (hP : ∀ rs C k e, p rs C k e → rs.length = 3 ∧ sem_u_law_with_right K A P_p_with_worth  (defEnds k) ⟨start3 8 rs, C⟩ (defExc e)) :
    FnG P w K mg base 7 A.f_u_law_with_right A.d_u_law_with_right ["_law_field_here", "_law_spot", "_law_worth"] (spD K 3 p) := by
  refine fnG_def F.f_u_law_with_right sc_u_law_with_right (fun cdv Ar outer s H E hcd hr hgd => ?_) hP
  have tk : Takes (cxOf (L2.CX P w) P w K mg base ["_law_field_here", "_law_spot", "_law_worth", "_law_x", "_law_y", "_law_row", "_law_due", "_law_told"] "_law_with_right" (defScope s_u_law_with_right) A.f_u_law_with_right cdv Ar outer s H E) (fun cls d _ H2 => E cls d H2) := takes_of rfl rfl rfl rfl
  have po : PassesOwn (model P w) (cxOf (L2.CX P w) P w K mg base ["_law_field_here", "_law_spot", "_law_worth", "_law_x", "_law_y", "_law_row", "_law_due", "_law_told"] "_law_with_right" (defScope s_u_law_with_right) A.f_u_law_with_right cdv Ar outer s H E).A (cxOf (L2.CX P w) P w K mg base ["_law_field_here", "_law_spot", "_law_worth", "_law_x", "_law_y", "_law_row", "_law_due", "_law_told"] "_law_with_right" (defScope s_u_law_with_right) A.f_u_law_with_right cdv Ar outer s H E).env (cxOf (L2.CX P w) P w K mg base ["_law_field_here", "_law_spot", "_law_worth", "_law_x", "_law_y", "_law_row", "_law_due", "_law_told"] "_law_with_right" (defScope s_u_law_with_right) A.f_u_law_with_right cdv Ar outer s H E).xe := passes_of rfl
  unfold sem_u_law_with_right
  exact (ds_cons (ds_asg (d_var (i := 1) rfl (vis_by rfl)) (dg_tup rfl (dgs_cons (dg_name (i := 3) sc_u_law_with_right.nd rfl (loc_by rfl)) (dgs_cons (dg_name (i := 4) sc_u_law_with_right.nd rfl (loc_by rfl)) dgs_nil)))) (ds_cons (ds_set (i := 5) sc_u_law_with_right.nd rfl (loc_by rfl) (d_ix (d_ixV (i := 0) rfl (vis_by rfl) d_int (fun _ _ => rfl)) (d_var (i := 4) rfl (vis_by rfl)) (fun _ _ => rfl))) (ds_cons (ds_set (i := 5) sc_u_law_with_right.nd rfl (loc_by rfl) (d_op oAddB (d_op oAddB (d_slV (i := 5) rfl (vis_by rfl) do_none (do_some (d_var (i := 3) rfl (vis_by rfl))) do_none) (d_tup (da_cons (d_var (i := 2) rfl (vis_by rfl)) da_nil))) (d_slV (i := 5) rfl (vis_by rfl) (do_some (d_op oAddB (d_var (i := 3) rfl (vis_by rfl)) d_int)) do_none do_none))) (ds_cons (ds_set (i := 6) sc_u_law_with_right.nd rfl (loc_by rfl) (d_tup (da_cons (d_ixV (i := 0) rfl (vis_by rfl) d_int (fun _ _ => rfl)) (da_cons (d_op oAddB (d_op oAddB (d_slG (d_ixV (i := 0) rfl (vis_by rfl) d_int (fun _ _ => rfl)) do_none (do_some (d_var (i := 4) rfl (vis_by rfl))) do_none) (d_tup (da_cons (d_var (i := 5) rfl (vis_by rfl)) da_nil))) (d_slG (d_ixV (i := 0) rfl (vis_by rfl) d_int (fun _ _ => rfl)) (do_some (d_op oAddB (d_var (i := 4) rfl (vis_by rfl)) d_int)) do_none do_none)) da_nil)))) (ds_cons (ds_set (i := 7) sc_u_law_with_right.nd rfl (loc_by rfl) (d_call (kk := 6) G_p_with_worth (hr.mono (by omega)) hgd rfl F.m_p_with_worth F.f_p_with_worth.kp F.b_p_with_worth tk (da_cons (d_var (i := 0) rfl (vis_by rfl)) (da_cons (d_var (i := 1) rfl (vis_by rfl)) (da_cons (d_var (i := 2) rfl (vis_by rfl)) da_nil))) l_p_with_worth)) (ds_one (ds_ret (d_cmp (oEqE (hu64 hr)) (d_callB (cReprE hgd (hu64 hr)) rfl F.z_repr bt_repr (da_cons (d_var (i := 7) rfl (vis_by rfl)) da_nil)) (d_callB (cReprE hgd (hu64 hr)) rfl F.z_repr bt_repr (da_cons (d_var (i := 6) rfl (vis_by rfl)) da_nil)) (nomark _)))))))))
theorem ok_u_law_no_spot (F : Fct K mg A)     {p : DP} (hP : ∀ rs C k e, p rs C k e → rs.length = 2 ∧ sem_u_law_no_spot K A   (defEnds k) ⟨start3 5 rs, C⟩ (defExc e)) :
    FnG P w K mg base 1 A.f_u_law_no_spot A.d_u_law_no_spot ["_law_field_here", "_law_n"] (spD K 2 p) := by
  refine fnG_def F.f_u_law_no_spot sc_u_law_no_spot (fun cdv Ar outer s H E hcd hr hgd => ?_) hP
  have tk : Takes (cxOf (L2.CX P w) P w K mg base ["_law_field_here", "_law_n", "_law_wide", "_law_high", "_law_some"] "_law_no_spot" (defScope s_u_law_no_spot) A.f_u_law_no_spot cdv Ar outer s H E) (fun cls d _ H2 => E cls d H2) := takes_of rfl rfl rfl rfl
  have po : PassesOwn (model P w) (cxOf (L2.CX P w) P w K mg base ["_law_field_here", "_law_n", "_law_wide", "_law_high", "_law_some"] "_law_no_spot" (defScope s_u_law_no_spot) A.f_u_law_no_spot cdv Ar outer s H E).A (cxOf (L2.CX P w) P w K mg base ["_law_field_here", "_law_n", "_law_wide", "_law_high", "_law_some"] "_law_no_spot" (defScope s_u_law_no_spot) A.f_u_law_no_spot cdv Ar outer s H E).env (cxOf (L2.CX P w) P w K mg base ["_law_field_here", "_law_n", "_law_wide", "_law_high", "_law_some"] "_law_no_spot" (defScope s_u_law_no_spot) A.f_u_law_no_spot cdv Ar outer s H E).xe := passes_of rfl
  unfold sem_u_law_no_spot
  exact (ds_cons (ds_par (i := 2) (j := 3) rfl sc_u_law_no_spot.nd rfl rfl (by decide) rfl rfl (d_callB cLen rfl F.z_len bt_len (da_cons (d_ix (d_ixV (i := 0) rfl (vis_by rfl) d_int (fun _ _ => rfl)) d_int (fun _ _ => rfl)) da_nil)) (d_callB cLen rfl F.z_len bt_len (da_cons (d_ixV (i := 0) rfl (vis_by rfl) d_int (fun _ _ => rfl)) da_nil)) rfl) (ds_cons (ds_own (i := 4) sc_u_law_no_spot.nd rfl (loc_by rfl) (d_lst (da_cons (d_tup (da_cons (d_var (i := 2) rfl (vis_by rfl)) (da_cons d_int da_nil))) (da_cons (d_tup (da_cons d_int (da_cons (d_var (i := 3) rfl (vis_by rfl)) da_nil))) (da_cons (d_tup (da_cons (d_neg d_int) (da_cons d_int da_nil))) (da_cons (d_tup (da_cons d_int (da_cons (d_neg d_int) da_nil))) (da_cons (d_tup (da_cons d_int da_nil)) (da_cons (d_tup (da_cons d_int (da_cons d_int (da_cons d_int da_nil)))) (da_cons (d_fz (d_lst (da_cons d_int (da_cons d_int da_nil)))) (da_cons (d_tup (da_cons d_bl (da_cons d_int da_nil))) da_nil)))))))))) (ds_cons (ds_own (i := 4) sc_u_law_no_spot.nd rfl (loc_by rfl) (d_addL (d_var (i := 4) rfl (vis_by rfl)) (d_fz (d_lst (da_cons (d_tup (da_cons d_int (da_cons d_bl da_nil))) (da_cons d_non (da_cons d_str (da_cons (d_tup (da_cons d_str (da_cons d_int da_nil))) (da_cons d_int (da_cons d_dct0 (da_cons (d_tup (da_cons (d_tup (da_cons d_int (da_cons d_int da_nil))) (da_cons d_int da_nil))) (da_cons (d_tup (da_cons d_int (da_cons d_non da_nil))) da_nil)))))))))))) (ds_one (ds_ret (d_ixV (i := 4) rfl (vis_by rfl) (d_op oMod (d_var (i := 1) rfl (vis_by rfl)) d_int) (fun _ _ => rfl)))))))
theorem ok_u_law_refused_right (F : Fct K mg A) {P_u_law_no_spot : DP} (G_u_law_no_spot : FnG P w K mg base 1 A.f_u_law_no_spot A.d_u_law_no_spot ["_law_field_here", "_law_n"] (spD K 2 P_u_law_no_spot)) (l_u_law_no_spot : ∀ rs C k e, P_u_law_no_spot rs C k e → rs.length = 2) {P_p_height_at : DP} (G_p_height_at : FnG P w K mg base 6 A.f_p_height_at A.d_p_height_at ["field", "spot"] (spD K 2 P_p_height_at)) (l_p_height_at : ∀ rs C k e, P_p_height_at rs C k e → rs.length = 2) {P_p_worth_of : DP} (G_p_worth_of : FnG P w K mg base 6 A.f_p_worth_of A.d_p_worth_of ["field", "spot"] (spD K 2 P_p_worth_of)) (l_p_worth_of : ∀ rs C k e, P_p_worth_of rs C k e → rs.length = 2) {P_p_neighbours : DP} (G_p_neighbours : FnG P w K mg base 6 A.f_p_neighbours A.d_p_neighbours ["field", "spot"] (spD K 2 P_p_neighbours)) (l_p_neighbours : ∀ rs C k e, P_p_neighbours rs C k e → rs.length = 2) {P_p_with_worth : DP} (G_p_with_worth : FnG P w K mg base 6 A.f_p_with_worth A.d_p_with_worth ["field", "spot", "fraction"] (spD K 3 P_p_with_worth)) (l_p_with_worth : ∀ rs C k e, P_p_with_worth rs C k e → rs.length = 3) {P_p_board : DP} (G_p_board : FnG P w K mg base 6 A.f_p_board A.d_p_board ["field"] (spD K 1 P_p_board)) (l_p_board : ∀ rs C k e, P_p_board rs C k e → rs.length = 1) {P_p_spots : DP} (G_p_spots : FnG P w K mg base 6 A.f_p_spots A.d_p_spots ["field"] (spD K 1 P_p_spots)) (l_p_spots : ∀ rs C k e, P_p_spots rs C k e → rs.length = 1) {P_p_rim : DP} (G_p_rim : FnG P w K mg base 6 A.f_p_rim A.d_p_rim ["field"] (spD K 1 P_p_rim)) (l_p_rim : ∀ rs C k e, P_p_rim rs C k e → rs.length = 1) {P_p_inner : DP} (G_p_inner : FnG P w K mg base 6 A.f_p_inner A.d_p_inner ["field"] (spD K 1 P_p_inner)) (l_p_inner : ∀ rs C k e, P_p_inner rs C k e → rs.length = 1)  {PG_u_law_asked : TP → List (List PyData) → (SV → List (List PyData) → Prop) → (Xd → List (List PyData) → Prop) → Prop} (hPG_u_law_asked : ∀ Pt C k e T, PG_u_law_asked Pt C k e → sem_u_law_asked K A  T Pt (defEnds k) ⟨start3 10 [T], C⟩ (defExc e)) (TB : LamX.TabB base mg A.k_u_law_refused_right A.t_u_law_refused_right) (hT : (A.t_u_law_refused_right, ("_law_refused_right" : Str) ++ ".<locals>." ++ "<lambda>") ∈ Tb.T) (hU : ∀ p ∈ Tb.T, p.1 = A.t_u_law_refused_right → p.2 = ("_law_refused_right" : Str) ++ ".<locals>." ++ "<lambda>") {p : DP} (hP : ∀ rs C k e, p rs C k e → rs.length = 2 ∧ sem_u_law_refused_right K A P_u_law_no_spot P_p_height_at P_p_worth_of P_p_neighbours P_p_with_worth P_p_board P_p_spots P_p_rim P_p_inner PG_u_law_asked (defEnds k) ⟨start3 8 rs, C⟩ (defExc e)) :
    FnG P w K mg base 9 A.f_u_law_refused_right A.d_u_law_refused_right ["_law_field_here", "_law_n"] (spD K 2 p) := by
  refine fnG_def F.f_u_law_refused_right sc_u_law_refused_right (fun cdv Ar outer s H E hcd hr hgd => ?_) hP
  have tk : Takes (cxOf (L2.CX P w) P w K mg base ["_law_field_here", "_law_n", "_law_odd_here", "_law_spot", "_law_bad", "_law_none", "_law_place", "_law_told"] "_law_refused_right" (defScope s_u_law_refused_right) A.f_u_law_refused_right cdv Ar outer s H E) (fun cls d _ H2 => E cls d H2) := takes_of rfl rfl rfl rfl
  have po : PassesOwn (model P w) (cxOf (L2.CX P w) P w K mg base ["_law_field_here", "_law_n", "_law_odd_here", "_law_spot", "_law_bad", "_law_none", "_law_place", "_law_told"] "_law_refused_right" (defScope s_u_law_refused_right) A.f_u_law_refused_right cdv Ar outer s H E).A (cxOf (L2.CX P w) P w K mg base ["_law_field_here", "_law_n", "_law_odd_here", "_law_spot", "_law_bad", "_law_none", "_law_place", "_law_told"] "_law_refused_right" (defScope s_u_law_refused_right) A.f_u_law_refused_right cdv Ar outer s H E).env (cxOf (L2.CX P w) P w K mg base ["_law_field_here", "_law_n", "_law_odd_here", "_law_spot", "_law_bad", "_law_none", "_law_place", "_law_told"] "_law_refused_right" (defScope s_u_law_refused_right) A.f_u_law_refused_right cdv Ar outer s H E).xe := passes_of rfl
  have hcd := Option.some.inj (hcd.symm.trans F.q_u_law_refused_right)
  unfold sem_u_law_refused_right
  exact (ds_cons (ds_asg (d_tup (da_cons (d_call (kk := 1) G_u_law_no_spot (hr.mono (by omega)) hgd rfl F.m_u_law_no_spot F.f_u_law_no_spot.kp F.b_u_law_no_spot tk (da_cons (d_var (i := 0) rfl (vis_by rfl)) (da_cons (d_var (i := 1) rfl (vis_by rfl)) da_nil)) l_u_law_no_spot) (da_cons (d_tup (da_cons d_int (da_cons d_int da_nil))) da_nil))) (dg_tup rfl (dgs_cons (dg_name (i := 2) sc_u_law_refused_right.nd rfl (loc_by rfl)) (dgs_cons (dg_name (i := 3) sc_u_law_refused_right.nd rfl (loc_by rfl)) dgs_nil)))) (ds_cons (ds_set (i := 4) sc_u_law_refused_right.nd rfl (loc_by rfl) (d_ix (d_fz (d_lst (da_cons (d_tup (da_cons d_int (da_cons d_int da_nil))) (da_cons (d_tup (da_cons d_int (da_cons d_int da_nil))) (da_cons (d_tup (da_cons d_int (da_cons d_int da_nil))) (da_cons (d_tup (da_cons d_int (da_cons (d_neg d_int) da_nil))) (da_cons d_non (da_cons d_int (da_cons (d_tup (da_cons d_int da_nil)) (da_cons (d_tup (da_cons d_bl (da_cons d_int da_nil))) da_nil)))))))))) (d_op oMod (d_op oDiv (d_var (i := 1) rfl (vis_by rfl)) d_int) d_int) (fun _ _ => rfl))) (ds_cons (ds_set (i := 5) sc_u_law_refused_right.nd rfl (loc_by rfl) (d_ix (d_fz (d_lst (da_cons d_non (da_cons (d_tup da_nil) (da_cons (d_slV (i := 0) rfl (vis_by rfl) do_none (do_some d_int) do_none) (da_cons (d_fz (d_listOf rfl F.z_list bt_list (d_var (i := 0) rfl (vis_by rfl)))) da_nil)))))) (d_op oMod (d_op oDiv (d_var (i := 1) rfl (vis_by rfl)) d_int) d_int) (fun _ _ => rfl))) (ds_cons (ds_set (i := 6) sc_u_law_refused_right.nd rfl (loc_by rfl) d_non) (ds_cons (ds_own (i := 7) sc_u_law_refused_right.nd rfl (loc_by rfl) (d_lst (da_cons (d_lamcall (fz := [0, 2]) (PG := PG_u_law_asked) (tg := fun T Pt => sem_u_law_asked K A  T Pt) (k := 6) rfl F.m_u_law_asked F.f_u_law_asked F.b_u_law_asked sc_u_law_asked rfl (vis_by rfl) (fun cdv s H1 E T Pt hr2 hg2 hth => body_u_law_asked F  cdv hr2 (by omega) hg2 hth) hPG_u_law_asked TB hcd hT hU (hr.mono (by omega)) hgd tk (LamX.lamS_by rfl) rfl (fun _ _ _ _ _ => rfl) (fun A2 outer2 s2 H2 E2 f2 co2 hr hgd => (d_call (kk := 6) G_p_height_at (hr.mono (by omega)) hgd rfl F.m_p_height_at F.f_p_height_at.kp F.b_p_height_at takes_lam (da_cons (d_var (i := 0) rfl (vis_by rfl)) (da_cons (d_var (i := 2) rfl (vis_by rfl)) da_nil)) l_p_height_at))) da_nil))) (ds_cons (ds_app (i := 7) rfl rfl (vis_by rfl) (d_lamcall (fz := [0, 2]) (PG := PG_u_law_asked) (tg := fun T Pt => sem_u_law_asked K A  T Pt) (k := 6) rfl F.m_u_law_asked F.f_u_law_asked F.b_u_law_asked sc_u_law_asked rfl (vis_by rfl) (fun cdv s H1 E T Pt hr2 hg2 hth => body_u_law_asked F  cdv hr2 (by omega) hg2 hth) hPG_u_law_asked TB hcd hT hU (hr.mono (by omega)) hgd tk (LamX.lamS_by rfl) rfl (fun _ _ _ _ _ => rfl) (fun A2 outer2 s2 H2 E2 f2 co2 hr hgd => (d_call (kk := 6) G_p_worth_of (hr.mono (by omega)) hgd rfl F.m_p_worth_of F.f_p_worth_of.kp F.b_p_worth_of takes_lam (da_cons (d_var (i := 0) rfl (vis_by rfl)) (da_cons (d_var (i := 2) rfl (vis_by rfl)) da_nil)) l_p_worth_of))) rfl rfl rfl rfl rfl rfl rfl rfl) (ds_cons (ds_app (i := 7) rfl rfl (vis_by rfl) (d_lamcall (fz := [0, 2]) (PG := PG_u_law_asked) (tg := fun T Pt => sem_u_law_asked K A  T Pt) (k := 6) rfl F.m_u_law_asked F.f_u_law_asked F.b_u_law_asked sc_u_law_asked rfl (vis_by rfl) (fun cdv s H1 E T Pt hr2 hg2 hth => body_u_law_asked F  cdv hr2 (by omega) hg2 hth) hPG_u_law_asked TB hcd hT hU (hr.mono (by omega)) hgd tk (LamX.lamS_by rfl) rfl (fun _ _ _ _ _ => rfl) (fun A2 outer2 s2 H2 E2 f2 co2 hr hgd => (d_call (kk := 6) G_p_neighbours (hr.mono (by omega)) hgd rfl F.m_p_neighbours F.f_p_neighbours.kp F.b_p_neighbours takes_lam (da_cons (d_var (i := 0) rfl (vis_by rfl)) (da_cons (d_var (i := 2) rfl (vis_by rfl)) da_nil)) l_p_neighbours))) rfl rfl rfl rfl rfl rfl rfl rfl) (ds_cons (ds_app (i := 7) rfl rfl (vis_by rfl) (d_lamcall (fz := [0, 2, 4]) (PG := PG_u_law_asked) (tg := fun T Pt => sem_u_law_asked K A  T Pt) (k := 6) rfl F.m_u_law_asked F.f_u_law_asked F.b_u_law_asked sc_u_law_asked rfl (vis_by rfl) (fun cdv s H1 E T Pt hr2 hg2 hth => body_u_law_asked F  cdv hr2 (by omega) hg2 hth) hPG_u_law_asked TB hcd hT hU (hr.mono (by omega)) hgd tk (LamX.lamS_by rfl) rfl (fun _ _ _ _ _ => rfl) (fun A2 outer2 s2 H2 E2 f2 co2 hr hgd => (d_call (kk := 6) G_p_with_worth (hr.mono (by omega)) hgd rfl F.m_p_with_worth F.f_p_with_worth.kp F.b_p_with_worth takes_lam (da_cons (d_var (i := 0) rfl (vis_by rfl)) (da_cons (d_var (i := 2) rfl (vis_by rfl)) (da_cons (d_var (i := 4) rfl (vis_by rfl)) da_nil))) l_p_with_worth))) rfl rfl rfl rfl rfl rfl rfl rfl) (ds_cons (ds_if (d_cmpT (oNeE (hu64 hr)) (d_var (i := 7) rfl (vis_by rfl)) (d_fz (d_repL (d_fz (d_lst (da_cons d_str da_nil))) d_int)) (nomark _)) (ds_one (ds_ret d_bl)) ds_nil) (ds_cons (ds_if (d_cmpT (oNeE (hu64 hr)) (d_lamcall (fz := [0, 3, 4]) (PG := PG_u_law_asked) (tg := fun T Pt => sem_u_law_asked K A  T Pt) (k := 6) rfl F.m_u_law_asked F.f_u_law_asked F.b_u_law_asked sc_u_law_asked rfl (vis_by rfl) (fun cdv s H1 E T Pt hr2 hg2 hth => body_u_law_asked F  cdv hr2 (by omega) hg2 hth) hPG_u_law_asked TB hcd hT hU (hr.mono (by omega)) hgd tk (LamX.lamS_by rfl) rfl (fun _ _ _ _ _ => rfl) (fun A2 outer2 s2 H2 E2 f2 co2 hr hgd => (d_call (kk := 6) G_p_with_worth (hr.mono (by omega)) hgd rfl F.m_p_with_worth F.f_p_with_worth.kp F.b_p_with_worth takes_lam (da_cons (d_var (i := 0) rfl (vis_by rfl)) (da_cons (d_var (i := 3) rfl (vis_by rfl)) (da_cons (d_var (i := 4) rfl (vis_by rfl)) da_nil))) l_p_with_worth))) d_str (nomark _)) (ds_one (ds_ret d_bl)) ds_nil) (ds_cons (ds_own (i := 7) sc_u_law_refused_right.nd rfl (loc_by rfl) (d_lst (da_cons (d_lamcall (fz := [5]) (PG := PG_u_law_asked) (tg := fun T Pt => sem_u_law_asked K A  T Pt) (k := 6) rfl F.m_u_law_asked F.f_u_law_asked F.b_u_law_asked sc_u_law_asked rfl (vis_by rfl) (fun cdv s H1 E T Pt hr2 hg2 hth => body_u_law_asked F  cdv hr2 (by omega) hg2 hth) hPG_u_law_asked TB hcd hT hU (hr.mono (by omega)) hgd tk (LamX.lamS_by rfl) rfl (fun _ _ _ _ _ => rfl) (fun A2 outer2 s2 H2 E2 f2 co2 hr hgd => (d_call (kk := 6) G_p_board (hr.mono (by omega)) hgd rfl F.m_p_board F.f_p_board.kp F.b_p_board takes_lam (da_cons (d_var (i := 5) rfl (vis_by rfl)) da_nil) l_p_board))) da_nil))) (ds_cons (ds_app (i := 7) rfl rfl (vis_by rfl) (d_lamcall (fz := [5]) (PG := PG_u_law_asked) (tg := fun T Pt => sem_u_law_asked K A  T Pt) (k := 6) rfl F.m_u_law_asked F.f_u_law_asked F.b_u_law_asked sc_u_law_asked rfl (vis_by rfl) (fun cdv s H1 E T Pt hr2 hg2 hth => body_u_law_asked F  cdv hr2 (by omega) hg2 hth) hPG_u_law_asked TB hcd hT hU (hr.mono (by omega)) hgd tk (LamX.lamS_by rfl) rfl (fun _ _ _ _ _ => rfl) (fun A2 outer2 s2 H2 E2 f2 co2 hr hgd => (d_call (kk := 6) G_p_spots (hr.mono (by omega)) hgd rfl F.m_p_spots F.f_p_spots.kp F.b_p_spots takes_lam (da_cons (d_var (i := 5) rfl (vis_by rfl)) da_nil) l_p_spots))) rfl rfl rfl rfl rfl rfl rfl rfl) (ds_cons (ds_app (i := 7) rfl rfl (vis_by rfl) (d_lamcall (fz := [5]) (PG := PG_u_law_asked) (tg := fun T Pt => sem_u_law_asked K A  T Pt) (k := 6) rfl F.m_u_law_asked F.f_u_law_asked F.b_u_law_asked sc_u_law_asked rfl (vis_by rfl) (fun cdv s H1 E T Pt hr2 hg2 hth => body_u_law_asked F  cdv hr2 (by omega) hg2 hth) hPG_u_law_asked TB hcd hT hU (hr.mono (by omega)) hgd tk (LamX.lamS_by rfl) rfl (fun _ _ _ _ _ => rfl) (fun A2 outer2 s2 H2 E2 f2 co2 hr hgd => (d_call (kk := 6) G_p_rim (hr.mono (by omega)) hgd rfl F.m_p_rim F.f_p_rim.kp F.b_p_rim takes_lam (da_cons (d_var (i := 5) rfl (vis_by rfl)) da_nil) l_p_rim))) rfl rfl rfl rfl rfl rfl rfl rfl) (ds_cons (ds_app (i := 7) rfl rfl (vis_by rfl) (d_lamcall (fz := [5]) (PG := PG_u_law_asked) (tg := fun T Pt => sem_u_law_asked K A  T Pt) (k := 6) rfl F.m_u_law_asked F.f_u_law_asked F.b_u_law_asked sc_u_law_asked rfl (vis_by rfl) (fun cdv s H1 E T Pt hr2 hg2 hth => body_u_law_asked F  cdv hr2 (by omega) hg2 hth) hPG_u_law_asked TB hcd hT hU (hr.mono (by omega)) hgd tk (LamX.lamS_by rfl) rfl (fun _ _ _ _ _ => rfl) (fun A2 outer2 s2 H2 E2 f2 co2 hr hgd => (d_call (kk := 6) G_p_inner (hr.mono (by omega)) hgd rfl F.m_p_inner F.f_p_inner.kp F.b_p_inner takes_lam (da_cons (d_var (i := 5) rfl (vis_by rfl)) da_nil) l_p_inner))) rfl rfl rfl rfl rfl rfl rfl rfl) (ds_cons (ds_app (i := 7) rfl rfl (vis_by rfl) (d_lamcall (fz := [2, 5]) (PG := PG_u_law_asked) (tg := fun T Pt => sem_u_law_asked K A  T Pt) (k := 6) rfl F.m_u_law_asked F.f_u_law_asked F.b_u_law_asked sc_u_law_asked rfl (vis_by rfl) (fun cdv s H1 E T Pt hr2 hg2 hth => body_u_law_asked F  cdv hr2 (by omega) hg2 hth) hPG_u_law_asked TB hcd hT hU (hr.mono (by omega)) hgd tk (LamX.lamS_by rfl) rfl (fun _ _ _ _ _ => rfl) (fun A2 outer2 s2 H2 E2 f2 co2 hr hgd => (d_call (kk := 6) G_p_neighbours (hr.mono (by omega)) hgd rfl F.m_p_neighbours F.f_p_neighbours.kp F.b_p_neighbours takes_lam (da_cons (d_var (i := 5) rfl (vis_by rfl)) (da_cons (d_var (i := 2) rfl (vis_by rfl)) da_nil)) l_p_neighbours))) rfl rfl rfl rfl rfl rfl rfl rfl) (ds_cons (ds_app (i := 7) rfl rfl (vis_by rfl) (d_lamcall (fz := [2, 5]) (PG := PG_u_law_asked) (tg := fun T Pt => sem_u_law_asked K A  T Pt) (k := 6) rfl F.m_u_law_asked F.f_u_law_asked F.b_u_law_asked sc_u_law_asked rfl (vis_by rfl) (fun cdv s H1 E T Pt hr2 hg2 hth => body_u_law_asked F  cdv hr2 (by omega) hg2 hth) hPG_u_law_asked TB hcd hT hU (hr.mono (by omega)) hgd tk (LamX.lamS_by rfl) rfl (fun _ _ _ _ _ => rfl) (fun A2 outer2 s2 H2 E2 f2 co2 hr hgd => (d_call (kk := 6) G_p_height_at (hr.mono (by omega)) hgd rfl F.m_p_height_at F.f_p_height_at.kp F.b_p_height_at takes_lam (da_cons (d_var (i := 5) rfl (vis_by rfl)) (da_cons (d_var (i := 2) rfl (vis_by rfl)) da_nil)) l_p_height_at))) rfl rfl rfl rfl rfl rfl rfl rfl) (ds_cons (ds_app (i := 7) rfl rfl (vis_by rfl) (d_lamcall (fz := [2, 5]) (PG := PG_u_law_asked) (tg := fun T Pt => sem_u_law_asked K A  T Pt) (k := 6) rfl F.m_u_law_asked F.f_u_law_asked F.b_u_law_asked sc_u_law_asked rfl (vis_by rfl) (fun cdv s H1 E T Pt hr2 hg2 hth => body_u_law_asked F  cdv hr2 (by omega) hg2 hth) hPG_u_law_asked TB hcd hT hU (hr.mono (by omega)) hgd tk (LamX.lamS_by rfl) rfl (fun _ _ _ _ _ => rfl) (fun A2 outer2 s2 H2 E2 f2 co2 hr hgd => (d_call (kk := 6) G_p_worth_of (hr.mono (by omega)) hgd rfl F.m_p_worth_of F.f_p_worth_of.kp F.b_p_worth_of takes_lam (da_cons (d_var (i := 5) rfl (vis_by rfl)) (da_cons (d_var (i := 2) rfl (vis_by rfl)) da_nil)) l_p_worth_of))) rfl rfl rfl rfl rfl rfl rfl rfl) (ds_cons (ds_app (i := 7) rfl rfl (vis_by rfl) (d_lamcall (fz := [2, 4, 5]) (PG := PG_u_law_asked) (tg := fun T Pt => sem_u_law_asked K A  T Pt) (k := 6) rfl F.m_u_law_asked F.f_u_law_asked F.b_u_law_asked sc_u_law_asked rfl (vis_by rfl) (fun cdv s H1 E T Pt hr2 hg2 hth => body_u_law_asked F  cdv hr2 (by omega) hg2 hth) hPG_u_law_asked TB hcd hT hU (hr.mono (by omega)) hgd tk (LamX.lamS_by rfl) rfl (fun _ _ _ _ _ => rfl) (fun A2 outer2 s2 H2 E2 f2 co2 hr hgd => (d_call (kk := 6) G_p_with_worth (hr.mono (by omega)) hgd rfl F.m_p_with_worth F.f_p_with_worth.kp F.b_p_with_worth takes_lam (da_cons (d_var (i := 5) rfl (vis_by rfl)) (da_cons (d_var (i := 2) rfl (vis_by rfl)) (da_cons (d_var (i := 4) rfl (vis_by rfl)) da_nil))) l_p_with_worth))) rfl rfl rfl rfl rfl rfl rfl rfl) (ds_one (ds_ret (d_cmp (oEqE (hu64 hr)) (d_var (i := 7) rfl (vis_by rfl)) (d_fz (d_repL (d_fz (d_lst (da_cons (d_tup (da_cons d_str (da_cons (d_var (i := 6) rfl (vis_by rfl)) da_nil))) da_nil))) d_int)) (nomark _))))))))))))))))))))))
theorem ok_p_law (F : Fct K mg A) {P_u_law_field : DP} (G_u_law_field : FnG P w K mg base 3 A.f_u_law_field A.d_u_law_field ["_law_cells", "_law_spot", "_law_least", "_law_most"] (spD K 4 P_u_law_field)) (l_u_law_field : ∀ rs C k e, P_u_law_field rs C k e → rs.length = 4) {P_u_law_cell : DP} (G_u_law_cell : FnG P w K mg base 1 A.f_u_law_cell A.d_u_law_cell ["_law_cells", "_law_spot"] (spD K 2 P_u_law_cell)) (l_u_law_cell : ∀ rs C k e, P_u_law_cell rs C k e → rs.length = 2) {P_u_law_spots : DP} (G_u_law_spots : FnG P w K mg base 1 A.f_u_law_spots A.d_u_law_spots ["_law_wide", "_law_high"] (spD K 2 P_u_law_spots)) (l_u_law_spots : ∀ rs C k e, P_u_law_spots rs C k e → rs.length = 2) {P_u_law_low : DP} (G_u_law_low : FnG P w K mg base 1 A.f_u_law_low A.d_u_law_low ["_law_above", "_law_below"] (spD K 2 P_u_law_low)) (l_u_law_low : ∀ rs C k e, P_u_law_low rs C k e → rs.length = 2) {P_u_law_spot_right : DP} (G_u_law_spot_right : FnG P w K mg base 7 A.f_u_law_spot_right A.d_u_law_spot_right ["_law_field_here", "_law_spot", "_law_other"] (spD K 3 P_u_law_spot_right)) (l_u_law_spot_right : ∀ rs C k e, P_u_law_spot_right rs C k e → rs.length = 3) {P_u_law_whole_right : DP} (G_u_law_whole_right : FnG P w K mg base 7 A.f_u_law_whole_right A.d_u_law_whole_right ["_law_field_here"] (spD K 1 P_u_law_whole_right)) (l_u_law_whole_right : ∀ rs C k e, P_u_law_whole_right rs C k e → rs.length = 1) {P_u_law_with_right : DP} (G_u_law_with_right : FnG P w K mg base 7 A.f_u_law_with_right A.d_u_law_with_right ["_law_field_here", "_law_spot", "_law_worth"] (spD K 3 P_u_law_with_right)) (l_u_law_with_right : ∀ rs C k e, P_u_law_with_right rs C k e → rs.length = 3) {P_u_law_refused_right : DP} (G_u_law_refused_right : FnG P w K mg base 9 A.f_u_law_refused_right A.d_u_law_refused_right ["_law_field_here", "_law_n"] (spD K 2 P_u_law_refused_right)) (l_u_law_refused_right : ∀ rs C k e, P_u_law_refused_right rs C k e → rs.length = 2)    {p : DP} (hP : ∀ rs C k e, p rs C k e → rs.length = 1 ∧ sem_p_law K A P_u_law_field P_u_law_cell P_u_law_spots P_u_law_low P_u_law_spot_right P_u_law_whole_right P_u_law_with_right P_u_law_refused_right  (defEnds k) ⟨start3 11 rs, C⟩ (defExc e)) :
    FnG P w K mg base 10 A.f_p_law A.d_p_law ["_law_script"] (spD K 1 p) := by
  refine fnG_def F.f_p_law sc_p_law (fun cdv Ar outer s H E hcd hr hgd => ?_) hP
  have tk : Takes (cxOf (L2.CX P w) P w K mg base ["_law_script", "_law_mark", "_law_turn", "_law_field_here", "_law_n", "_law_kept", "_law_some", "_law_spot", "_law_other", "_law_worth", "_law_again"] "law" (defScope s_p_law) A.f_p_law cdv Ar outer s H E) (fun cls d _ H2 => E cls d H2) := takes_of rfl rfl rfl rfl
  have po : PassesOwn (model P w) (cxOf (L2.CX P w) P w K mg base ["_law_script", "_law_mark", "_law_turn", "_law_field_here", "_law_n", "_law_kept", "_law_some", "_law_spot", "_law_other", "_law_worth", "_law_again"] "law" (defScope s_p_law) A.f_p_law cdv Ar outer s H E).A (cxOf (L2.CX P w) P w K mg base ["_law_script", "_law_mark", "_law_turn", "_law_field_here", "_law_n", "_law_kept", "_law_some", "_law_spot", "_law_other", "_law_worth", "_law_again"] "law" (defScope s_p_law) A.f_p_law cdv Ar outer s H E).env (cxOf (L2.CX P w) P w K mg base ["_law_script", "_law_mark", "_law_turn", "_law_field_here", "_law_n", "_law_kept", "_law_some", "_law_spot", "_law_other", "_law_worth", "_law_again"] "law" (defScope s_p_law) A.f_p_law cdv Ar outer s H E).xe := passes_of rfl
  unfold sem_p_law
  exact (dss_cell (i := 1) sc_p_law.nd rfl (loc_by rfl) (d_lst (da_cons d_int da_nil)) (ds_cons (ds_forI po rfl (di_range1 rfl F.z_range (d_op oAddB d_int (d_callB (cMin2 rfl) rfl F.z_min bt_min (da_cons d_int (da_cons (d_callB cLen rfl F.z_len bt_len (da_cons (d_var (i := 0) rfl (vis_by rfl)) da_nil)) da_nil))))) (dg_name (i := 2) sc_p_law.nd rfl (loc_by rfl)) (ds_cons (ds_par (i := 3) (j := 4) rfl sc_p_law.nd rfl rfl (by decide) rfl rfl (d_call (kk := 3) G_u_law_field (hr.mono (by omega)) hgd rfl F.m_u_law_field F.f_u_law_field.kp F.b_u_law_field tk (da_cons (d_var (i := 0) rfl (vis_by rfl)) (da_cons (d_var (i := 1) rfl (vis_by rfl)) (da_cons d_int (da_cons d_int da_nil)))) l_u_law_field) (d_call (kk := 1) G_u_law_cell (hr.mono (by omega)) hgd rfl F.m_u_law_cell F.f_u_law_cell.kp F.b_u_law_cell tk (da_cons (d_var (i := 0) rfl (vis_by rfl)) (da_cons (d_var (i := 1) rfl (vis_by rfl)) da_nil)) l_u_law_cell) rfl) (ds_cons (ds_set (i := 5) sc_p_law.nd rfl (loc_by rfl) (d_callB (cReprE hgd (hu64 hr)) rfl F.z_repr bt_repr (da_cons (d_var (i := 3) rfl (vis_by rfl)) da_nil))) (ds_cons (ds_set (i := 6) sc_p_law.nd rfl (loc_by rfl) (d_call (kk := 1) G_u_law_spots (hr.mono (by omega)) hgd rfl F.m_u_law_spots F.f_u_law_spots.kp F.b_u_law_spots tk (da_cons (d_callB cLen rfl F.z_len bt_len (da_cons (d_ix (d_ixV (i := 3) rfl (vis_by rfl) d_int (fun _ _ => rfl)) d_int (fun _ _ => rfl)) da_nil)) (da_cons (d_callB cLen rfl F.z_len bt_len (da_cons (d_ixV (i := 3) rfl (vis_by rfl) d_int (fun _ _ => rfl)) da_nil)) da_nil)) l_u_law_spots)) (ds_cons (ds_par (i := 7) (j := 8) rfl sc_p_law.nd rfl rfl (by decide) rfl rfl (d_ixV (i := 6) rfl (vis_by rfl) (d_op oMod (d_var (i := 4) rfl (vis_by rfl)) (d_callB cLen rfl F.z_len bt_len (da_cons (d_var (i := 6) rfl (vis_by rfl)) da_nil))) (fun _ _ => rfl)) (d_ixV (i := 6) rfl (vis_by rfl) (d_op oMod (d_op oDiv (d_var (i := 4) rfl (vis_by rfl)) d_int) (d_callB cLen rfl F.z_len bt_len (da_cons (d_var (i := 6) rfl (vis_by rfl)) da_nil))) (fun _ _ => rfl)) rfl) (ds_cons (ds_set (i := 9) sc_p_law.nd rfl (loc_by rfl) (d_call (kk := 1) G_u_law_low (hr.mono (by omega)) hgd rfl F.m_u_law_low F.f_u_law_low.kp F.b_u_law_low tk (da_cons (d_op oSub (d_op oMod (d_op oDiv (d_var (i := 4) rfl (vis_by rfl)) d_int) d_int) d_int) (da_cons (d_op oAddB d_int (d_op oMod (d_op oDiv (d_var (i := 4) rfl (vis_by rfl)) d_int) d_int)) da_nil)) l_u_law_low)) (ds_cons (ds_forI po rfl (di_range1 rfl F.z_range d_int) (dg_name (i := 10) sc_p_law.nd rfl (loc_by rfl)) (ds_cons (ds_if (DW.dt (dw_or (d_not (d_truth (d_call (kk := 7) G_u_law_whole_right (hr.mono (by omega)) hgd rfl F.m_u_law_whole_right F.f_u_law_whole_right.kp F.b_u_law_whole_right tk (da_cons (d_var (i := 3) rfl (vis_by rfl)) da_nil) l_u_law_whole_right))) (dw_or1 (d_not (d_truth (d_call (kk := 7) G_u_law_spot_right (hr.mono (by omega)) hgd rfl F.m_u_law_spot_right F.f_u_law_spot_right.kp F.b_u_law_spot_right tk (da_cons (d_var (i := 3) rfl (vis_by rfl)) (da_cons (d_var (i := 7) rfl (vis_by rfl)) (da_cons (d_var (i := 8) rfl (vis_by rfl)) da_nil))) l_u_law_spot_right)))))) (ds_one (ds_ret d_bl)) ds_nil) (ds_one (ds_if (d_not (d_truth (d_call (kk := 7) G_u_law_with_right (hr.mono (by omega)) hgd rfl F.m_u_law_with_right F.f_u_law_with_right.kp F.b_u_law_with_right tk (da_cons (d_var (i := 3) rfl (vis_by rfl)) (da_cons (d_var (i := 7) rfl (vis_by rfl)) (da_cons (d_var (i := 9) rfl (vis_by rfl)) da_nil))) l_u_law_with_right))) (ds_one (ds_ret d_bl)) ds_nil)))) (ds_one (ds_if (DW.dt (dw_or (d_not (d_truth (d_call (kk := 9) G_u_law_refused_right (hr.mono (by omega)) hgd rfl F.m_u_law_refused_right F.f_u_law_refused_right.kp F.b_u_law_refused_right tk (da_cons (d_var (i := 3) rfl (vis_by rfl)) (da_cons (d_op oDiv (d_var (i := 4) rfl (vis_by rfl)) d_int) da_nil)) l_u_law_refused_right))) (dw_or1 (d_cmpT (oNeE (hu64 hr)) (d_callB (cReprE hgd (hu64 hr)) rfl F.z_repr bt_repr (da_cons (d_var (i := 3) rfl (vis_by rfl)) da_nil)) (d_var (i := 5) rfl (vis_by rfl)) (nomark _))))) (ds_one (ds_ret d_bl)) ds_nil))))))))) (ds_one (ds_ret d_bl))))
end
end GX
namespace GX
open PySem PySem.Spec PyProof.Rows L2 D3
local macro_rules | `(tactic| walk_at "d3") => `(tactic| simp only [dSeq, dNext, dIf, dRet, dRetN, dSet, dOwn, dPar, dPar3, dParEL, dParLE, dParLL, dAsg, dVar, dC, dBin, dTst, gI, gAdd, gAddI, gSubI, gMulI, gDiv, gMod, gPow, gLt, gLe, gGt, gGe, isNone, dTruth, truthD, dAnd, dOr, dNot, dAndV_eq, dOrV_eq, isF_int, isF_bool, isF_str, isF_list, isF_tuple, isF_dict, dNotV, dIfE, dNeg, dNil, dCons, dTup, dLst, dFz, allD, dCall, dDrop, dB, gAbs, gLen, gInt, gMin2, gMax2, gIx, dIxV, dPut, hasG, dRaise, dRaiseF, ends_nx, ends_rt, exc_at, start3, List.map_cons, List.map_nil, List.length_cons, List.length_nil, List.replicate, List.cons_append, List.nil_append, List.getElem?_cons_zero, List.getElem?_cons_succ, List.getElem?_nil, List.set_cons_zero, List.set_cons_succ, List.set_nil, Nat.zero_add, Nat.reduceAdd, Nat.reduceSub, true_and, and_true, iteB_true, iteB_false, iteB_iff, eq_self, true_implies, false_implies, implies_true, reduceCtorEq, not_true_eq_false, Bool.true_eq_false, Bool.false_eq_true, Int.reduceEq, Int.reduceLT, Int.reduceLE, Int.reduceAdd, Int.reduceSub, Int.reduceMul, Int.reduceNeg, Nat.reduceLT, Int.cast_ofNat_Int, Bool.not_true, Bool.not_false, and_self, false_and, and_false, List.all_cons, List.all_nil, id, sh_int, sh_bool, sh_none, eqv_int, eqv_bool, beq_iff_eq, beq_eq_false_iff_ne, decide_eq_true_eq, decide_eq_false_iff_not, Bool.not_eq_true', Bool.not_eq_false', bne_iff_ne, ne_eq, not_false_eq_true, szl, Nat.reduceLeDiff, ix_10, List.length_map, at_0, at_1, at_2, at_3, at_4, at_5, at_6, at_7, dAddL, dSlV, dSlG, dSlVL, gCut, dPart, dNoPart, gStrI, dDct0, dApp, dSetFz, gSet, qInt, qBool, qStr, qLst, qTup, qDct, boolsD, intsD, gTup3, gsCons, gsNil, set_nn, Nat.succ_eq_add_one, eqE_int, neE_int, eqE_str, neE_str, eqE_tup0, neE_tup0, eqE_lst0, neE_lst0, addB_int, addB_tup, addB_lst, is2_none, isN2_none, dItems, dEnumA, dRg1, dRg2, dForI, dLcI, dLc2, S3.wipe, wipeG, dListOf, dChain, gMul, gAnd, gShr, dRepL, dStar, gTupOf, dExt, dRg3, gAll, gSum, dYes, Option.some.injEq, List.isEmpty_cons, List.isEmpty_nil])
/-! ### the program: fractions, fields -/
theorem absif (a : Int) : (if a < 0 then -a else a) = (a.natAbs : Int) := by split <;> omega
def P_own_common : DP := fun rs C k _ => match rs with
  | [.d (.int a), .d (.int b)] => 0 ≤ a ∧ 0 ≤ b ∧ k (.d (.int (Int.gcd a b))) C
  | _ => False
theorem gcd_step {x y : Int} (hx : 0 ≤ x) (hy : 0 ≤ y) : Int.gcd y (x % y) = Int.gcd x y := by
  obtain ⟨m, rfl⟩ := Int.eq_ofNat_of_zero_le hx
  obtain ⟨n, rfl⟩ := Int.eq_ofNat_of_zero_le hy
  have e : ((m : Int) % (n : Int)) = ((m % n : Nat) : Int) := by omega
  rw [e, Int.gcd_natCast_natCast, Int.gcd_natCast_natCast, Nat.gcd_comm m n, Nat.gcd_rec n m, Nat.gcd_comm]
theorem gcd_end {x : Int} (hx : 0 ≤ x) : ((Int.gcd x 0 : Nat) : Int) = x := by
  rw [Int.gcd_zero_right]
  omega
/-- the loop of Euclid -/
theorem euclid {D : DEnds} {e : ED} {a b : Int} {C : List (List PyData)} {G : Int → Int → List (Option SV)} (tc : DTT) (tb : DTS) (ha : 0 ≤ a) (hb : 0 ≤ b)
    (h1 : ∀ (x y : Int) (k : Bool → S3 → Prop), 0 ≤ x → 0 ≤ y → k (decide (y ≠ 0)) ⟨G x y, C⟩ → tc ⟨G x y, C⟩ k e)
    (h2 : ∀ (x y : Int) (N M : S3 → Prop), 0 ≤ x → 0 < y → N ⟨G y (x.fmod y), C⟩ → tb { D with nx := N, ct := N, bk := M } ⟨G x y, C⟩ e)
    (h3 : D.nx ⟨G (Int.gcd a b) 0, C⟩) : dWhile tc tb D ⟨G a b, C⟩ e := by
  refine while_of (fun m S => ∃ x y : Int, S = ⟨G x y, C⟩ ∧ 0 ≤ x ∧ 0 ≤ y ∧ Int.gcd x y = Int.gcd a b ∧ y.toNat = m) b.toNat ⟨a, b, rfl, ha, hb, rfl, rfl⟩ fun m S N ⟨x, y, e1, hx, hy, hg, hm⟩ hN => ?_
  subst e1
  refine h1 x y _ hx hy ?_
  rw [iteB_iff]
  refine ⟨fun h => ?_, fun h => ?_⟩
  · have h : y ≠ 0 := of_decide_eq_true h
    have hp : 0 < y := by omega
    refine h2 x y _ _ hx hp ?_
    rw [Int.fmod_eq_emod_of_nonneg _ hy]
    have g1 := Int.emod_nonneg x h
    have g2 := Int.emod_lt_of_pos x hp
    exact hN _ (x % y).toNat (by omega) ⟨y, x % y, rfl, hy, g1, (gcd_step hx hy).trans hg, rfl⟩
  · have h : ¬ y ≠ 0 := of_decide_eq_false h
    have h : y = 0 := by omega
    subst h
    have z := gcd_end hx
    rw [hg] at z
    rw [← z]
    exact h3
theorem nz_dec {y : Int} : (!(y == 0)) = decide (y ≠ 0) := by by_cases z : y = 0 <;> simp [z]
theorem h_own_common (K : PySem.W.Frag) (A : Adr) : ∀ rs C k e, P_own_common rs C k e → rs.length = 2 ∧ sem_p_own_common K A (defEnds k) ⟨start3 2 rs, C⟩ (defExc e) := by
  intro rs C k e h
  unfold P_own_common at h
  split at h
  · rename_i a b
    obtain ⟨ha, hb, hk⟩ := h
    refine ⟨rfl, ?_⟩
    unfold sem_p_own_common
    refine seq_abs fun v hv => ?_
    refine euclid (G := fun x y => [some (.d (.int x)), some (.d (.int y))]) _ _ ha hb (fun x y k hx hy h => ?_) (fun x y N M hx hy h => ?_) ?_
    · walk_at "d3"
      rw [nz_dec]
      exact h
    · walk_at "d3"
      exact ⟨by omega, h⟩
    · subst hv
      walk_at "d3"
      exact hk
  · exact h.elim
/-- whole numbers among data -/
def isInt : PyData → Bool
  | .int _ => true
  | _ => false
def P_is_whole : DP := fun rs C k _ => match rs with
  | [.d x] => k (.d (.bool (isInt x))) C
  | _ => False
theorem h_is_whole (K : PySem.W.Frag) (A : Adr) : ∀ rs C k e, P_is_whole rs C k e → rs.length = 1 ∧ sem_p_is_whole K A (defEnds k) ⟨start3 1 rs, C⟩ (defExc e) := by
  intro rs C k e h
  unfold P_is_whole at h
  split at h
  · rename_i x
    refine ⟨rfl, ?_⟩
    unfold sem_p_is_whole
    walk_at "d3"
    cases x <;> simp only [qInt, qBool, isInt] at h ⊢ <;> simp [h]
  · exact h.elim
def isFrac : PyData → Bool
  | .tuple [.int a, .int b] => decide (0 < b) && (Int.gcd a b == 1)
  | _ => false
def P_is_fraction : DP := fun rs C k _ => match rs with
  | [.d x] => k (.d (.bool (isFrac x))) C
  | _ => False
theorem gcd_abs {a b : Int} : Int.gcd (a.natAbs : Int) b = Int.gcd a b := by simp [Int.gcd]
theorem gcd_two {a b : Int} : Int.gcd (a.natAbs : Int) (b.natAbs : Int) = Int.gcd a b := by simp [Int.gcd]
theorem gcd_one {a b : Int} : (((Int.gcd a b : Nat) : Int) == 1) = (Int.gcd a b == 1) := by
  by_cases q : Int.gcd a b = 1
  · rw [q]
    rfl
  · have q2 : ¬ ((Int.gcd a b : Nat) : Int) = 1 := by omega
    rw [beq_eq_false_iff_ne.mpr q, beq_eq_false_iff_ne.mpr q2]
theorem h_is_fraction (K : PySem.W.Frag) (A : Adr) : ∀ rs C k e, P_is_fraction rs C k e → rs.length = 1 ∧ sem_p_is_fraction K A P_is_whole P_own_common (defEnds k) ⟨start3 2 rs, C⟩ (defExc e) := by
  intro rs C k e h
  unfold P_is_fraction at h
  split at h
  · rename_i x
    refine ⟨rfl, ?_⟩
    unfold sem_p_is_fraction
    refine seq_abs fun v hv => ?_
    cases x with
    | tuple xs =>
      match xs, h with
      | [], h =>
        walk_at "d3"
        simp [isFrac] at h ⊢
        exact h
      | [a], h =>
        walk_at "d3"
        simp [isFrac] at h ⊢
        exact h
      | [a, b], h =>
        walk_at "d3"
        refine comp_map (S := ⟨[some (.d (.tuple [a, b])), none], C⟩) rfl (fun x => .bool (isInt x)) (fun x hx N hN => ?_) (by simp [szl]) ?_
        · walk_at "d3"
          exact hN _ rfl
        · walk_at "d3"
          refine ⟨_, rfl, fun z => ?_, fun z => ?_⟩
          · cases a <;> cases b <;> simp only [isInt, isFrac, List.all_cons, List.all_nil, id] at h z <;> first | exact h | cases z
          · subst hv
            cases a <;> cases b <;> simp only [isInt, List.all_cons, List.all_nil, id] at z <;> first | cases z | skip
            rename_i a b
            simp only [isFrac] at h
            walk_at "d3"
            simp only [P_own_common, absif, gcd_abs]
            try walk_at "d3"
            refine ⟨fun z => ?_, fun z => ?_⟩
            · refine ⟨by omega, by omega, ?_⟩
              have e2 : decide (0 < b) = true := decide_eq_true z
              rw [e2, Bool.true_and] at h
              rw [gcd_one]
              exact h
            · have e2 : decide (0 < b) = false := decide_eq_false (by omega)
              rw [e2, Bool.false_and] at h
              exact h
      | a :: b :: c :: r, h =>
        walk_at "d3"
        simp only [isFrac] at h
        exact ⟨fun _ => h, fun z => absurd z (by omega)⟩
    | _ =>
      walk_at "d3"
      simp [isFrac] at h ⊢
      exact h
  · exact h.elim
theorem boolsD_map {α : Type} (p : α → Bool) : ∀ xs : List α, boolsD (xs.map fun x => .bool (p x)) = some (xs.map p)
  | [] => rfl
  | x :: r => by simp only [List.map_cons, boolsD, boolsD_map p r]
theorem all_id {α : Type} (p : α → Bool) : ∀ xs : List α, (xs.map p).all id = xs.all p
  | [] => rfl
  | x :: r => by simp only [List.map_cons, List.all_cons, id, all_id p r]
/-- a board's sides, as told -/
def shapeD (o : Option (Nat × Nat)) : PyData := match o with
  | some (w, h) => .tuple [.int w, .int h]
  | none => .none
def P_own_shape : DP := fun rs C k _ => match rs with
  | [.d x] => k (.d (shapeD (sidesD x))) C
  | _ => False
theorem h_own_shape (K : PySem.W.Frag) (A : Adr) : ∀ rs C k e, P_own_shape rs C k e → rs.length = 1 ∧ sem_p_own_shape K A (defEnds k) ⟨start3 5 rs, C⟩ (defExc e) := by
  intro rs C k e h
  letI : Tb := ⟨[]⟩
  unfold P_own_shape at h
  split at h
  · rename_i x
    refine ⟨rfl, ?_⟩
    unfold sem_p_own_shape
    refine seq_abs fun v hv => ?_
    cases x with
    | tuple xs =>
      walk_at "d3"
      have no : sidesD (.tuple xs) = none → k (.d .none) C := fun z => by rw [z] at h; exact h
      refine ⟨fun h1 => ⟨fun h2 => no ?_, fun h2 => ?_⟩, fun h1 => no ?_⟩
      · match xs, h2 with
        | r :: t, h2 =>
          simp only [sidesD, List.length_cons] at h2 ⊢
          rw [if_neg (by omega)]
      · match xs, h, h1, h2, no with
        | r :: t, h, h1, h2, no =>
          simp only [List.length_cons] at h1 h2
          subst hv
          refine seq_abs fun v hv => ?_
          walk_at "d3"
          have n2 : ¬ (1 ≤ lenT r ∧ lenT r ≤ 11) → k (.d .none) C := fun z => no (by
            simp only [sidesD]
            rw [if_neg (fun q => z ⟨q.2.1, q.2.2.1⟩)])
          cases r with
          | tuple ys =>
            walk_at "d3"
            refine ⟨fun h3 => ⟨fun h4 => n2 (by simp only [lenT]; omega), fun h4 => ?_⟩, fun h3 => n2 (by simp only [lenT]; omega)⟩
            subst hv
            refine seq_abs fun v hv => ?_
            walk_at "d3"
            refine comp_map (S := ⟨[some (.d (.tuple (.tuple ys :: t))), none, none, none, none], C⟩) rfl (fun x => .int (lenT x)) (fun x hx N hN => ?_) (by simp [szl]; omega) ?_
            · cases x <;> walk_at "d3" <;> exact hN _ rfl
            · walk_at "d3"
              subst hv
              walk_at "d3"
              refine comp_map (S := ⟨[some (.d (.tuple (.tuple ys :: t))), some (.d (.int (lenT (.tuple ys)))), some (.d (.list (t.map fun x => .int (lenT x)))), none, none], C⟩) rfl (fun x => .bool (PyData.eqv x (.int (lenT (.tuple ys))))) (fun x hx N hN => ?_) (by simp [szl]; omega) ?_
              · obtain ⟨q, hq, rfl⟩ := List.mem_map.mp hx
                walk_at "d3"
                have z := hN ⟨[some (.d (.tuple (.tuple ys :: t))), some (.d (.int (lenT (.tuple ys)))), some (.d (.list (t.map fun x => .int (lenT x)))), none, some (.d (.int (lenT q)))], C⟩ rfl
                rw [eqv_int] at z
                exact z
              · rw [List.map_map]
                walk_at "d3"
                have e1 : t.map ((fun x => PyData.bool (PyData.eqv x (.int (lenT (.tuple ys))))) ∘ fun x => .int (lenT x)) = t.map fun q => .bool (lenT q == lenT (.tuple ys)) := by
                  refine List.map_congr_left fun q _ => ?_
                  show PyData.bool (PyData.eqv (.int (lenT q)) (.int (lenT (.tuple ys)))) = _
                  rw [eqv_int]
                  congr 1
                  rw [Bool.eq_iff_iff, beq_iff_eq, beq_iff_eq]
                  omega
                rw [e1, boolsD_map]
                refine ⟨_, rfl, ?_⟩
                rw [all_id]
                simp only [sidesD] at h
                refine ⟨fun z => ?_, fun z => ?_⟩
                · rw [if_pos ⟨by omega, by simp only [lenT]; omega, by simp only [lenT]; omega, z⟩] at h
                  exact h
                · rw [if_neg (fun q => by rw [q.2.2.2] at z; cases z)] at h
                  exact h
          | _ =>
            walk_at "d3"
            exact n2 (by simp [lenT])
      · match xs with
        | [] => simp [sidesD]
        | r :: t => simp at h1; omega
    | _ =>
      walk_at "d3"
      exact h
  · exact h.elim

/-- all spots of a board, column by column -/
def spotsD (w h : Nat) : List PyData := (List.range w).flatMap fun (x : Nat) => (List.range h).map fun (y : Nat) => .tuple [.int x, .int y]
theorem rangeD_map (lo : Int) : ∀ n : Nat, rangeD lo n = (List.range n).map fun (i : Nat) => .int (lo + (i : Int))
  | 0 => rfl
  | n + 1 => by
    rw [rangeD, rangeD_map (lo + 1) n, List.range_succ_eq_map, List.map_cons, List.map_map]
    simp only [Int.natCast_zero, Int.add_zero]
    congr 1
    refine List.map_congr_left fun i _ => ?_
    show PyData.int _ = PyData.int _
    congr 1
    simp only [Nat.succ_eq_add_one]
    omega
theorem rangeD_0 (n : Nat) : rangeD 0 n = (List.range n).map fun (i : Nat) => .int (i : Int) := by
  rw [rangeD_map]
  refine List.map_congr_left fun i _ => ?_
  rw [Int.zero_add]
theorem flat_len {α β : Type} {f : α → List β} {n : Nat} : ∀ xs : List α, (∀ x ∈ xs, (f x).length = n) → (xs.flatMap f).length = xs.length * n
  | [], _ => by simp
  | x :: r, h => by
    rw [List.flatMap_cons, List.length_append, h x (List.mem_cons_self ..), flat_len r fun y hy => h y (List.mem_cons_of_mem _ hy), List.length_cons, Nat.add_mul]
    omega
theorem mul_le1000 {w h : Nat} (hw : w ≤ 1000) (hh : h ≤ 1000) : w * h ≤ 1000000 := Nat.mul_le_mul hw hh
theorem spots_len {w h : Nat} : (spotsD w h).length = w * h := by
  unfold spotsD
  rw [flat_len (n := h) _ (fun x _ => by simp), List.length_range]
def P_shape_spots : DP := fun rs C k _ => match rs with
  | [.d (.tuple [.int w, .int h])] => ∃ W H : Nat, w = W ∧ h = H ∧ W ≤ 1000 ∧ H ≤ 1000 ∧ k (.d (.list (spotsD W H))) C
  | _ => False
theorem h_shape_spots (K : PySem.W.Frag) (A : Adr) : ∀ rs C k e, P_shape_spots rs C k e → rs.length = 1 ∧ sem_p_shape_spots K A (defEnds k) ⟨start3 5 rs, C⟩ (defExc e) := by
  intro rs C k e h
  unfold P_shape_spots at h
  split at h
  · obtain ⟨W, H, rfl, rfl, hW, hH, hk⟩ := h
    refine ⟨rfl, ?_⟩
    have hm := mul_le1000 hW hH
    unfold sem_p_shape_spots
    refine seq_abs fun v hv => ?_
    walk_at "d3"
    subst hv
    walk_at "d3"
    simp only [Int.toNat_natCast, rangeD_0]
    refine ⟨by unfold D3.inR; omega, ?_⟩
    have e1 : (((List.range W).map fun (i : Nat) => PyData.int (i : Int)).flatMap fun d => match d with
      | .int x => (List.range H).map fun (y : Nat) => .tuple [.int x, .int (y : Int)]
      | _ => []) = spotsD W H := by
      unfold spotsD
      rw [List.flatMap_map]
    refine comp2_fm (S := ⟨[some (.d (.tuple [.int W, .int H])), some (.d (.int W)), some (.d (.int H)), none, none], C⟩) rfl (fun d => match d with
      | .int x => (List.range H).map fun (y : Nat) => .tuple [.int x, .int (y : Int)]
      | _ => []) _ [] (fun d hd acc N hl hN => ?_) ?_ ?_
    · obtain ⟨x, hx, rfl⟩ := List.mem_map.mp hd
      walk_at "d3"
      simp only [Int.toNat_natCast, rangeD_0]
      refine ⟨by unfold D3.inR; omega, ?_⟩
      refine comp_fm (S := ⟨[some (.d (.tuple [.int W, .int H])), some (.d (.int W)), some (.d (.int H)), some (.d (.int x)), none], C⟩) rfl (fun d => match d with
        | .int y => some (.tuple [.int x, .int y])
        | _ => none) _ acc (fun d hd N M hN hM => ?_) (by simpa using hl) ?_
      · obtain ⟨y, hy, rfl⟩ := List.mem_map.mp hd
        walk_at "d3"
        exact hN _ _ rfl rfl
      · have e2 : ((List.range H).map fun (i : Nat) => PyData.int (i : Int)).filterMap (fun d => match d with
          | .int y => some (PyData.tuple [.int x, .int y])
          | _ => none) = (List.range H).map fun (y : Nat) => .tuple [.int x, .int (y : Int)] := by
          rw [List.filterMap_map]
          exact congrFun (List.filterMap_eq_map (f := fun (y : Nat) => PyData.tuple [.int x, .int (y : Int)])) _
        rw [e2]
        exact hN _ rfl
    · rw [e1, spots_len, List.length_nil, szl]
      omega
    · rw [e1]
      walk_at "d3"
      exact hk
  · exact h.elim
/-- d in [..] of ints -/
theorem in_ints {i a b : Int} : inD (.int i) [.int a, .int b] = (i == a || i == b) := by
  unfold inD
  simp only [List.any_cons, List.any_nil, eqv_int, Bool.or_false]
  rw [Bool.eq_iff_iff]
  simp only [Bool.or_eq_true, beq_iff_eq]
  omega
theorem gIn_ints {i a b : Int} {k : SV → Prop} : gIn false (.d (.int i)) (.d (.tuple [.int a, .int b])) k ↔ k (.d (.bool (i == a || i == b))) := by
  simp only [gIn, flatD, List.all_cons, List.all_nil, Bool.and_true, true_and, Bool.false_eq_true, if_false, in_ints]
theorem gIn_intsL {i a b : Int} {k : SV → Prop} : gIn false (.d (.int i)) (.d (.list [.int a, .int b])) k ↔ k (.d (.bool (i == a || i == b))) := by
  simp only [gIn, flatD, List.all_cons, List.all_nil, Bool.and_true, true_and, Bool.false_eq_true, if_false, in_ints]
theorem rim_eq {w h x y : Nat} : ((x : Int) == 0 || (x : Int) == (w : Int) - 1) = decide (x = 0 ∨ x + 1 = w) := by
  rw [Bool.eq_iff_iff]
  simp only [Bool.or_eq_true, beq_iff_eq, decide_eq_true_eq]
  omega
def rimI (w h x y : Int) : Bool := (x == 0 || x == w - 1) || (y == 0 || y == h - 1)
theorem rimI_eq {w h x y : Nat} (hw : 1 ≤ w) (hh : 1 ≤ h) : rimI w h x y = rimB w h x y := by
  unfold rimI rimB
  rw [Bool.eq_iff_iff]
  simp only [Bool.or_eq_true, beq_iff_eq, decide_eq_true_eq]
  omega
def P_is_on_rim : DP := fun rs C k _ => match rs with
  | [.d (.tuple [.int w, .int h]), .d (.tuple [.int x, .int y])] => k (.d (.bool (rimI w h x y))) C
  | _ => False
theorem h_is_on_rim (K : PySem.W.Frag) (A : Adr) : ∀ rs C k e, P_is_on_rim rs C k e → rs.length = 2 ∧ sem_p_is_on_rim K A (defEnds k) ⟨start3 2 rs, C⟩ (defExc e) := by
  intro rs C k e h
  unfold P_is_on_rim at h
  split at h
  · rename_i w h' x y
    refine ⟨rfl, ?_⟩
    unfold sem_p_is_on_rim
    walk_at "d3"
    simp only [gIn_ints]
    unfold rimI at h
    refine ⟨fun z => by rw [z, Bool.true_or] at h; exact h, fun z => by rw [z, Bool.false_or] at h; exact h⟩
  · exact h.elim
def P_at : DP := fun rs C k _ => match rs with
  | [.d R, .d (.tuple [.int x, .int y])] => ∃ (i j : Nat) (d : PyData), x = i ∧ y = j ∧ atD R i j = some d ∧ k (.d d) C
  | _ => False
theorem atD_some {R : PyData} {i j : Nat} {d : PyData} (h : atD R i j = some d) : ∃ rs r, R = .tuple rs ∧ rs[j]? = some (.tuple r) ∧ r[i]? = some d := by
  unfold atD at h
  cases R with
  | tuple rs =>
    simp only [itemsT] at h
    cases e : rs[j]? with
    | none => rw [e] at h; cases h
    | some r =>
      rw [e] at h
      cases r with
      | tuple r => exact ⟨rs, r, rfl, e, h⟩
      | _ => simp [itemsT] at h
  | _ => simp [itemsT] at h
theorem h_at (K : PySem.W.Frag) (A : Adr) : ∀ rs C k e, P_at rs C k e → rs.length = 2 ∧ sem_p_at K A (defEnds k) ⟨start3 2 rs, C⟩ (defExc e) := by
  intro rs C k e h
  unfold P_at at h
  split at h
  · obtain ⟨i, j, d, rfl, rfl, hd, hk⟩ := h
    refine ⟨rfl, ?_⟩
    obtain ⟨rs, r, rfl, h1, h2⟩ := atD_some hd
    unfold sem_p_at
    walk_at "d3"
    rw [at_iff rfl h1]
    walk_at "d3"
    rw [at_iff rfl h2]
    exact hk
  · exact h.elim
/-- a word about a spot's place -/
def atSpot (p : Nat → Nat → Bool) : PyData → Bool
  | .tuple [.int x, .int y] => p x.toNat y.toNat
  | _ => true
theorem spots_all {w h : Nat} {p : Nat → Nat → Bool} : (spotsD w h).all (atSpot p) = allXY w h p := by
  unfold spotsD allXY
  rw [List.all_flatMap]
  congr 1
  funext x
  rw [List.all_map]
  rfl
theorem spots_mem {w h : Nat} {d : PyData} (m : d ∈ spotsD w h) : ∃ x y : Nat, x < w ∧ y < h ∧ d = .tuple [.int x, .int y] := by
  unfold spotsD at m
  obtain ⟨x, hx, m⟩ := List.mem_flatMap.mp m
  obtain ⟨y, hy, rfl⟩ := List.mem_map.mp m
  exact ⟨x, y, List.mem_range.mp hx, List.mem_range.mp hy, rfl⟩
theorem sides_at {R : PyData} {w h x y : Nat} (s : sidesD R = some (w, h)) (hx : x < w) (hy : y < h) : ∃ d, atD R x y = some d := by
  obtain ⟨rs, rfl, l, _, _, _, _, hr⟩ := sides_some s
  have hy : y < rs.length := by omega
  obtain ⟨r, e, l2⟩ := hr rs[y] (List.getElem_mem hy)
  have hx : x < r.length := by omega
  refine ⟨r[x], ?_⟩
  unfold atD
  simp only [itemsT, List.getElem?_eq_getElem hy, e, List.getElem?_eq_getElem hx]
def P_are_numbers : DP := fun rs C k _ => match rs with
  | [.d R, .d (.tuple [.int w, .int h])] => ∃ W H : Nat, w = W ∧ h = H ∧ sidesD R = some (W, H) ∧ k (.d (.bool (numsB R W H))) C
  | _ => False
theorem h_are_numbers (K : PySem.W.Frag) (A : Adr) : ∀ rs C k e, P_are_numbers rs C k e → rs.length = 2 ∧ sem_p_are_numbers K A P_at P_is_on_rim P_is_whole P_shape_spots (defEnds k) ⟨start3 4 rs, C⟩ (defExc e) := by
  intro rs C k e h
  letI : Tb := ⟨[]⟩
  unfold P_are_numbers at h
  split at h
  · rename_i R w h'
    obtain ⟨W, H, rfl, rfl, hs, hk⟩ := h
    refine ⟨rfl, ?_⟩
    obtain ⟨_, _, _, h1, h2, w1, w2, _⟩ := sides_some hs
    unfold sem_p_are_numbers
    refine seq_abs fun v hv => ?_
    walk_at "d3"
    simp only [P_shape_spots]
    refine ⟨W, H, rfl, rfl, by omega, by omega, ?_⟩
    refine loop_ret (fun S => ∃ g2 g3, S = ⟨[some (.d R), some (.d (.tuple [.int W, .int H])), g2, g3], C⟩) (atSpot fun x y => numB W H x y (atD R x y)) _ _ ⟨_, _, rfl⟩ ?_ ?_
    · rintro d hd S N ⟨g2, g3, rfl⟩ hN hB
      obtain ⟨x, y, hx, hy, rfl⟩ := spots_mem hd
      obtain ⟨z, hz⟩ := sides_at hs hx hy
      rw [spots_all] at hB
      have fin : numB W H x y (some z) = false → k (.d (.bool false)) C := fun q => by
        have q2 := hB (by simp only [atSpot, Int.toNat_natCast, hz]; exact q)
        unfold numsB at hk
        rw [q2] at hk
        exact hk
      have go : numB W H x y (some z) = true → N ⟨[some (.d R), some (.d (.tuple [.int W, .int H])), some (.d (.tuple [.int x, .int y])), some (.d z)], C⟩ := fun q =>
        hN (by simp only [atSpot, Int.toNat_natCast, hz]; exact q) _ ⟨_, _, rfl⟩
      walk_at "d3"
      simp only [P_at]
      refine ⟨x, y, z, rfl, rfl, hz, ?_⟩
      try walk_at "d3"
      simp only [P_is_whole, P_is_on_rim]
      try walk_at "d3"
      rw [rimI_eq w1 h1]
      cases z with
      | int i =>
        simp only [isInt, absif]
        refine ⟨fun q => by (cases q), fun _ => ⟨fun r => ⟨fun b => fin ?_, fun b => go ?_⟩, fun r => go ?_⟩⟩
        · simp only [numB, r, Bool.true_and]
          rw [decide_eq_true (by omega)]
          rfl
        · simp only [numB, r, Bool.true_and]
          rw [decide_eq_false (by omega)]
          rfl
        · simp only [numB, r, Bool.false_and]
          rfl
      | _ => exact ⟨fun _ => fin rfl, fun q => by (cases q)⟩
    · rintro q S ⟨g2, g3, rfl⟩
      rw [spots_all] at q
      subst hv
      walk_at "d3"
      unfold numsB at hk
      rw [q] at hk
      exact hk
  · exact h.elim

theorem nums_int {R : PyData} {w h x y : Nat} (n : numsB R w h = true) (hx : x < w) (hy : y < h) : ∃ i, atD R x y = some (.int i) := by
  have z := allXY_iff.mp n x hx y hy
  unfold numB at z
  split at z
  · rename_i i e
    exact ⟨i, e⟩
  · cases z
def P_are_steps : DP := fun rs C k _ => match rs with
  | [.d R] => ∃ W H : Nat, sidesD R = some (W, H) ∧ numsB R W H = true ∧ k (.d (.bool (stepsB R W H))) C
  | _ => False
theorem h_are_steps (K : PySem.W.Frag) (A : Adr) : ∀ rs C k e, P_are_steps rs C k e → rs.length = 1 ∧ sem_p_are_steps K A P_shape_spots P_own_shape (defEnds k) ⟨start3 3 rs, C⟩ (defExc e) := by
  intro rs C k e h
  letI : Tb := ⟨[]⟩
  unfold P_are_steps at h
  split at h
  · rename_i R
    obtain ⟨W, H, hs, hn, hk⟩ := h
    refine ⟨rfl, ?_⟩
    obtain ⟨rs, eR, l, h1, h2, w1, w2, hr⟩ := sides_some hs
    unfold sem_p_are_steps
    refine seq_abs fun v hv => ?_
    walk_at "d3"
    simp only [P_own_shape, hs, shapeD, P_shape_spots]
    refine ⟨W, H, rfl, rfl, by omega, by omega, ?_⟩
    refine loop_ret (fun S => ∃ g1 g2, S = ⟨[some (.d R), g1, g2], C⟩) (atSpot (stepB R)) _ _ ⟨_, _, rfl⟩ ?_ ?_
    · rintro d hd S N ⟨g1, g2, rfl⟩ hN hB
      obtain ⟨x, y, hx, hy, rfl⟩ := spots_mem hd
      rw [spots_all] at hB
      have fin : stepB R x y = false → k (.d (.bool false)) C := fun q => by
        have q2 := hB (by simp only [atSpot, Int.toNat_natCast]; exact q)
        unfold stepsB at hk
        rw [q2] at hk
        exact hk
      have go : stepB R x y = true → N ⟨[some (.d R), some (.d (.int x)), some (.d (.int y))], C⟩ := fun q =>
        hN (by simp only [atSpot, Int.toNat_natCast]; exact q) _ ⟨_, _, rfl⟩
      clear hN hB hk
      obtain ⟨i, hi⟩ := nums_int hn hx hy
      obtain ⟨rs', r, e1, e2, e3⟩ := atD_some hi
      have k1 : ∀ k, atK rs' (y : Int) k ↔ k (.d (.tuple r)) := fun k => at_iff rfl e2
      have k2 : ∀ k, atK r (x : Int) k ↔ k (.d (.int i)) := fun k => at_iff rfl e3
      have k3 : 0 < x → ∃ i1, atD R (x - 1) y = some (.int i1) ∧ ∀ k, atK r ((x : Int) - 1) k ↔ k (.d (.int i1)) := fun x0 => by
        obtain ⟨i1, h1⟩ := nums_int hn (show x - 1 < W by omega) hy
        obtain ⟨rs2, r2, f1, f2, f3⟩ := atD_some h1
        rw [e1] at f1
        cases f1
        rw [e2] at f2
        cases f2
        exact ⟨i1, h1, fun k => at_iff (n := x - 1) (by omega) f3⟩
      have k4 : 0 < y → ∃ i1 r2, atD R x (y - 1) = some (.int i1) ∧ (∀ k, atK rs' ((y : Int) - 1) k ↔ k (.d (.tuple r2))) ∧ ∀ k, atK r2 (x : Int) k ↔ k (.d (.int i1)) := fun y0 => by
        obtain ⟨i1, h1⟩ := nums_int hn hx (show y - 1 < H by omega)
        obtain ⟨rs2, r2, f1, f2, f3⟩ := atD_some h1
        rw [e1] at f1
        cases f1
        exact ⟨i1, r2, h1, fun k => at_iff (n := y - 1) (by omega) f2, fun k => at_iff rfl f3⟩
      have ev : heightD (atD R x y) = i := by rw [hi]; rfl
      unfold stepB at fin go
      rw [ev] at fin go
      rw [e1] at fin go ⊢
      walk_at "d3"
      simp only [k1, k2]
      have f2 : ∀ a : Int, a.fmod 2 = a % 2 := fun a => Int.fmod_eq_emod_of_nonneg _ (by decide)
      simp only [f2, absif]
      rw [e1] at k3 k4
      have north : (i - (x : Int) - (y : Int)) % 2 = 0 → (0 < x → ∃ i1, atD (.tuple rs') (x - 1) y = some (.int i1) ∧ (i - i1).natAbs = 1) →
          (0 < y → ∀ i1, atD (.tuple rs') x (y - 1) = some (.int i1) → ¬ (i - i1).natAbs = 1 → k (.d (.bool false)) C) ∧ ((0 < y → ∃ i1, atD (.tuple rs') x (y - 1) = some (.int i1) ∧ (i - i1).natAbs = 1) → N ⟨[some (.d (.tuple rs')), some (.d (.int x)), some (.d (.int y))], C⟩) := by
        intro hp hl
        have el : (x == 0 || decide ((i - heightD (atD (.tuple rs') (x - 1) y)).natAbs = 1)) = true := by
          by_cases x0 : 0 < x
          · obtain ⟨i1, g1, g2⟩ := hl x0
            rw [g1]
            simp [heightD, g2]
          · have : x = 0 := by omega
            simp [this]
        refine ⟨fun y0 i1 g1 g2 => fin ?_, fun hu => go ?_⟩
        · rw [el, g1]
          have : y ≠ 0 := by omega
          simp [heightD, g2, this]
        · rw [el]
          by_cases y0 : 0 < y
          · obtain ⟨i1, g1, g2⟩ := hu y0
            rw [g1]
            simp [heightD, g2, hp]
          · have : y = 0 := by omega
            simp [this]
            omega
      refine ⟨fun hp => fin (by simp [hp]), fun hp => ⟨fun x0 => ?_, fun x0 => ?_⟩⟩
      · obtain ⟨i1, g1, k3⟩ := k3 (by omega)
        simp only [k3]
        refine ⟨fun hd => fin ?_, fun hd => ?_⟩
        · have : x ≠ 0 := by omega
          have : ¬ (i - i1).natAbs = 1 := by omega
          rw [g1]
          simp [heightD, *]
        · obtain ⟨n1, n2⟩ := north hp fun _ => ⟨i1, g1, by omega⟩
          refine ⟨fun y0 => ?_, fun y0 => n2 fun z => by omega⟩
          obtain ⟨i2, r2, g2, k5, k6⟩ := k4 (by omega)
          simp only [k5, k6]
          exact ⟨fun hd2 => n1 (by omega) i2 g2 (by omega), fun hd2 => n2 fun _ => ⟨i2, g2, by omega⟩⟩
      · obtain ⟨n1, n2⟩ := north hp fun _ => by omega
        refine ⟨fun y0 => ?_, fun y0 => n2 fun z => by omega⟩
        obtain ⟨i2, r2, g2, k5, k6⟩ := k4 (by omega)
        simp only [k5, k6]
        exact ⟨fun hd2 => n1 (by omega) i2 g2 (by omega), fun hd2 => n2 fun _ => ⟨i2, g2, by omega⟩⟩
    · rintro q S ⟨g2, g3, rfl⟩
      rw [spots_all] at q
      subst hv
      walk_at "d3"
      unfold stepsB at hk
      rw [q] at hk
      exact hk
  · exact h.elim
theorem neE_shape {o : Option (Nat × Nat)} {W H : Nat} {k : SV → Prop} : gNeE (.d (shapeD o)) (.d (.tuple [.int W, .int H])) k ↔ k (.d (.bool (!decide (o = some (W, H))))) := by
  cases o with
  | none => simp [shapeD, gNeE, gNe, SeqAt.shaped, PyData.canLay0, PyData.canLayAll0, PyData.depth, PyData.depthAll, PyData.eqv]
  | some p =>
    obtain ⟨w, h⟩ := p
    have e : PyData.eqv (.tuple [.int w, .int h]) (.tuple [.int W, .int H]) = decide (some (w, h) = some (W, H)) := by
      simp only [eqv_tuple, eqv_cons, eqv_int, eqv_nil, Bool.and_true]
      rw [Bool.eq_iff_iff]
      simp only [Bool.and_eq_true, beq_iff_eq, decide_eq_true_eq, Option.some.injEq, Prod.mk.injEq]
      omega
    simp only [shapeD, gNeE, gNe, e]
    simp [SeqAt.shaped, PyData.canLay0, PyData.canLayAll0, PyData.depth, PyData.depthAll]
theorem frac_worth {d : PyData} : worthB d = (isFrac d && match d with
  | .tuple [.int a, .int _] => !(a == 0)
  | _ => false) := by
  unfold worthB isFrac
  split
  · rename_i a b
    rw [Bool.eq_iff_iff]
    simp only [Bool.and_eq_true, decide_eq_true_eq, beq_iff_eq, Bool.not_eq_true', beq_eq_false_iff_ne]
    exact ⟨fun ⟨⟨x, y⟩, z⟩ => ⟨⟨y, z⟩, x⟩, fun ⟨⟨y, z⟩, x⟩ => ⟨⟨x, y⟩, z⟩⟩
  · rename_i n
    first
      | rfl
      | split
        · rename_i a b
          exact (n a b rfl).elim
        · rfl
theorem frac_pair {d : PyData} (h : isFrac d = true) : ∃ a b, d = .tuple [.int a, .int b] := by
  unfold isFrac at h
  split at h
  · exact ⟨_, _, rfl⟩
  · cases h
def P_are_worths : DP := fun rs C k _ => match rs with
  | [.d T, .d (.tuple [.int w, .int h])] => ∃ W H : Nat, w = W ∧ h = H ∧ k (.d (.bool (decide (sidesD T = some (W, H)) && worthsB T))) C
  | _ => False
theorem h_are_worths (K : PySem.W.Frag) (A : Adr) : ∀ rs C k e, P_are_worths rs C k e → rs.length = 2 ∧ sem_p_are_worths K A P_own_shape P_is_fraction (defEnds k) ⟨start3 4 rs, C⟩ (defExc e) := by
  intro rs C k e h
  letI : Tb := ⟨[]⟩
  unfold P_are_worths at h
  split at h
  · rename_i T w h'
    obtain ⟨W, H, rfl, rfl, hk⟩ := h
    refine ⟨rfl, ?_⟩
    unfold sem_p_are_worths
    refine seq_abs fun v hv => ?_
    walk_at "d3"
    simp only [P_own_shape]
    try walk_at "d3"
    rw [neE_shape]
    walk_at "d3"
    by_cases hs : sidesD T = some (W, H)
    · rw [decide_eq_true hs, Bool.true_and] at hk
      refine ⟨fun z => absurd hs z, fun _ => ?_⟩
      obtain ⟨rs, rfl, l, h1, h2, w1, w2, hr⟩ := sides_some hs
      have hm := mul_le1000 (w := H) (h := W) (by omega) (by omega)
      subst hv
      walk_at "d3"
      have lf : (rs.flatMap fun r => (itemsT r).map fun d => PyData.bool (worthB d)).length = H * W := by
        rw [flat_len (n := W) _ (fun q hq => ?_), l]
        obtain ⟨xs, rfl, l2⟩ := hr q hq
        simpa [itemsT] using l2
      refine comp2_fm (S := ⟨[some (.d (.tuple rs)), some (.d (.tuple [.int W, .int H])), none, none], C⟩) rfl (fun r => (itemsT r).map fun d => .bool (worthB d)) rs [] (fun q hq acc N hl hN => ?_) (by rw [lf, szl]; simp; omega) ?_
      · obtain ⟨xs, rfl, l2⟩ := hr q hq
        simp only [itemsT] at hl hN
        walk_at "d3"
        refine comp_fm (S := ⟨[some (.d (.tuple rs)), some (.d (.tuple [.int W, .int H])), some (.d (.tuple xs)), none], C⟩) rfl (fun d => some (.bool (worthB d))) xs acc (fun d hd N M hN hM => ?_) (by simpa using hl) (by rw [show xs.filterMap (fun d => some (PyData.bool (worthB d))) = xs.map fun d => .bool (worthB d) from congrFun (List.filterMap_eq_map (f := fun d => PyData.bool (worthB d))) xs]; exact hN _ rfl)
        walk_at "d3"
        simp only [P_is_fraction]
        try walk_at "d3"
        have hN2 := hN _ ⟨[some (.d (.tuple rs)), some (.d (.tuple [.int W, .int H])), some (.d (.tuple xs)), some (.d d)], C⟩ rfl rfl
        cases hf : isFrac d with
        | false =>
          rw [frac_worth, hf] at hN2
          exact ⟨fun z => (by cases z), fun _ => hN2⟩
        | true =>
          obtain ⟨a, b, rfl⟩ := frac_pair hf
          rw [frac_worth, hf, Bool.true_and] at hN2
          refine ⟨fun _ => ?_, fun z => (by cases z)⟩
          walk_at "d3"
          exact hN2
      · rw [List.nil_append]
        have e1 : (rs.flatMap fun r => (itemsT r).map fun d => PyData.bool (worthB d)) = (rs.flatMap itemsT).map fun d => PyData.bool (worthB d) := by rw [List.map_flatMap]
        rw [e1, boolsD_map]
        refine ⟨_, rfl, ?_⟩
        rw [all_id, List.all_flatMap]
        exact hk
    · rw [decide_eq_false hs, Bool.false_and] at hk
      exact ⟨fun _ => hk, fun z => absurd z hs⟩
  · exact h.elim
def P_field_faults : DP := fun rs C k _ => match rs with
  | [.d x] => k (.d (.list (faultD x))) C
  | _ => False
theorem h_field_faults (K : PySem.W.Frag) (A : Adr) : ∀ rs C k e, P_field_faults rs C k e → rs.length = 1 ∧ sem_p_field_faults K A P_own_shape P_are_numbers P_are_steps P_are_worths (defEnds k) ⟨start3 4 rs, C⟩ (defExc e) := by
  intro rs C k e h
  unfold P_field_faults at h
  split at h
  · rename_i x
    refine ⟨rfl, ?_⟩
    unfold sem_p_field_faults
    refine seq_abs fun v hv => ?_
    have no : (∀ a b, x ≠ .tuple [a, b]) → k (.d (.list [.none])) C := fun z => by
      have e : faultD x = [.none] := by
        unfold faultD
        split
        · rename_i a b
          exact absurd rfl (z a b)
        · rfl
      rw [e] at h
      exact h
    cases x with
    | tuple xs =>
      match xs, h, no with
      | [], h, no => walk_at "d3"; exact no (fun a b z => by cases z)
      | [a], h, no => walk_at "d3"; exact no (fun a b z => by cases z)
      | [a, b], h, no =>
        walk_at "d3"
        subst hv
        refine seq_abs fun v hv => ?_
        walk_at "d3"
        subst hv
        refine seq_abs fun v hv => ?_
        walk_at "d3"
        simp only [P_own_shape]
        try walk_at "d3"
        have ef : faultD (.tuple [a, b]) = match sidesD a with
          | some (w, h) => if numsB a w h then (if stepsB a w h then (if sidesD b = some (w, h) ∧ worthsB b = true then [] else [.str "worths"]) else [.str "steps"]) else [.str "heights"]
          | none => [.str "heights"] := rfl
        rw [ef] at h
        subst hv
        refine seq_abs fun v hv => ?_
        walk_at "d3"
        cases hs : sidesD a with
        | none =>
          rw [hs] at h
          simp only [shapeD]
          walk_at "d3"
          exact ⟨true, rfl, fun _ => h, fun z => (by cases z)⟩
        | some p =>
          obtain ⟨w, h'⟩ := p
          rw [hs] at h
          simp only [shapeD, P_are_numbers]
          walk_at "d3"
          refine ⟨false, rfl, fun z => (by cases z), fun _ => ⟨w, h', rfl, rfl, hs, fun hn => ?_, fun hn => ?_⟩⟩
          · simp only [hn] at h
            exact h
          · subst hv
            simp only [hn, if_true] at h
            refine seq_abs fun v hv => ?_
            simp only [dIf, dNot, dTruth, dCall, dCons, dNil, P_are_steps, dVar, List.getElem?_cons_zero, List.getElem?_cons_succ]
            refine ⟨w, h', hs, hn, ?_⟩
            walk_at "d3"
            refine ⟨fun hp => ?_, fun hp => ?_⟩
            · simp only [hp] at h
              exact h
            · subst hv
              simp only [hp, if_true] at h
              simp only [dRet, dIfE, dTruth, dCall, dCons, dNil, P_are_worths, dVar, List.getElem?_cons_zero, List.getElem?_cons_succ]
              refine ⟨w, h', rfl, rfl, ?_⟩
              walk_at "d3"
              refine ⟨fun z => ?_, fun z => ?_⟩
              · simp only [Bool.and_eq_true, decide_eq_true_eq] at z
                rw [if_pos z] at h
                exact h
              · rw [if_neg (fun q => by simp [q] at z)] at h
                exact h
      | a :: b :: c :: r, h, no =>
        walk_at "d3"
        exact ⟨fun _ => no fun a b z => (by cases z), fun z => absurd z (by omega)⟩
    | _ => walk_at "d3"; exact no (fun a b z => by cases z)
  · exact h.elim

theorem fault_one (x : PyData) : faultD x = [] ∨ ∃ p, faultD x = [p] := by
  unfold faultD
  repeat' split
  all_goals simp
def P_need_field (cB : Addr) : DP := fun rs C k e => match rs with
  | [.d x] => (faultD x = [] → k (.d .none) C) ∧ ∀ p, faultD x = [p] → e ⟨cB, [("place", p)]⟩ C
  | _ => False
theorem h_need_field (K : PySem.W.Frag) (A : Adr) : ∀ rs C k e, P_need_field A.c_BadField rs C k e → rs.length = 1 ∧ sem_p_need_field K A P_field_faults (defEnds k) ⟨start3 2 rs, C⟩ (defExc e) := by
  intro rs C k e h
  unfold P_need_field at h
  split at h
  · rename_i x
    refine ⟨rfl, ?_⟩
    letI : Tb := ⟨[]⟩
    unfold sem_p_need_field
    simp only [dForI, dItems, dCall, dCons, dNil, P_field_faults, dVar, start3, List.map_cons, List.map_nil, List.cons_append, List.nil_append, List.getElem?_cons_zero]
    rcases fault_one x with z | ⟨p, z⟩
    · rw [z, dLoop_nil]
      exact h.1 z
    · rw [z, dLoop_cons]
      walk_at "d3"
      exact h.2 p z
  · exact h.elim
/-! ### the law's draws -/
/-- the law's next number -/
def P_cell : DP := fun rs C k _ => match rs, C with
  | [.d (.list xs), .cell 0], [[.int j]] => (∃ ns : List Int, xs = ns.map .int ∧ ns.length ≤ 63) ∧ 0 ≤ j ∧ j < 1000000 ∧ ∀ n : Int, 0 ≤ n → n < 306783379 → k (.d (.int n)) [[.int (j + 1)]]
  | _, _ => False
theorem fm_of {x y : Int} (h : 0 < y) : 0 ≤ x.fmod y ∧ x.fmod y < y := by
  rw [Int.fmod_eq_emod_of_nonneg _ (by omega)]
  exact ⟨Int.emod_nonneg _ (by omega), Int.emod_lt_of_pos _ h⟩
theorem fd_of {x y : Int} (hx : 0 ≤ x) (h : 0 < y) : 0 ≤ x.fdiv y ∧ x.fdiv y ≤ x := by
  rw [Int.fdiv_eq_ediv_of_nonneg _ (by omega)]
  refine ⟨Int.ediv_nonneg hx (by omega), Int.ediv_le_self _ hx⟩
theorem h_cell (K : PySem.W.Frag) (A : Adr) : ∀ rs C k e, P_cell rs C k e → rs.length = 2 ∧ sem_u_law_cell K A (defEnds k) ⟨start3 6 rs, C⟩ (defExc e) := by
  intro rs C k e h
  unfold P_cell at h
  split at h
  · rename_i xs j
    obtain ⟨⟨ns, rfl, hl⟩, h0, h1, hk⟩ := h
    refine ⟨rfl, ?_⟩
    unfold sem_u_law_cell
    refine seq_abs fun v hv => ?_
    walk_at "d3"
    subst hv
    refine seq_abs fun v hv => ?_
    walk_at "d3"
    subst hv
    refine seq_abs fun v hv => ?_
    walk_at "d3"
    have j1 : (j + 1).natAbs < 2 ^ 21 := by omega
    have m1 : D3.MulOk 31 (j + 1) := mulOk (a := 5) (b := 20) (by decide) j1 (by decide)
    have m2 : D3.MulOk (31 * (j + 1)) (j + 1) := mulOk (a := 24) (b := 20) (by omega) j1 (by decide)
    have m3 : D3.MulOk 7919 (j + 1) := mulOk (a := 13) (b := 20) (by decide) j1 (by decide)
    refine ⟨m1, m2, m3, ?_⟩
    generalize 31 * (j + 1) * (j + 1) + 7919 * (j + 1) = base
    subst hv
    refine seq_abs fun v hv => ?_
    -- the way without a great cell
    have usual : ∀ g4 g5 : Option SV, v (defEnds k) ⟨[some (.d (.list (ns.map .int))), some (.cell 0), some (.d (.int (j + 1))), some (.d (.int base)), g4, g5], [[.int (j + 1)]]⟩ (defExc e) := fun g4 g5 => by
      subst hv
      refine seq_abs fun v hv => ?_
      walk_at "d3"
      have last : ∀ b : Int, v (defEnds k) ⟨[some (.d (.list (ns.map .int))), some (.cell 0), some (.d (.int (j + 1))), some (.d (.int b)), g4, g5], [[.int (j + 1)]]⟩ (defExc e) := fun b => by
        subst hv
        walk_at "d3"
        obtain ⟨b0, b1⟩ := fm_of (x := b) (y := 2147483647) (by decide)
        generalize b.fmod 2147483647 = c at b0 b1
        obtain ⟨c0, c1⟩ := fm_of (x := c ^ Int.toNat 5) (y := 2147483647) (by decide)
        generalize (c ^ Int.toNat 5).fmod 2147483647 = d at c0 c1
        refine ⟨powOk (a := 31) (by decide) (by omega) (by decide), divOk (a := 3) (by decide) (by decide) (by decide), hk _ ?_ ?_⟩
        · exact (fd_of c0 (by decide)).1
        · rw [Int.fdiv_eq_ediv_of_nonneg _ (by decide)]
          omega
      refine ⟨fun z => ⟨by omega, ?_⟩, fun _ => last base⟩
      obtain ⟨q0, q1⟩ := fm_of (x := j + 1) (y := (ns.length : Int)) z
      refine at_map q0 q1 fun c hc => ?_
      walk_at "d3"
      obtain ⟨r0, r1⟩ := fm_of (x := c) (y := 2147483629) (by decide)
      obtain ⟨s0, s1⟩ := fd_of (x := j + 1) (y := (ns.length : Int)) (by omega) z
      generalize c.fmod 2147483629 = r at r0 r1 ⊢
      generalize (j + 1).fdiv (ns.length : Int) = s at s0 s1 ⊢
      refine ⟨divOk (a := 6) (by omega) (by omega) (by decide), mulOk (a := 31) (b := 20) (by omega) (by omega) (by decide), last _⟩
    walk_at "d3"
    have all : ∀ P : Prop, (0 < (ns.length : Int) → P) → (¬ 0 < (ns.length : Int) → v (defEnds k) ⟨[some (.d (.list (ns.map .int))), some (.cell 0), some (.d (.int (j + 1))), some (.d (.int base)), none, none], [[.int (j + 1)]]⟩ (defExc e)) →
      (0 < (ns.length : Int) → P) ∧ (¬ 0 < (ns.length : Int) → v (defEnds k) ⟨[some (.d (.list (ns.map .int))), some (.cell 0), some (.d (.int (j + 1))), some (.d (.int base)), none, none], [[.int (j + 1)]]⟩ (defExc e)) := fun P a b => ⟨a, b⟩
    refine all _ (fun z => ⟨by omega, ?_⟩) fun _ => usual _ _
    obtain ⟨q0, q1⟩ := fm_of (x := j + 1) (y := (ns.length : Int)) z
    refine at_map q0 q1 fun c hc => ⟨powOk (a := 3) (by decide) (by decide) (by decide), ?_⟩
    dsimp only
    refine ⟨fun _ => ⟨divOk (a := 6) (by omega) (by omega) (by decide), fun few => ⟨by omega, at_map q0 q1 fun c hc => ?_⟩, fun _ => usual _ _⟩, fun _ => usual _ _⟩
    obtain ⟨s0, s1⟩ := fd_of (x := j + 1) (y := (ns.length : Int)) (by omega) z
    try walk_at "d3"
    refine ⟨divOk (a := 6) (by omega) (by omega) (by decide), ⟨by omega, by omega⟩, ?_⟩
    refine loop_all (fun xs S => (∀ x ∈ xs, ∃ i : Int, x = .int i) ∧ ∃ (o : Int) (g5 : Option SV), S = ⟨[some (.d (.list (ns.map .int))), some (.cell 0), some (.d (.int (j + 1))), some (.d (.int base)), some (.d (.int o)), g5], [[.int (j + 1)]]⟩) ?_ ?_ _ _ ?_
    · rintro S ⟨_, o, g5, rfl⟩
      dsimp only [List.getElem?_cons_zero, List.getElem?_cons_succ]
      refine ⟨fun _ => ⟨by decide, ?_⟩, fun _ => usual _ _⟩
      obtain ⟨c0, c1⟩ := fm_of (x := o) (y := 306783379) (by decide)
      exact hk _ c0 c1
    · rintro x xs S N ⟨hx, o, g5, rfl⟩ hN
      walk_at "d3"
      exact ⟨divOk (a := 28) (by decide) (by decide) (by decide), hN _ ⟨fun y hy => hx y (List.mem_cons_of_mem _ hy), _, _, rfl⟩⟩
    · letI : Tb := ⟨[]⟩
      refine ⟨fun x hx => ?_, _, _, rfl⟩
      obtain ⟨i, hi, e1⟩ := List.getElem_of_mem hx
      rw [rangeD_len] at hi
      have z1 := rangeD_get _ 0 i hi
      rw [List.getElem?_eq_getElem (by rw [rangeD_len]; exact hi), e1] at z1
      exact ⟨_, Option.some.inj z1⟩
  · exact h.elim
/-- a fraction in its lowest terms -/
def sgc (a b : Int) : Int := if b < 0 then -(Int.gcd a b : Int) else (Int.gcd a b : Int)
def nfD (a b : Int) : PyData := .tuple [.int (a.fdiv (sgc a b)), .int (b.fdiv (sgc a b))]
theorem sgc_ne {a b : Int} (hb : b ≠ 0) : sgc a b ≠ 0 := by
  have h : (Int.gcd a b : Int) ≠ 0 := by
    intro z
    have z : Int.gcd a b = 0 := by omega
    exact hb (Int.gcd_eq_zero_iff.mp z).2
  unfold sgc
  split <;> omega
theorem sgc_abs {a b : Int} : (sgc a b).natAbs = Int.gcd a b := by
  unfold sgc
  split <;> omega
theorem gcd_le {a b : Int} (hb : b ≠ 0) : Int.gcd a b ≤ b.natAbs := by
  have h : Int.gcd a b ∣ b.natAbs := Int.gcd_dvd_natAbs_right a b
  exact Nat.le_of_dvd (by omega) h
theorem sgc_div {x a b : Int} {m : Nat} (hb : b ≠ 0) (h : b.natAbs < 2 ^ (m + 1)) (hm : m < 9000) : DivOk x (sgc a b) := divOk (a := m) (sgc_ne hb) (by rw [sgc_abs]; exact Nat.lt_of_le_of_lt (gcd_le hb) h) hm
/-- the law's own, below never 0 -/
def P_low : DP := fun rs C k _ => match rs with
  | [.d (.int a), .d (.int b)] => b ≠ 0 ∧ b.natAbs < 2 ^ 8001 ∧ k (.d (nfD a b)) C
  | _ => False
theorem h_low (K : PySem.W.Frag) (A : Adr) : ∀ rs C k e, P_low rs C k e → rs.length = 2 ∧ sem_u_law_low K A (defEnds k) ⟨start3 5 rs, C⟩ (defExc e) := by
  intro rs C k e h
  unfold P_low at h
  split at h
  · rename_i a b
    refine ⟨rfl, ?_⟩
    obtain ⟨hb, hs, hk⟩ := h
    unfold sem_u_law_low
    refine seq_abs fun v hv => ?_
    walk_at "d3"
    simp only [absif]
    subst hv
    refine seq_abs fun v hv => ?_
    refine euclid (G := fun x y => [some (.d (.int a)), some (.d (.int b)), some (.d (.int x)), some (.d (.int y)), none]) _ _ (by omega) (by omega) (fun x y k hx hy h => ?_) (fun x y N M hx hy h => ?_) ?_
    · walk_at "d3"
      have e : (!(y == 0)) = decide (y ≠ 0) := by
        by_cases z : y = 0 <;> simp [z]
      rw [e]
      exact h
    · walk_at "d3"
      exact ⟨by omega, h⟩
    · subst hv
      rw [gcd_two]
      dsimp only
      refine seq_abs fun v hv => ?_
      walk_at "d3"
      have e1 : ∀ {p : Int}, p = sgc a b → v (defEnds k) ⟨[some (.d (.int a)), some (.d (.int b)), some (.d (.int (Int.gcd a b))), some (.d (.int 0)), some (.d (.int p))], C⟩ (defExc e) := fun {p} hp => by
        subst hp hv
        walk_at "d3"
        exact ⟨sgc_div (m := 8000) hb hs (by decide), sgc_div (m := 8000) hb hs (by decide), hk⟩
      refine ⟨fun z => e1 (by unfold sgc; rw [if_neg (by omega)]), fun z => e1 (by unfold sgc; rw [if_pos (by omega), Int.zero_sub])⟩
  · exact h.elim
/-! ### drawn heights -/
def rowI (r : List Int) : PyData := .tuple (r.map .int)
def rowsI (H : List (List Int)) : PyData := .tuple (H.map rowI)
/-- a row of heights behind another one -/
structure RowOk (base : Int) (y : Nat) (prev : Option (List Int)) (r : List Int) : Prop where
  par : ∀ (i : Nat) (a : Int), r[i]? = some a → (a - base - i - y) % 2 = 0
  bnd : ∀ (i : Nat) (a : Int), r[i]? = some a → a.natAbs ≤ base.natAbs + i + y
  lef : ∀ (i : Nat) (a b : Int), r[i]? = some a → r[i + 1]? = some b → (b - a).natAbs = 1
  up : ∀ p, prev = some p → ∀ (i : Nat) (a b : Int), r[i]? = some a → p[i]? = some b → (a - b).natAbs = 1
def RowsOk (base : Int) (w : Nat) (H : List (List Int)) : Prop := ∀ (y : Nat) (r : List Int), H[y]? = some r → r.length = w ∧ RowOk base y (if y = 0 then none else H[y - 1]?) r
theorem RowOk.nil {base : Int} {y : Nat} {prev : Option (List Int)} : RowOk base y prev [] := ⟨fun i a h => by simp at h, fun i a h => by simp at h, fun i a b h => by simp at h, fun p _ i a b h => by simp at h⟩
theorem get_app {α : Type} {r : List α} {c b : α} {i : Nat} (h : (r ++ [c])[i]? = some b) : r[i]? = some b ∨ (i = r.length ∧ b = c) := by
  by_cases hi : i < r.length
  · left
    rw [List.getElem?_append_left hi] at h
    exact h
  · rw [List.getElem?_append_right (by omega)] at h
    right
    have : i - r.length = 0 := by
      by_cases z : i - r.length = 0
      · exact z
      · rw [List.getElem?_eq_none (by simp; omega)] at h
        cases h
    rw [this] at h
    simp at h
    exact ⟨by omega, h.symm⟩
theorem RowOk.app {base : Int} {y : Nat} {prev : Option (List Int)} {r : List Int} (h : RowOk base y prev r) {c : Int} (h1 : (c - base - r.length - y) % 2 = 0) (h2 : c.natAbs ≤ base.natAbs + r.length + y)
    (h3 : ∀ a, r.getLast? = some a → (c - a).natAbs = 1) (h4 : ∀ p b, prev = some p → p[r.length]? = some b → (c - b).natAbs = 1) : RowOk base y prev (r ++ [c]) := by
  refine ⟨fun i a e => ?_, fun i a e => ?_, fun i a b e e2 => ?_, fun p hp i a b e e2 => ?_⟩
  · rcases get_app e with z | ⟨rfl, rfl⟩
    · exact h.par i a z
    · exact h1
  · rcases get_app e with z | ⟨rfl, rfl⟩
    · exact h.bnd i a z
    · exact h2
  · rcases get_app e2 with z | ⟨hi, rfl⟩
    · have hi : i + 1 < r.length := by
        by_cases q : i + 1 < r.length
        · exact q
        · rw [List.getElem?_eq_none (by omega)] at z
          cases z
      rcases get_app e with z2 | ⟨rfl, rfl⟩
      · exact h.lef i a b z2 z
      · omega
    · rcases get_app e with z2 | ⟨z3, rfl⟩
      · refine h3 a ?_
        rw [List.getLast?_eq_getElem?, ← hi]
        exact z2
      · omega
  · rcases get_app e with z | ⟨rfl, rfl⟩
    · exact h.up p hp i a b z e2
    · exact h4 p b hp e2
theorem RowsOk.nil {base : Int} {w : Nat} : RowsOk base w [] := fun y r h => by simp at h
theorem RowsOk.app {base : Int} {w : Nat} {H : List (List Int)} (h : RowsOk base w H) {r : List Int} (hl : r.length = w) (hr : RowOk base H.length H.getLast? r) : RowsOk base w (H ++ [r]) := by
  intro y q e
  rcases get_app e with z | ⟨rfl, rfl⟩
  · have hy : y < H.length := by
      by_cases q : y < H.length
      · exact q
      · rw [List.getElem?_eq_none (by omega)] at z
        cases z
    have e1 : (H ++ [r])[y - 1]? = H[y - 1]? := List.getElem?_append_left (by omega)
    rw [e1]
    exact h y q z
  · refine ⟨hl, ?_⟩
    by_cases z : H.length = 0
    · have : H = [] := List.eq_nil_of_length_eq_zero z
      subst this
      simpa using hr
    · rw [if_neg z, List.getElem?_append_left (by omega), ← List.getLast?_eq_getElem?]
      exact hr
def P_heights : DP := fun rs C k _ => match rs, C with
  | [.d (.list xs), .cell 0, .d (.int w), .d (.int h), .d (.int b)], [[.int j]] => (∃ ns : List Int, xs = ns.map .int ∧ ns.length ≤ 63) ∧ 0 ≤ j ∧ ∃ W Hh : Nat, w = W ∧ h = Hh ∧ W ≤ 100 ∧ Hh ≤ 100 ∧ j + Hh < 900000 ∧ ∀ H : List (List Int), H.length = Hh → RowsOk b W H → k (.d (rowsI H)) [[.int (j + Hh)]]
  | _, _ => False
theorem h_heights (K : PySem.W.Frag) (A : Adr) : ∀ rs C k e, P_heights rs C k e → rs.length = 5 ∧ sem_u_law_heights K A P_cell (defEnds k) ⟨start3 14 rs, C⟩ (defExc e) := by
  intro rs C k e h
  letI : Tb := ⟨[]⟩
  unfold P_heights at h
  split at h
  · rename_i xs w h' b j
    obtain ⟨⟨ns, rfl, hl⟩, h0, W, Hh, rfl, rfl, hW, hH, hj, hk⟩ := h
    refine ⟨rfl, ?_⟩
    unfold sem_u_law_heights
    refine seq_abs fun v hv => ?_
    walk_at "d3"
    subst hv
    refine seq_abs fun v hv => ?_
    walk_at "d3"
    simp only [Int.toNat_natCast]
    refine ⟨by unfold D3.inR; omega, ?_⟩
    refine loop_range (fun y S => ∃ (H : List (List Int)) (g6 g7 g8 g9 g10 g11 g12 g13 : Option SV) (jj : Int), H.length = y ∧ RowsOk b W H ∧ jj = j + (y : Nat) ∧ S = ⟨[some (.d (.list (ns.map .int))), some (.cell 0), some (.d (.int W)), some (.d (.int Hh)), some (.d (.int b)), some (.own (H.map rowI)), g6, g7, g8, g9, g10, g11, g12, g13], [[.int jj]]⟩) ⟨[], none, none, none, none, none, none, none, none, j, rfl, .nil, by simp, rfl⟩ ?_ ?_
    · rintro y hy S N ⟨H, g6, g7, g8, g9, g10, g11, g12, g13, jj, hHl, hok, hjj, rfl⟩ hN
      refine seq_abs fun u hu => ?_
      walk_at "d3"
      simp only [P_cell]
      refine ⟨⟨ns, rfl, hl⟩, by omega, by omega, fun n n0 n1 => ?_⟩
      try walk_at "d3"
      subst hu
      refine seq_abs fun u hu => ?_
      walk_at "d3"
      simp only [Int.toNat_natCast]
      refine ⟨by unfold D3.inR; omega, ?_⟩
      refine loop_range (fun x S => ∃ (r : List Int) (g9 g10 g11 g12 g13 : Option SV), r.length = x ∧ RowOk b y H.getLast? r ∧ S = ⟨[some (.d (.list (ns.map .int))), some (.cell 0), some (.d (.int W)), some (.d (.int Hh)), some (.d (.int b)), some (.own (H.map rowI)), some (.d (.int y)), some (.d (.int n)), some (.own (r.map .int)), g9, g10, g11, g12, g13], [[.int (jj + 1)]]⟩) ⟨[], g9, g10, g11, g12, g13, rfl, .nil, rfl⟩ ?_ ?_
      · rintro x hx S N2 ⟨r, g9, g10, g11, g12, g13, hrl, hrok, rfl⟩ hN2
        have lastp : ∀ p, H.getLast? = some p → p.length = W ∧ RowOk b (y - 1) (if y - 1 = 0 then none else H[y - 1 - 1]?) p ∧ 0 < y := fun p hp => by
          rw [List.getLast?_eq_getElem?, hHl] at hp
          have y0 : 0 < y := by
            by_cases z : 0 < y
            · exact z
            · have : H = [] := List.eq_nil_of_length_eq_zero (by omega)
              subst this
              simp at hp
          have z := hok (y - 1) p hp
          exact ⟨z.1, z.2, y0⟩
        have hrlast : ∀ a, r.getLast? = some a → 0 < x ∧ r[x - 1]? = some a := fun a ha => by
          rw [List.getLast?_eq_getElem?, hrl] at ha
          refine ⟨?_, ha⟩
          by_cases z : 0 < x
          · exact z
          · have : r = [] := List.eq_nil_of_length_eq_zero (by omega)
            subst this
            simp at ha
        refine seq_abs fun q1 hq1 => ?_
        walk_at "d3"
        simp only [pick_lastL, List.getLast?_map]
        -- the next height is one of cs
        have fin : ∀ (q : DTS) (cs : List Int) (g10 g11 g13 : Option SV), q = dApp 8 (dIxV 12 (dBin gMod (dBin gAnd (dBin gShr (dVar 7) (dVar 9)) (dC (.d (.int 1)))) (dB gLen (dCons (dVar 12) dNil)))) → cs ≠ [] →
            (∀ c ∈ cs, (c - b - x - y) % 2 = 0 ∧ c.natAbs ≤ b.natAbs + x + y ∧ (∀ a, r.getLast? = some a → (c - a).natAbs = 1) ∧ ∀ p a, H.getLast? = some p → p[x]? = some a → (c - a).natAbs = 1) →
            q { nx := N2, rt := (defEnds k).rt, bk := fun S1 => u { nx := N, rt := (defEnds k).rt, bk := fun S1 => v (defEnds k) S1 (defExc e), ct := N } S1 (defExc e), ct := N2 }
              ⟨[some (.d (.list (ns.map .int))), some (.cell 0), some (.d (.int W)), some (.d (.int Hh)), some (.d (.int b)), some (.own (H.map rowI)), some (.d (.int y)), some (.d (.int n)), some (.own (r.map .int)), some (.d (.int x)), g10, g11, some (.own (cs.map .int)), g13], [[.int (jj + 1)]]⟩ (defExc e) := by
          intro q cs g10 g11 g13 hq hcs hgood
          subst hq
          walk_at "d3"
          have cl : 0 < (cs.length : Int) := by
            have := List.length_pos_iff.mpr hcs
            omega
          generalize Builtin.bitAnd (n / 2 ^ (x : Int).toNat) 1 = z
          obtain ⟨i0, i1⟩ := fm_of (x := z) (y := (cs.length : Int)) cl
          refine ⟨⟨_, rfl⟩, by omega, by omega, at_any i0 (by simpa using i1) fun d hd => ?_⟩
          obtain ⟨c, hc, rfl⟩ := List.mem_map.mp hd
          obtain ⟨k1, k2, k3, k4⟩ := hgood c hc
          walk_at "d3"
          refine ⟨by omega, hN2 _ ⟨r ++ [c], _, _, _, _, _, by simp [hrl], hrok.app (by rw [hrl]; exact k1) (by rw [hrl]; exact k2) k3 (by rw [hrl]; exact k4), by rw [List.map_append, List.map_cons, List.map_nil]⟩⟩
        obtain ⟨ups, hups, hu1, hu2⟩ : ∃ ups : List Int, ((Option.map rowI H.getLast?).toList.map fun d => match d with
            | .tuple q => (q[x]?).getD .none
            | _ => .none) = ups.map PyData.int ∧ (∀ p a, H.getLast? = some p → p[x]? = some a → ups = [a]) ∧ (H.getLast? = none → ups = []) := by
          cases hH : H.getLast? with
          | none => exact ⟨[], rfl, fun p a e => (by cases e), fun _ => rfl⟩
          | some p =>
            have hx2 : x < p.length := by rw [(lastp p hH).1]; exact hx
            refine ⟨[p[x]], ?_, fun p' a e e2 => ?_, fun e => (by cases e)⟩
            · simp only [Option.map_some, Option.toList_some, List.map_cons, List.map_nil, rowI, List.getElem?_map, List.getElem?_eq_getElem hx2, Option.getD_some]
            · cases e
              rw [List.getElem?_eq_getElem hx2] at e2
              cases e2
              rfl
        have hul : ups.length ≤ 1 := by
          cases hH : H.getLast? with
          | none => rw [hu2 hH]; decide
          | some p =>
            have hx2 : x < p.length := by rw [(lastp p hH).1]; exact hx
            rw [hu1 p _ hH (List.getElem?_eq_getElem hx2)]
            simp
        have hrl1 : (Option.map PyData.int r.getLast?).toList.length ≤ 1 := by cases r.getLast? <;> simp
        refine comp_map (S := ⟨[some (.d (.list (ns.map .int))), some (.cell 0), some (.d (.int W)), some (.d (.int Hh)), some (.d (.int b)), some (.own (H.map rowI)), some (.d (.int y)), some (.d (.int n)), some (.own (r.map .int)), some (.d (.int x)), g10, none, g12, g13], [[.int (jj + 1)]]⟩) rfl (fun d => match d with
            | .tuple q => (q[x]?).getD .none
            | _ => .none) (fun d hd N hN => ?_) (by rw [szl]; cases H.getLast? <;> simp) ?_
        · cases hH : H.getLast? with
          | none => rw [hH] at hd; simp at hd
          | some p =>
            rw [hH] at hd
            simp only [Option.map_some, Option.toList_some, List.mem_singleton] at hd
            subst hd
            have hx2 : x < p.length := by rw [(lastp p hH).1]; exact hx
            walk_at "d3"
            have e2 : (p.map PyData.int)[x]? = some (.int p[x]) := by simp [List.getElem?_map, List.getElem?_eq_getElem hx2]
            unfold rowI
            walk_at "d3"
            rw [at_iff rfl e2]
            have ez : (match PyData.tuple (p.map PyData.int) with
                | .tuple q => (q[x]?).getD .none
                | _ => .none) = PyData.int p[x] := by
              show ((p.map PyData.int)[x]?).getD .none = _
              rw [e2]
              rfl
            rw [← ez]
            exact hN _ rfl
        · rw [hups]
          have e3 : (Option.map PyData.int r.getLast?).toList ++ ups.map PyData.int = (r.getLast?.toList ++ ups).map PyData.int := by cases r.getLast? <;> simp
          rw [e3]
          walk_at "d3"
          refine ⟨by omega, ?_⟩
          generalize hnear : r.getLast?.toList ++ ups = near
          subst hq1
          refine seq_abs fun q2 hq2 => ?_
          walk_at "d3"
          subst hq2
          refine seq_abs fun q3 hq3 => ?_
          walk_at "d3"
          have r0 : r.getLast? = none → x = 0 := fun z => by
            rw [List.getLast?_eq_none_iff] at z
            subst z
            exact hrl.symm
          have H0 : H.getLast? = none → y = 0 := fun z => by
            rw [List.getLast?_eq_none_iff] at z
            subst z
            exact hHl.symm
          refine ⟨fun z => ?_, fun z => ?_⟩
          · match near, z, hnear with
            | a :: t, _, hnear =>
              obtain ⟨zl, hzl, F1, F2⟩ : ∃ zl : Int, (a :: t).getLast? = some zl ∧ ((a - 1 - zl).natAbs = 1 ∨ (a + 1 - zl).natAbs = 1) ∧ ∀ c, (c = a - 1 ∨ c = a + 1) → (c - zl).natAbs = 1 → ((c - b - x - y) % 2 = 0 ∧ c.natAbs ≤ b.natAbs + x + y ∧ (∀ a, r.getLast? = some a → (c - a).natAbs = 1) ∧ ∀ p a, H.getLast? = some p → p[x]? = some a → (c - a).natAbs = 1) := by
                cases hr : r.getLast? with
                | some l =>
                  rw [hr] at hnear
                  obtain ⟨x0, hl1⟩ := hrlast l hr
                  have p1 := hrok.par _ _ hl1
                  have p2 := hrok.bnd _ _ hl1
                  cases hH : H.getLast? with
                  | none =>
                    rw [hu2 hH] at hnear
                    cases hnear
                    refine ⟨a, rfl, .inl (by omega), fun c hc hd => ⟨by omega, by omega, fun a ha => ?_, fun p a e => (by cases e)⟩⟩
                    cases ha
                    exact hd
                  | some p =>
                    have hx2 : x < p.length := by rw [(lastp p hH).1]; exact hx
                    have eu := List.getElem?_eq_getElem hx2
                    rw [hu1 p _ hH eu] at hnear
                    have ed := List.getElem?_eq_getElem (show x - 1 < p.length by omega)
                    have d1 := hrok.up p hH (x - 1) l _ hl1 ed
                    have d2 := (lastp p hH).2.1.lef (x - 1) _ _ ed (by rw [show x - 1 + 1 = x by omega]; exact eu)
                    generalize p[x - 1] = dd at d1 d2
                    generalize p[x] = uu at d2 eu hnear
                    cases hnear
                    refine ⟨uu, rfl, by omega, fun c hc hd => ⟨by omega, by omega, fun a ha => ?_, fun p' a e e2 => ?_⟩⟩
                    · cases ha
                      omega
                    · cases e
                      rw [eu] at e2
                      cases e2
                      exact hd
                | none =>
                  rw [hr] at hnear
                  have x0 := r0 hr
                  subst x0
                  cases hH : H.getLast? with
                  | none => rw [hu2 hH] at hnear; cases hnear
                  | some p =>
                    have hx2 : 0 < p.length := by rw [(lastp p hH).1]; exact hx
                    have eu := List.getElem?_eq_getElem hx2
                    have p1 := (lastp p hH).2.1.par _ _ eu
                    have p2 := (lastp p hH).2.1.bnd _ _ eu
                    have y0 := (lastp p hH).2.2
                    rw [hu1 p _ hH eu] at hnear
                    generalize p[0] = uu at eu hnear p1 p2
                    cases hnear
                    refine ⟨a, rfl, .inl (by omega), fun c hc hd => ⟨by omega, by omega, fun a ha => (by cases ha), fun p' a e e2 => ?_⟩⟩
                    cases e
                    rw [eu] at e2
                    cases e2
                    exact hd
              walk_at "d3"
              have eL : (PyData.int a :: t.map PyData.int).getLast? = some (.int zl) := by
                have := congrArg (Option.map PyData.int) hzl
                rw [← List.getLast?_map] at this
                exact this
              refine comp_fm (S := ⟨[some (.d (.list (ns.map .int))), some (.cell 0), some (.d (.int W)), some (.d (.int Hh)), some (.d (.int b)), some (.own (H.map rowI)), some (.d (.int y)), some (.d (.int n)), some (.own (r.map .int)), some (.d (.int x)), some (.d (.list (.int a :: t.map .int))), none, some (.d (.list [.int (a - 1), .int (a + 1)])), none], [[.int (jj + 1)]]⟩) rfl (fun d => match d with
                | .int c => if (c - zl).natAbs = 1 then some (.int c) else none
                | _ => none) _ [] (fun d hd N M hN hM => ?_) (by simp [szl]) ?_
              · have key : ∀ c : Int, d = .int c → gSet 13 d ⟨[some (.d (.list (ns.map .int))), some (.cell 0), some (.d (.int W)), some (.d (.int Hh)), some (.d (.int b)), some (.own (H.map rowI)), some (.d (.int y)), some (.d (.int n)), some (.own (r.map .int)), some (.d (.int x)), some (.d (.list (.int a :: t.map .int))), none, some (.d (.list [.int (a - 1), .int (a + 1)])), none], [[.int (jj + 1)]]⟩ fun S1 => dTst (dBin gEqE (dB gAbs (dCons (dBin gSubI (dVar 13) (dIxV 10 (dNeg (dC (SV.d (PyData.int 1)))))) dNil)) (dC (SV.d (PyData.int 1)))) S1 (fun b_1 S2 => iteB b_1 ((dVar 13) S2 (fun r S3 => match r with
                    | .d y => N y S3
                    | _ => False) noE) (M S2)) noE := by
                  intro c hc
                  subst hc
                  walk_at "d3"
                  rw [at_last eL]
                  walk_at "d3"
                  simp only [absif]
                  refine ⟨fun h1 => hN _ _ ?_ rfl, fun h1 => hM _ ?_ rfl⟩
                  · show (if (c - zl).natAbs = 1 then some (PyData.int c) else none) = some (.int c)
                    rw [if_pos (by omega)]
                  · show (if (c - zl).natAbs = 1 then some (PyData.int c) else none) = none
                    rw [if_neg (by omega)]
                rcases List.mem_cons.mp hd with h1 | h1
                · exact key _ h1
                · rcases List.mem_cons.mp h1 with h1 | h1
                  · exact key _ h1
                  · cases h1
              · have e4 : [] ++ [PyData.int (a - 1), .int (a + 1)].filterMap (fun d => match d with
                    | .int c => if (c - zl).natAbs = 1 then some (PyData.int c) else none
                    | _ => none) = ([a - 1, a + 1].filter fun c => decide ((c - zl).natAbs = 1)).map PyData.int := by
                  rw [List.nil_append]
                  simp only [List.filterMap_cons, List.filterMap_nil, List.filter_cons, List.filter_nil]
                  by_cases h1 : (a - 1 - zl).natAbs = 1 <;> by_cases h2 : (a + 1 - zl).natAbs = 1 <;> simp [h1, h2]
                rw [e4]
                walk_at "d3"
                refine fin q3 _ _ _ _ hq3 (fun z => ?_) fun c hc => ?_
                · rw [List.filter_eq_nil_iff] at z
                  rcases F1 with f | f
                  · exact z (a - 1) (by simp) (by simpa using f)
                  · exact z (a + 1) (by simp) (by simpa using f)
                · rw [List.mem_filter] at hc
                  refine F2 c ?_ (by simpa using hc.2)
                  simpa using hc.1
          · have hn0 : near = [] := by cases near with
              | nil => rfl
              | cons a t => simp at z
            rw [hn0] at hnear
            have h1 : r.getLast? = none := by cases hr : r.getLast? with
              | none => rfl
              | some l => rw [hr] at hnear; simp at hnear
            have h2 : H.getLast? = none := by cases hH : H.getLast? with
              | none => rfl
              | some p =>
                have hx2 : x < p.length := by rw [(lastp p hH).1]; exact hx
                rw [h1, hu1 p _ hH (List.getElem?_eq_getElem hx2)] at hnear
                simp at hnear
            have x0 := r0 h1
            have y0 := H0 h2
            refine fin q3 [b, b] _ _ _ hq3 (by simp) fun c hc => ?_
            have ec : c = b := by simpa using hc
            subst ec
            refine ⟨by omega, by omega, fun a ha => ?_, fun p a hp => ?_⟩
            · rw [h1] at ha
              cases ha
            · rw [h2] at hp
              cases hp
      · rintro S ⟨r, g9, g10, g11, g12, g13, hrl, hrok, rfl⟩
        subst hu
        walk_at "d3"
        refine ⟨⟨_, rfl⟩, by simp [hHl]; omega, hN _ ⟨H ++ [r], _, _, _, _, _, _, _, _, jj + 1, by simp [hHl], hok.app hrl (by rw [hHl]; exact hrok), by omega, by rw [List.map_append, List.map_cons, List.map_nil]; rfl⟩⟩
    · rintro S ⟨H, g6, g7, g8, g9, g10, g11, g12, g13, jj, hHl, hok, rfl, rfl⟩
      subst hv
      walk_at "d3"
      exact hk H hHl hok
  · exact h.elim
/-! ### drawn worths, fields -/
def pairI (p : Int × Int) : PyData := .tuple [.int p.1, .int p.2]
def rowW (r : List (Int × Int)) : PyData := .tuple (r.map pairI)
def rowsW (W : List (List (Int × Int))) : PyData := .tuple (W.map rowW)
/-- a drawn worth -/
def WOk (p : Int × Int) : Prop := p.1 ≠ 0 ∧ 0 < p.2 ∧ Int.gcd p.1 p.2 = 1 ∧ p.1.natAbs ≤ 9 ∧ p.2 ≤ 4
def WsOk (w : Nat) (W : List (List (Int × Int))) : Prop := ∀ r ∈ W, r.length = w ∧ ∀ p ∈ r, WOk p
theorem fdiv_le {x g : Int} (h : g ≠ 0) (hd : g ∣ x) : (x.fdiv g).natAbs ≤ x.natAbs := by
  obtain ⟨q, rfl⟩ := hd
  rw [Int.mul_fdiv_cancel_left _ h, Int.natAbs_mul]
  exact Nat.le_mul_of_pos_left _ (by omega)
theorem nf_WOk {a b : Int} (ha : a ≠ 0) (hb : 0 < b) (h1 : a.natAbs ≤ 9) (h2 : b ≤ 4) : ∃ p, nfD a b = pairI p ∧ WOk p := by
  have e : sgc a b = (Int.gcd a b : Int) := by unfold sgc; rw [if_neg (by omega)]
  have g0 : (Int.gcd a b : Int) ≠ 0 := by
    have : Int.gcd a b ≠ 0 := fun z => by
      have := (Int.gcd_eq_zero_iff.mp z).2
      omega
    omega
  refine ⟨(a.fdiv (Int.gcd a b), b.fdiv (Int.gcd a b)), by unfold nfD pairI; rw [e], ?_⟩
  have da : (Int.gcd a b : Int) ∣ a := Int.gcd_dvd_left ..
  have db : (Int.gcd a b : Int) ∣ b := Int.gcd_dvd_right ..
  have l1 := fdiv_le g0 da
  have l2 := fdiv_le g0 db
  have ea : (Int.gcd a b : Int) * a.fdiv (Int.gcd a b) = a := by
    obtain ⟨q, hq⟩ := da
    have : a.fdiv (Int.gcd a b) = q := by
      have := Int.mul_fdiv_cancel_left q g0
      rw [← hq] at this
      exact this
    rw [this]
    exact hq.symm
  have eb : (Int.gcd a b : Int) * b.fdiv (Int.gcd a b) = b := by
    obtain ⟨q, hq⟩ := db
    have : b.fdiv (Int.gcd a b) = q := by
      have := Int.mul_fdiv_cancel_left q g0
      rw [← hq] at this
      exact this
    rw [this]
    exact hq.symm
  have gp : 0 < (Int.gcd a b : Int) := by omega
  have pb : 0 < b.fdiv (Int.gcd a b) := by
    by_cases z : 0 < b.fdiv (Int.gcd a b)
    · exact z
    · exfalso
      have := Int.mul_le_mul_of_nonneg_left (show b.fdiv (Int.gcd a b) ≤ 0 by omega) (Int.le_of_lt gp)
      omega
  refine ⟨fun z => ?_, pb, ?_, by show (a.fdiv (Int.gcd a b)).natAbs ≤ 9; omega, by show b.fdiv (Int.gcd a b) ≤ 4; omega⟩
  · have z : a.fdiv (Int.gcd a b) = 0 := z
    rw [z] at ea
    omega
  · have z : Int.gcd ((Int.gcd a b : Int) * a.fdiv (Int.gcd a b)) ((Int.gcd a b : Int) * b.fdiv (Int.gcd a b)) = Int.gcd a b := by rw [ea, eb]
    rw [Int.gcd_mul_left, Int.natAbs_natCast] at z
    have h : Int.gcd a b * Int.gcd (a.fdiv (Int.gcd a b)) (b.fdiv (Int.gcd a b)) = Int.gcd a b * 1 := by omega
    exact Nat.eq_of_mul_eq_mul_left (by omega) h
def P_worths : DP := fun rs C k _ => match rs, C with
  | [.d (.list xs), .cell 0, .d (.int w), .d (.int h), .d (.int s)], [[.int j]] => (∃ ns : List Int, xs = ns.map .int ∧ ns.length ≤ 63) ∧ 0 ≤ j ∧ 0 ≤ s ∧ s < 4 ∧ ∃ W Hh : Nat, w = W ∧ h = Hh ∧ W ≤ 100 ∧ Hh ≤ 100 ∧ j + (Hh * W : Nat) < 900000 ∧ ∀ Ws : List (List (Int × Int)), Ws.length = Hh → WsOk W Ws → k (.d (rowsW Ws)) [[.int (j + (Hh * W : Nat))]]
  | _, _ => False
theorem h_worths (K : PySem.W.Frag) (A : Adr) : ∀ rs C k e, P_worths rs C k e → rs.length = 5 ∧ sem_u_law_worths K A P_cell P_low (defEnds k) ⟨start3 14 rs, C⟩ (defExc e) := by
  intro rs C k e h
  letI : Tb := ⟨[]⟩
  unfold P_worths at h
  split at h
  · rename_i xs w h' s j
    obtain ⟨⟨ns, rfl, hl⟩, h0, hs0, hs4, W, Hh, rfl, rfl, hW, hH, hj, hk⟩ := h
    refine ⟨rfl, ?_⟩
    unfold sem_u_law_worths
    refine seq_abs fun v hv => ?_
    walk_at "d3"
    subst hv
    refine seq_abs fun v hv => ?_
    walk_at "d3"
    simp only [Int.toNat_natCast]
    refine ⟨by unfold D3.inR; omega, ?_⟩
    refine loop_range (fun y S => ∃ (Ws : List (List (Int × Int))) (g6 g7 g8 g9 g10 g11 g12 g13 : Option SV) (jj : Int), Ws.length = y ∧ WsOk W Ws ∧ jj = j + (y * W : Nat) ∧ S = ⟨[some (.d (.list (ns.map .int))), some (.cell 0), some (.d (.int W)), some (.d (.int Hh)), some (.d (.int s)), some (.own (Ws.map rowW)), g6, g7, g8, g9, g10, g11, g12, g13], [[.int jj]]⟩) ⟨[], none, none, none, none, none, none, none, none, j, rfl, fun r hr => (by cases hr), by simp, rfl⟩ ?_ ?_
    · rintro y hy S N ⟨Ws, g6, g7, g8, g9, g10, g11, g12, g13, jj, hWl, hok, hjj, rfl⟩ hN
      have yW : (y + 1) * W ≤ Hh * W := Nat.mul_le_mul_right W hy
      have yW2 : (y + 1) * W = y * W + W := Nat.add_one_mul y W
      refine seq_abs fun u hu => ?_
      walk_at "d3"
      subst hu
      refine seq_abs fun u hu => ?_
      walk_at "d3"
      simp only [Int.toNat_natCast]
      refine ⟨by unfold D3.inR; omega, ?_⟩
      refine loop_range (fun x S => ∃ (r : List (Int × Int)) (g8 g9 g10 g11 g12 g13 : Option SV) (j3 : Int), r.length = x ∧ (∀ p ∈ r, WOk p) ∧ j3 = jj + (x : Nat) ∧ S = ⟨[some (.d (.list (ns.map .int))), some (.cell 0), some (.d (.int W)), some (.d (.int Hh)), some (.d (.int s)), some (.own (Ws.map rowW)), some (.d (.int y)), some (.own (r.map pairI)), g8, g9, g10, g11, g12, g13], [[.int j3]]⟩) ⟨[], g8, g9, g10, g11, g12, g13, jj, rfl, fun p hp => (by cases hp), by simp, rfl⟩ ?_ ?_
      · rintro x hx S N2 ⟨r, g8, g9, g10, g11, g12, g13, j3, hrl, hrok, hj3, rfl⟩ hN2
        refine seq_abs fun q hq => ?_
        walk_at "d3"
        simp only [P_cell]
        refine ⟨⟨ns, rfl, hl⟩, by omega, by omega, fun n n0 n1 => ?_⟩
        try walk_at "d3"
        subst hq
        refine seq_abs fun q hq => ?_
        walk_at "d3"
        have d9 : DivOk n 9 := divOk (a := 3) (by decide) (by decide) (by decide)
        have d36 : DivOk n 36 := divOk (a := 5) (by decide) (by decide) (by decide)
        obtain ⟨a0, a1⟩ := fm_of (x := n) (y := 9) (by decide)
        obtain ⟨b0, b1⟩ := fm_of (x := n.fdiv 9) (y := 4) (by decide)
        generalize n.fmod 9 = a at a0 a1 ⊢
        generalize (n.fdiv 9).fmod 4 = b at b0 b1 ⊢
        refine ⟨d9, ?_⟩
        subst hq
        refine seq_abs fun q hq => ?_
        walk_at "d3"
        obtain ⟨c0, c1⟩ := fm_of (x := n.fdiv 36) (y := 2) (by decide)
        generalize (n.fdiv 36).fmod 2 = c at c0 c1 ⊢
        refine ⟨d36, mulOk (a := 1) (b := 1) (by omega) (by decide) (by decide), mulOk (a := 3) (b := 1) (by omega) (by omega) (by decide), ?_⟩
        have hc : (1 + a) * (1 - c * 2) = 1 + a ∨ (1 + a) * (1 - c * 2) = -(1 + a) := by
          rcases (show c = 0 ∨ c = 1 by omega) with rfl | rfl
          · left; omega
          · right; omega
        generalize hfar : (1 + a) * (1 - c * 2) = far at hc
        subst hq
        refine seq_abs fun q hq => ?_
        walk_at "d3"
        simp only [P_low]
        have b8 : (1 + b).natAbs < 2 ^ 8001 := Nat.lt_of_lt_of_le (show (1 + b).natAbs < 2 ^ 3 by omega) (Nat.pow_le_pow_right (by decide) (by decide))
        refine ⟨by omega, b8, ?_⟩
        obtain ⟨p1, ep1, ok1⟩ := nf_WOk (a := 1 + a) (b := 1 + b) (by omega) (by omega) (by omega) (by omega)
        obtain ⟨p2, ep2, ok2⟩ := nf_WOk (a := far) (b := 1 + b) (by omega) (by omega) (by omega) (by omega)
        try walk_at "d3"
        subst hq
        walk_at "d3"
        simp only [P_low]
        refine ⟨⟨_, rfl⟩, by omega, b8, ?_⟩
        rw [ep1, ep2]
        walk_at "d3"
        have every : ∀ d ∈ [PyData.tuple [.int 1, .int 1], .tuple [.int (1 + a), .int 1], pairI p1, pairI p2], ∃ p, d = pairI p ∧ WOk p := by
          intro d hd
          simp only [List.mem_cons, List.not_mem_nil, or_false] at hd
          rcases hd with rfl | rfl | rfl | rfl
          · exact ⟨(1, 1), rfl, by unfold WOk; decide⟩
          · exact ⟨(1 + a, 1), rfl, by show 1 + a ≠ 0; omega, by show (0 : Int) < 1; decide, by simp, by show (1 + a).natAbs ≤ 9; omega, by show (1 : Int) ≤ 4; decide⟩
          · exact ⟨p1, rfl, ok1⟩
          · exact ⟨p2, rfl, ok2⟩
        refine at_any hs0 (by simp; omega) fun d hd => ?_
        obtain ⟨p, rfl, hp⟩ := every d hd
        dsimp only
        refine ⟨by simp; omega, hN2 _ ⟨r ++ [p], _, _, _, _, _, _, j3 + 1, by simp [hrl], fun q hq => ?_, by omega, by rw [List.map_append, List.map_cons, List.map_nil]⟩⟩
        rcases List.mem_append.mp hq with z | z
        · exact hrok q z
        · rw [List.mem_singleton.mp z]
          exact hp
      · rintro S ⟨r, g8, g9, g10, g11, g12, g13, j3, hrl, hrok, hj3, rfl⟩
        subst hu
        walk_at "d3"
        refine ⟨⟨_, rfl⟩, by simp [hWl]; omega, hN _ ⟨Ws ++ [r], _, _, _, _, _, _, _, _, j3, by simp [hWl], ?_, ?_, by rw [List.map_append, List.map_cons, List.map_nil]; rfl⟩⟩
        · intro q hq
          rcases List.mem_append.mp hq with z | z
          · exact hok q z
          · rw [List.mem_singleton.mp z]
            exact ⟨hrl, hrok⟩
        · rw [hj3, hjj, yW2]
          omega
    · rintro S ⟨Ws, g6, g7, g8, g9, g10, g11, g12, g13, jj, hWl, hok, hjj, rfl⟩
      subst hv
      walk_at "d3"
      rw [hjj]
      exact hk Ws hWl hok
  · exact h.elim

/-- the drawn field: heights, worths -/
def fieldI (H : List (List Int)) (W : List (List (Int × Int))) : PyData := .tuple [rowsI H, rowsW W]
structure DrawnField (w h : Nat) (H : List (List Int)) (W : List (List (Int × Int))) : Prop where
  hl : H.length = h
  wl : W.length = h
  rows : ∃ b : Int, b % 2 = 0 ∧ b.natAbs ≤ 12 ∧ RowsOk b w H
  worths : WsOk w W
def P_lfield : DP := fun rs C k _ => match rs, C with
  | [.d (.list xs), .cell 0, .d (.int lo), .d (.int hi)], [[.int j]] => (∃ ns : List Int, xs = ns.map .int ∧ ns.length ≤ 63) ∧ 0 ≤ j ∧ j < 800000 ∧ 1 ≤ lo ∧ lo ≤ hi ∧ hi ≤ 12 ∧ ∀ (w h : Nat) (H : List (List Int)) (W : List (List (Int × Int))) (j' : Int), lo ≤ w → w ≤ hi → lo ≤ h → h ≤ hi → DrawnField w h H W → j < j' → j' ≤ j + 200 → k (.d (fieldI H W)) [[.int j']]
  | _, _ => False
theorem h_lfield (K : PySem.W.Frag) (A : Adr) : ∀ rs C k e, P_lfield rs C k e → rs.length = 4 ∧ sem_u_law_field K A P_cell P_heights P_worths (defEnds k) ⟨start3 9 rs, C⟩ (defExc e) := by
  intro rs C k e h
  unfold P_lfield at h
  split at h
  · rename_i xs lo hi j
    obtain ⟨⟨ns, rfl, hl⟩, h0, hj, hlo, hlh, hhi, hk⟩ := h
    refine ⟨rfl, ?_⟩
    unfold sem_u_law_field
    refine seq_abs fun v hv => ?_
    walk_at "d3"
    simp only [P_cell]
    refine ⟨⟨ns, rfl, hl⟩, by omega, by omega, fun n n0 n1 => ?_⟩
    try walk_at "d3"
    subst hv
    refine seq_abs fun v hv => ?_
    walk_at "d3"
    have d11 : DivOk n 11 := divOk (a := 3) (by decide) (by decide) (by decide)
    have d121 : DivOk n 121 := divOk (a := 6) (by decide) (by decide) (by decide)
    have d1573 : DivOk n 1573 := divOk (a := 10) (by decide) (by decide) (by decide)
    obtain ⟨a0, a1⟩ := fm_of (x := n) (y := hi - lo + 1) (by omega)
    obtain ⟨b0, b1⟩ := fm_of (x := n.fdiv 11) (y := hi - lo + 1) (by omega)
    generalize n.fmod (hi - lo + 1) = a at a0 a1 ⊢
    generalize (n.fdiv 11).fmod (hi - lo + 1) = b at b0 b1 ⊢
    refine ⟨by omega, d11, by omega, ?_⟩
    subst hv
    refine seq_abs fun v hv => ?_
    walk_at "d3"
    obtain ⟨c0, c1⟩ := fm_of (x := n.fdiv 121) (y := 13) (by decide)
    obtain ⟨s0, s1⟩ := fm_of (x := n.fdiv 1573) (y := 4) (by decide)
    generalize (n.fdiv 121).fmod 13 = c at c0 c1 ⊢
    obtain ⟨w, hw⟩ := Int.eq_ofNat_of_zero_le (show 0 ≤ lo + a by omega)
    obtain ⟨hh, hhh⟩ := Int.eq_ofNat_of_zero_le (show 0 ≤ lo + b by omega)
    simp only [P_heights]
    refine ⟨d121, mulOk (a := 1) (b := 3) (by decide) (by omega) (by decide), ⟨ns, rfl, hl⟩, by omega, w, hh, hw, hhh, by omega, by omega, by omega, fun H hH hok => ?_⟩
    subst hv
    walk_at "d3"
    generalize (n.fdiv 1573).fmod 4 = s at s0 s1 ⊢
    simp only [P_worths]
    have m1 : hh * w ≤ 12 * 12 := Nat.mul_le_mul (by omega) (by omega)
    refine ⟨d1573, ⟨ns, rfl, hl⟩, by omega, s0, s1, w, hh, hw, hhh, by omega, by omega, by omega, fun Ws hW hwk => ?_⟩
    try walk_at "d3"
    exact hk w hh H Ws _ (by omega) (by omega) (by omega) (by omega) ⟨hH, hW, ⟨_, by omega, by omega, hok⟩, hwk⟩ (by omega) (by omega)
  · exact h.elim
theorem gNeE_lst {xs ys : List PyData} {k : SV → Prop} (h : SeqAt.shaped (.list xs) = true) (h2 : SeqAt.shaped (.list ys) = true) (q : k (.d (.bool (!PyData.eqvAll xs ys)))) : gNeE (.d (.list xs)) (.d (.list ys)) k := by
  cases ys with
  | nil =>
    rw [neE_lst0]
    cases xs with
    | nil => simpa [PyData.eqvAll] using q
    | cons x r => simpa [PyData.eqvAll] using q
  | cons y r =>
    refine ⟨h, h2, ?_⟩
    rw [eqv_list]
    exact q
theorem isX_ref {K : PySem.W.Frag} {C D : Addr} {fs : List (Str × PyData)} {b : Bool} {k : SV → Prop} (hE : ExcC K C) (h : PySem.W.kitOne K (.ref C) (.ref D) = some b) : gIsiF K [.exc C fs, .raw (.ref D)] k ↔ k (.d (.bool b)) := by
  constructor
  · rintro ⟨_, b', e, q⟩
    rw [h] at e
    cases e
    exact q
  · exact fun q => ⟨hE, b, h, q⟩
theorem isX_ty {K : PySem.W.Frag} {C : Addr} {n : String} {fs : List (Str × PyData)} {b : Bool} {k : SV → Prop} (hE : ExcC K C) (h : PySem.W.kitOne K (.ref C) (.type n) = some b) : gIsiF K [.exc C fs, .raw (.ty n)] k ↔ k (.d (.bool b)) := by
  constructor
  · rintro ⟨_, b', e, q⟩
    rw [h] at e
    cases e
    exact q
  · exact fun q => ⟨hE, b, h, q⟩
/-- what is told of a deed: its value in a list, or the word of the refusal -/
def PG_asked (c_BadField c_BadSpot c_BadFraction : Addr) : TP → List (List PyData) → (SV → List (List PyData) → Prop) → (Xd → List (List PyData) → Prop) → Prop := fun Pt C k _ =>
  ∀ (K1 : SV → List (List PyData) → Prop) (E1 : Xd → List (List PyData) → Prop), (∀ d C1, k (.d (.list [d])) C1 → K1 (.d d) C1) → (∀ p C1, k (.d (.tuple [.str "field", p])) C1 → E1 ⟨c_BadField, [("place", p)]⟩ C1) → (∀ C1, k (.d (.str "spot")) C1 → E1 ⟨c_BadSpot, []⟩ C1) → (∀ C1, k (.d (.str "fraction")) C1 → E1 ⟨c_BadFraction, []⟩ C1) → Pt C K1 E1
theorem h_asked {K : PySem.W.Frag} {mg : Str → Option Value} {A : Adr} (F : Fct K mg A) : ∀ Pt C k e T, PG_asked A.c_BadField A.c_BadSpot A.c_BadFraction Pt C k e → sem_u_law_asked K A T Pt (defEnds k) ⟨start3 10 [T], C⟩ (defExc e) := by
  intro Pt C k e T h
  letI : Tb := ⟨[]⟩
  unfold sem_u_law_asked
  refine seq_abs fun v hv => ?_
  walk_at "d3"
  subst hv
  refine seq_abs fun v hv => ?_
  simp only [dTryLaw, dSet, dThk, List.getElem?_cons_zero, true_and]
  refine h _ _ (fun d C1 hk => ?_) (fun p C1 hk => ?_) (fun C1 hk => ?_) (fun C1 hk => ?_)
  · walk_at "d3"
    subst hv
    refine seq_abs fun v hv => ?_
    walk_at "d3"
    exact ⟨true, rfl, fun _ => hk, fun z => (by cases z)⟩
  · refine ⟨F.e_BadField_HollowError_DeedError_BookError, ?_⟩
    have i_BadField : ∀ fs k, gIsiF K [.exc A.c_BadField fs, .raw (.ref A.c_BadField)] k ↔ k (.d (.bool true)) := fun fs k => isX_ref F.ec_BadField F.i_BadField_BadField
    have i_BadFraction : ∀ fs k, gIsiF K [.exc A.c_BadField fs, .raw (.ref A.c_BadFraction)] k ↔ k (.d (.bool false)) := fun fs k => isX_ref F.ec_BadField F.i_BadField_BadFraction
    have i_BadRule : ∀ fs k, gIsiF K [.exc A.c_BadField fs, .raw (.ref A.c_BadRule)] k ↔ k (.d (.bool false)) := fun fs k => isX_ref F.ec_BadField F.i_BadField_BadRule
    have i_BadSpot : ∀ fs k, gIsiF K [.exc A.c_BadField fs, .raw (.ref A.c_BadSpot)] k ↔ k (.d (.bool false)) := fun fs k => isX_ref F.ec_BadField F.i_BadField_BadSpot
    have i_BadTarget : ∀ fs k, gIsiF K [.exc A.c_BadField fs, .raw (.ref A.c_BadTarget)] k ↔ k (.d (.bool false)) := fun fs k => isX_ref F.ec_BadField F.i_BadField_BadTarget
    have i_BadRow : ∀ fs k, gIsiF K [.exc A.c_BadField fs, .raw (.ref A.c_BadRow)] k ↔ k (.d (.bool false)) := fun fs k => isX_ref F.ec_BadField F.i_BadField_BadRow
    have i_BadHeights : ∀ fs k, gIsiF K [.exc A.c_BadField fs, .raw (.ref A.c_BadHeights)] k ↔ k (.d (.bool false)) := fun fs k => isX_ref F.ec_BadField F.i_BadField_BadHeights
    have i_TooGreat : ∀ fs k, gIsiF K [.exc A.c_BadField fs, .raw (.ref A.c_TooGreat)] k ↔ k (.d (.bool false)) := fun fs k => isX_ref F.ec_BadField F.i_BadField_TooGreat
    have i_NoHollow : ∀ fs k, gIsiF K [.exc A.c_BadField fs, .raw (.ref A.c_NoHollow)] k ↔ k (.d (.bool false)) := fun fs k => isX_ref F.ec_BadField F.i_BadField_NoHollow
    have i_NoPeak : ∀ fs k, gIsiF K [.exc A.c_BadField fs, .raw (.ref A.c_NoPeak)] k ↔ k (.d (.bool false)) := fun fs k => isX_ref F.ec_BadField F.i_BadField_NoPeak
    have i_Nought : ∀ fs k, gIsiF K [.exc A.c_BadField fs, .raw (.ref A.c_Nought)] k ↔ k (.d (.bool false)) := fun fs k => isX_ref F.ec_BadField F.i_BadField_Nought
    have i_Gone : ∀ fs k, gIsiF K [.exc A.c_BadField fs, .raw (.ref A.c_Gone)] k ↔ k (.d (.bool false)) := fun fs k => isX_ref F.ec_BadField F.i_BadField_Gone
    have i_HollowError : ∀ fs k, gIsiF K [.exc A.c_BadField fs, .raw (.ref A.c_HollowError)] k ↔ k (.d (.bool true)) := fun fs k => isX_ref F.ec_BadField F.i_BadField_HollowError
    have i_DeedError : ∀ fs k, gIsiF K [.exc A.c_BadField fs, .raw (.ref A.c_DeedError)] k ↔ k (.d (.bool false)) := fun fs k => isX_ref F.ec_BadField F.i_BadField_DeedError
    have i_BookError : ∀ fs k, gIsiF K [.exc A.c_BadField fs, .raw (.ref A.c_BookError)] k ↔ k (.d (.bool false)) := fun fs k => isX_ref F.ec_BadField F.i_BadField_BookError
    have i_ValueError : ∀ fs k, gIsiF K [.exc A.c_BadField fs, .raw (.ty "ValueError")] k ↔ k (.d (.bool true)) := fun fs k => isX_ty F.ec_BadField F.i_BadField_ValueError
    have i_RuntimeError : ∀ fs k, gIsiF K [.exc A.c_BadField fs, .raw (.ty "RuntimeError")] k ↔ k (.d (.bool false)) := fun fs k => isX_ty F.ec_BadField F.i_BadField_RuntimeError
    have i_LookupError : ∀ fs k, gIsiF K [.exc A.c_BadField fs, .raw (.ty "LookupError")] k ↔ k (.d (.bool false)) := fun fs k => isX_ty F.ec_BadField F.i_BadField_LookupError
    walk_at "d3"
    subst hv
    refine seq_abs fun v hv => ?_
    walk_at "d3"
    refine ⟨false, rfl, fun z => (by cases z), fun _ => ?_⟩
    subst hv
    refine seq_abs fun v hv => ?_
    walk_at "d3"
    simp only [i_BadField, i_BadFraction]
    try walk_at "d3"
    subst hv
    refine seq_abs fun v hv => ?_
    walk_at "d3"
    simp only [i_BadRule, i_BadSpot]
    try walk_at "d3"
    subst hv
    refine seq_abs fun v hv => ?_
    walk_at "d3"
    simp only [i_BadTarget, i_BadRow]
    try walk_at "d3"
    subst hv
    refine seq_abs fun v hv => ?_
    walk_at "d3"
    refine ⟨⟨_, rfl⟩, ?_⟩
    simp only [i_BadHeights]
    try walk_at "d3"
    subst hv
    refine seq_abs fun v hv => ?_
    walk_at "d3"
    refine ⟨⟨_, rfl⟩, ?_⟩
    simp only [i_TooGreat]
    try walk_at "d3"
    subst hv
    refine seq_abs fun v hv => ?_
    walk_at "d3"
    simp only [i_NoHollow, i_NoPeak]
    try walk_at "d3"
    subst hv
    refine seq_abs fun v hv => ?_
    walk_at "d3"
    simp only [i_Nought, i_Gone]
    try walk_at "d3"
    subst hv
    refine seq_abs fun v hv => ?_
    walk_at "d3"
    refine ⟨⟨_, rfl⟩, ?_⟩
    simp only [dIsiT]
    walk_at "d3"
    simp only [gIsiT, clsL, Option.map_some]
    refine ⟨F.ec_BadField, _, F.ia_BadField_BadPairing_BadPaper_BadCoin_TooFew_BadText, ?_⟩
    walk_at "d3"
    subst hv
    refine seq_abs fun v hv => ?_
    walk_at "d3"
    refine comp_fm (S := ⟨_, C1⟩) rfl (fun d => match d with
      | .tuple [w, .bool b] => if b then some w else none
      | _ => none) _ [] (fun d hd N M hN hM => ?_) (by simp [szl]) ?_
    · have two : ∃ w b, d = .tuple [w, .bool b] := by
        simp only [List.mem_cons, List.not_mem_nil, or_false] at hd
        rcases hd with h | h | h | h | h | h | h | h | h | h | h | h | h <;> exact ⟨_, _, h⟩
      obtain ⟨w, b, rfl⟩ := two
      walk_at "d3"
      cases b
      · exact ⟨fun z => (by cases z), fun _ => hM _ rfl rfl⟩
      · exact ⟨fun _ => hN _ _ rfl rfl, fun z => (by cases z)⟩
    simp only [List.filterMap_cons, List.filterMap_nil, List.nil_append, if_true, Bool.false_eq_true, if_false]
    walk_at "d3"
    subst hv
    refine seq_abs fun v hv => ?_
    walk_at "d3"
    simp only [i_ValueError, i_RuntimeError]
    try walk_at "d3"
    subst hv
    refine seq_abs fun v hv => ?_
    walk_at "d3"
    simp only [i_HollowError, i_DeedError]
    try walk_at "d3"
    subst hv
    refine seq_abs fun v hv => ?_
    walk_at "d3"
    refine ⟨⟨_, rfl⟩, ?_⟩
    simp only [i_LookupError]
    try walk_at "d3"
    subst hv
    refine seq_abs fun v hv => ?_
    walk_at "d3"
    refine ⟨⟨_, rfl⟩, ?_⟩
    simp only [i_BookError]
    try walk_at "d3"
    subst hv
    refine seq_abs fun v hv => ?_
    walk_at "d3"
    have shb : SeqAt.shaped (.list [.bool true, .bool false, .bool false]) = true := by simp [SeqAt.shaped, PyData.canLay0, PyData.canLayAll0, PyData.depth, PyData.depthAll]
    refine gNeE_lst shb shb ?_
    have e9 : PyData.eqvAll [.bool true, .bool false, .bool false] [.bool true, .bool false, .bool false] = true := by simp [PyData.eqvAll, PyData.eqv]
    rw [e9]
    refine ⟨fun z => (by cases z), fun _ => ?_⟩
    simp only [dCnt]
    walk_at "d3"
    have e10 : cntD (.bool true) [.bool true, .bool false, .bool false] = 1 := by simp [cntD, List.countP_cons, PyData.eqv]
    rw [e10]
    refine ⟨rfl, by simp [flatD], ?_⟩
    try walk_at "d3"
    try refine ⟨fun z => absurd rfl z, fun _ => ?_⟩
    subst hv
    refine seq_abs fun v hv => ?_
    walk_at "d3"
    simp only [gIn]
    refine ⟨rfl, by simp [flatD], ?_⟩
    have e11 : inD (.str "field") [.str "hollow", .str "peak", .str "nought"] = false := by
      unfold inD
      simp only [List.any_cons, List.any_nil, eqv_str]
      decide +kernel
    rw [e11]
    simp only [Bool.false_eq_true, if_false, if_true, Bool.not_false]
    walk_at "d3"
    subst hv
    refine seq_abs fun v hv => ?_
    walk_at "d3"
    simp only [dFld, List.getElem?_cons_succ, List.getElem?_cons_zero]
    try walk_at "d3"
    have e12 : List.lookup ("place" : Str) [(("place" : Str), p)] = some p := by simp [List.lookup]
    rw [e12]
    exact ⟨F.xf_BadField, F.nf_BadField, hk⟩
  · refine ⟨F.e_BadSpot_HollowError_DeedError_BookError, ?_⟩
    have i_BadField : ∀ fs k, gIsiF K [.exc A.c_BadSpot fs, .raw (.ref A.c_BadField)] k ↔ k (.d (.bool false)) := fun fs k => isX_ref F.ec_BadSpot F.i_BadSpot_BadField
    have i_BadFraction : ∀ fs k, gIsiF K [.exc A.c_BadSpot fs, .raw (.ref A.c_BadFraction)] k ↔ k (.d (.bool false)) := fun fs k => isX_ref F.ec_BadSpot F.i_BadSpot_BadFraction
    have i_BadRule : ∀ fs k, gIsiF K [.exc A.c_BadSpot fs, .raw (.ref A.c_BadRule)] k ↔ k (.d (.bool false)) := fun fs k => isX_ref F.ec_BadSpot F.i_BadSpot_BadRule
    have i_BadSpot : ∀ fs k, gIsiF K [.exc A.c_BadSpot fs, .raw (.ref A.c_BadSpot)] k ↔ k (.d (.bool true)) := fun fs k => isX_ref F.ec_BadSpot F.i_BadSpot_BadSpot
    have i_BadTarget : ∀ fs k, gIsiF K [.exc A.c_BadSpot fs, .raw (.ref A.c_BadTarget)] k ↔ k (.d (.bool false)) := fun fs k => isX_ref F.ec_BadSpot F.i_BadSpot_BadTarget
    have i_BadRow : ∀ fs k, gIsiF K [.exc A.c_BadSpot fs, .raw (.ref A.c_BadRow)] k ↔ k (.d (.bool false)) := fun fs k => isX_ref F.ec_BadSpot F.i_BadSpot_BadRow
    have i_BadHeights : ∀ fs k, gIsiF K [.exc A.c_BadSpot fs, .raw (.ref A.c_BadHeights)] k ↔ k (.d (.bool false)) := fun fs k => isX_ref F.ec_BadSpot F.i_BadSpot_BadHeights
    have i_TooGreat : ∀ fs k, gIsiF K [.exc A.c_BadSpot fs, .raw (.ref A.c_TooGreat)] k ↔ k (.d (.bool false)) := fun fs k => isX_ref F.ec_BadSpot F.i_BadSpot_TooGreat
    have i_NoHollow : ∀ fs k, gIsiF K [.exc A.c_BadSpot fs, .raw (.ref A.c_NoHollow)] k ↔ k (.d (.bool false)) := fun fs k => isX_ref F.ec_BadSpot F.i_BadSpot_NoHollow
    have i_NoPeak : ∀ fs k, gIsiF K [.exc A.c_BadSpot fs, .raw (.ref A.c_NoPeak)] k ↔ k (.d (.bool false)) := fun fs k => isX_ref F.ec_BadSpot F.i_BadSpot_NoPeak
    have i_Nought : ∀ fs k, gIsiF K [.exc A.c_BadSpot fs, .raw (.ref A.c_Nought)] k ↔ k (.d (.bool false)) := fun fs k => isX_ref F.ec_BadSpot F.i_BadSpot_Nought
    have i_Gone : ∀ fs k, gIsiF K [.exc A.c_BadSpot fs, .raw (.ref A.c_Gone)] k ↔ k (.d (.bool false)) := fun fs k => isX_ref F.ec_BadSpot F.i_BadSpot_Gone
    have i_HollowError : ∀ fs k, gIsiF K [.exc A.c_BadSpot fs, .raw (.ref A.c_HollowError)] k ↔ k (.d (.bool true)) := fun fs k => isX_ref F.ec_BadSpot F.i_BadSpot_HollowError
    have i_DeedError : ∀ fs k, gIsiF K [.exc A.c_BadSpot fs, .raw (.ref A.c_DeedError)] k ↔ k (.d (.bool false)) := fun fs k => isX_ref F.ec_BadSpot F.i_BadSpot_DeedError
    have i_BookError : ∀ fs k, gIsiF K [.exc A.c_BadSpot fs, .raw (.ref A.c_BookError)] k ↔ k (.d (.bool false)) := fun fs k => isX_ref F.ec_BadSpot F.i_BadSpot_BookError
    have i_ValueError : ∀ fs k, gIsiF K [.exc A.c_BadSpot fs, .raw (.ty "ValueError")] k ↔ k (.d (.bool true)) := fun fs k => isX_ty F.ec_BadSpot F.i_BadSpot_ValueError
    have i_RuntimeError : ∀ fs k, gIsiF K [.exc A.c_BadSpot fs, .raw (.ty "RuntimeError")] k ↔ k (.d (.bool false)) := fun fs k => isX_ty F.ec_BadSpot F.i_BadSpot_RuntimeError
    have i_LookupError : ∀ fs k, gIsiF K [.exc A.c_BadSpot fs, .raw (.ty "LookupError")] k ↔ k (.d (.bool false)) := fun fs k => isX_ty F.ec_BadSpot F.i_BadSpot_LookupError
    walk_at "d3"
    subst hv
    refine seq_abs fun v hv => ?_
    walk_at "d3"
    refine ⟨false, rfl, fun z => (by cases z), fun _ => ?_⟩
    subst hv
    refine seq_abs fun v hv => ?_
    walk_at "d3"
    simp only [i_BadField, i_BadFraction]
    try walk_at "d3"
    subst hv
    refine seq_abs fun v hv => ?_
    walk_at "d3"
    simp only [i_BadRule, i_BadSpot]
    try walk_at "d3"
    subst hv
    refine seq_abs fun v hv => ?_
    walk_at "d3"
    simp only [i_BadTarget, i_BadRow]
    try walk_at "d3"
    subst hv
    refine seq_abs fun v hv => ?_
    walk_at "d3"
    refine ⟨⟨_, rfl⟩, ?_⟩
    simp only [i_BadHeights]
    try walk_at "d3"
    subst hv
    refine seq_abs fun v hv => ?_
    walk_at "d3"
    refine ⟨⟨_, rfl⟩, ?_⟩
    simp only [i_TooGreat]
    try walk_at "d3"
    subst hv
    refine seq_abs fun v hv => ?_
    walk_at "d3"
    simp only [i_NoHollow, i_NoPeak]
    try walk_at "d3"
    subst hv
    refine seq_abs fun v hv => ?_
    walk_at "d3"
    simp only [i_Nought, i_Gone]
    try walk_at "d3"
    subst hv
    refine seq_abs fun v hv => ?_
    walk_at "d3"
    refine ⟨⟨_, rfl⟩, ?_⟩
    simp only [dIsiT]
    walk_at "d3"
    simp only [gIsiT, clsL, Option.map_some]
    refine ⟨F.ec_BadSpot, _, F.ia_BadSpot_BadPairing_BadPaper_BadCoin_TooFew_BadText, ?_⟩
    walk_at "d3"
    subst hv
    refine seq_abs fun v hv => ?_
    walk_at "d3"
    refine comp_fm (S := ⟨_, C1⟩) rfl (fun d => match d with
      | .tuple [w, .bool b] => if b then some w else none
      | _ => none) _ [] (fun d hd N M hN hM => ?_) (by simp [szl]) ?_
    · have two : ∃ w b, d = .tuple [w, .bool b] := by
        simp only [List.mem_cons, List.not_mem_nil, or_false] at hd
        rcases hd with h | h | h | h | h | h | h | h | h | h | h | h | h <;> exact ⟨_, _, h⟩
      obtain ⟨w, b, rfl⟩ := two
      walk_at "d3"
      cases b
      · exact ⟨fun z => (by cases z), fun _ => hM _ rfl rfl⟩
      · exact ⟨fun _ => hN _ _ rfl rfl, fun z => (by cases z)⟩
    simp only [List.filterMap_cons, List.filterMap_nil, List.nil_append, if_true, Bool.false_eq_true, if_false]
    walk_at "d3"
    subst hv
    refine seq_abs fun v hv => ?_
    walk_at "d3"
    simp only [i_ValueError, i_RuntimeError]
    try walk_at "d3"
    subst hv
    refine seq_abs fun v hv => ?_
    walk_at "d3"
    simp only [i_HollowError, i_DeedError]
    try walk_at "d3"
    subst hv
    refine seq_abs fun v hv => ?_
    walk_at "d3"
    refine ⟨⟨_, rfl⟩, ?_⟩
    simp only [i_LookupError]
    try walk_at "d3"
    subst hv
    refine seq_abs fun v hv => ?_
    walk_at "d3"
    refine ⟨⟨_, rfl⟩, ?_⟩
    simp only [i_BookError]
    try walk_at "d3"
    subst hv
    refine seq_abs fun v hv => ?_
    walk_at "d3"
    have shb : SeqAt.shaped (.list [.bool true, .bool false, .bool false]) = true := by simp [SeqAt.shaped, PyData.canLay0, PyData.canLayAll0, PyData.depth, PyData.depthAll]
    refine gNeE_lst shb shb ?_
    have e9 : PyData.eqvAll [.bool true, .bool false, .bool false] [.bool true, .bool false, .bool false] = true := by simp [PyData.eqvAll, PyData.eqv]
    rw [e9]
    refine ⟨fun z => (by cases z), fun _ => ?_⟩
    simp only [dCnt]
    walk_at "d3"
    have e10 : cntD (.bool true) [.bool true, .bool false, .bool false] = 1 := by simp [cntD, List.countP_cons, PyData.eqv]
    rw [e10]
    refine ⟨rfl, by simp [flatD], ?_⟩
    try walk_at "d3"
    try refine ⟨fun z => absurd rfl z, fun _ => ?_⟩
    subst hv
    refine seq_abs fun v hv => ?_
    walk_at "d3"
    simp only [gIn]
    refine ⟨rfl, by simp [flatD], ?_⟩
    have e11 : inD (.str "spot") [.str "hollow", .str "peak", .str "nought"] = false := by
      unfold inD
      simp only [List.any_cons, List.any_nil, eqv_str]
      decide +kernel
    rw [e11]
    simp only [Bool.false_eq_true, if_false, if_true, Bool.not_false]
    walk_at "d3"
    subst hv
    refine seq_abs fun v hv => ?_
    walk_at "d3"
    refine ⟨fun z => absurd z (by decide +kernel), fun _ => ?_⟩
    subst hv
    refine seq_abs fun v hv => ?_
    walk_at "d3"
    refine ⟨fun z => absurd z (by decide +kernel), fun _ => ?_⟩
    subst hv
    walk_at "d3"
    refine ⟨fun z => absurd z (by decide +kernel), fun _ => ?_⟩
    exact hk
  · refine ⟨F.e_BadFraction_HollowError_DeedError_BookError, ?_⟩
    have i_BadField : ∀ fs k, gIsiF K [.exc A.c_BadFraction fs, .raw (.ref A.c_BadField)] k ↔ k (.d (.bool false)) := fun fs k => isX_ref F.ec_BadFraction F.i_BadFraction_BadField
    have i_BadFraction : ∀ fs k, gIsiF K [.exc A.c_BadFraction fs, .raw (.ref A.c_BadFraction)] k ↔ k (.d (.bool true)) := fun fs k => isX_ref F.ec_BadFraction F.i_BadFraction_BadFraction
    have i_BadRule : ∀ fs k, gIsiF K [.exc A.c_BadFraction fs, .raw (.ref A.c_BadRule)] k ↔ k (.d (.bool false)) := fun fs k => isX_ref F.ec_BadFraction F.i_BadFraction_BadRule
    have i_BadSpot : ∀ fs k, gIsiF K [.exc A.c_BadFraction fs, .raw (.ref A.c_BadSpot)] k ↔ k (.d (.bool false)) := fun fs k => isX_ref F.ec_BadFraction F.i_BadFraction_BadSpot
    have i_BadTarget : ∀ fs k, gIsiF K [.exc A.c_BadFraction fs, .raw (.ref A.c_BadTarget)] k ↔ k (.d (.bool false)) := fun fs k => isX_ref F.ec_BadFraction F.i_BadFraction_BadTarget
    have i_BadRow : ∀ fs k, gIsiF K [.exc A.c_BadFraction fs, .raw (.ref A.c_BadRow)] k ↔ k (.d (.bool false)) := fun fs k => isX_ref F.ec_BadFraction F.i_BadFraction_BadRow
    have i_BadHeights : ∀ fs k, gIsiF K [.exc A.c_BadFraction fs, .raw (.ref A.c_BadHeights)] k ↔ k (.d (.bool false)) := fun fs k => isX_ref F.ec_BadFraction F.i_BadFraction_BadHeights
    have i_TooGreat : ∀ fs k, gIsiF K [.exc A.c_BadFraction fs, .raw (.ref A.c_TooGreat)] k ↔ k (.d (.bool false)) := fun fs k => isX_ref F.ec_BadFraction F.i_BadFraction_TooGreat
    have i_NoHollow : ∀ fs k, gIsiF K [.exc A.c_BadFraction fs, .raw (.ref A.c_NoHollow)] k ↔ k (.d (.bool false)) := fun fs k => isX_ref F.ec_BadFraction F.i_BadFraction_NoHollow
    have i_NoPeak : ∀ fs k, gIsiF K [.exc A.c_BadFraction fs, .raw (.ref A.c_NoPeak)] k ↔ k (.d (.bool false)) := fun fs k => isX_ref F.ec_BadFraction F.i_BadFraction_NoPeak
    have i_Nought : ∀ fs k, gIsiF K [.exc A.c_BadFraction fs, .raw (.ref A.c_Nought)] k ↔ k (.d (.bool false)) := fun fs k => isX_ref F.ec_BadFraction F.i_BadFraction_Nought
    have i_Gone : ∀ fs k, gIsiF K [.exc A.c_BadFraction fs, .raw (.ref A.c_Gone)] k ↔ k (.d (.bool false)) := fun fs k => isX_ref F.ec_BadFraction F.i_BadFraction_Gone
    have i_HollowError : ∀ fs k, gIsiF K [.exc A.c_BadFraction fs, .raw (.ref A.c_HollowError)] k ↔ k (.d (.bool true)) := fun fs k => isX_ref F.ec_BadFraction F.i_BadFraction_HollowError
    have i_DeedError : ∀ fs k, gIsiF K [.exc A.c_BadFraction fs, .raw (.ref A.c_DeedError)] k ↔ k (.d (.bool false)) := fun fs k => isX_ref F.ec_BadFraction F.i_BadFraction_DeedError
    have i_BookError : ∀ fs k, gIsiF K [.exc A.c_BadFraction fs, .raw (.ref A.c_BookError)] k ↔ k (.d (.bool false)) := fun fs k => isX_ref F.ec_BadFraction F.i_BadFraction_BookError
    have i_ValueError : ∀ fs k, gIsiF K [.exc A.c_BadFraction fs, .raw (.ty "ValueError")] k ↔ k (.d (.bool true)) := fun fs k => isX_ty F.ec_BadFraction F.i_BadFraction_ValueError
    have i_RuntimeError : ∀ fs k, gIsiF K [.exc A.c_BadFraction fs, .raw (.ty "RuntimeError")] k ↔ k (.d (.bool false)) := fun fs k => isX_ty F.ec_BadFraction F.i_BadFraction_RuntimeError
    have i_LookupError : ∀ fs k, gIsiF K [.exc A.c_BadFraction fs, .raw (.ty "LookupError")] k ↔ k (.d (.bool false)) := fun fs k => isX_ty F.ec_BadFraction F.i_BadFraction_LookupError
    walk_at "d3"
    subst hv
    refine seq_abs fun v hv => ?_
    walk_at "d3"
    refine ⟨false, rfl, fun z => (by cases z), fun _ => ?_⟩
    subst hv
    refine seq_abs fun v hv => ?_
    walk_at "d3"
    simp only [i_BadField, i_BadFraction]
    try walk_at "d3"
    subst hv
    refine seq_abs fun v hv => ?_
    walk_at "d3"
    simp only [i_BadRule, i_BadSpot]
    try walk_at "d3"
    subst hv
    refine seq_abs fun v hv => ?_
    walk_at "d3"
    simp only [i_BadTarget, i_BadRow]
    try walk_at "d3"
    subst hv
    refine seq_abs fun v hv => ?_
    walk_at "d3"
    refine ⟨⟨_, rfl⟩, ?_⟩
    simp only [i_BadHeights]
    try walk_at "d3"
    subst hv
    refine seq_abs fun v hv => ?_
    walk_at "d3"
    refine ⟨⟨_, rfl⟩, ?_⟩
    simp only [i_TooGreat]
    try walk_at "d3"
    subst hv
    refine seq_abs fun v hv => ?_
    walk_at "d3"
    simp only [i_NoHollow, i_NoPeak]
    try walk_at "d3"
    subst hv
    refine seq_abs fun v hv => ?_
    walk_at "d3"
    simp only [i_Nought, i_Gone]
    try walk_at "d3"
    subst hv
    refine seq_abs fun v hv => ?_
    walk_at "d3"
    refine ⟨⟨_, rfl⟩, ?_⟩
    simp only [dIsiT]
    walk_at "d3"
    simp only [gIsiT, clsL, Option.map_some]
    refine ⟨F.ec_BadFraction, _, F.ia_BadFraction_BadPairing_BadPaper_BadCoin_TooFew_BadText, ?_⟩
    walk_at "d3"
    subst hv
    refine seq_abs fun v hv => ?_
    walk_at "d3"
    refine comp_fm (S := ⟨_, C1⟩) rfl (fun d => match d with
      | .tuple [w, .bool b] => if b then some w else none
      | _ => none) _ [] (fun d hd N M hN hM => ?_) (by simp [szl]) ?_
    · have two : ∃ w b, d = .tuple [w, .bool b] := by
        simp only [List.mem_cons, List.not_mem_nil, or_false] at hd
        rcases hd with h | h | h | h | h | h | h | h | h | h | h | h | h <;> exact ⟨_, _, h⟩
      obtain ⟨w, b, rfl⟩ := two
      walk_at "d3"
      cases b
      · exact ⟨fun z => (by cases z), fun _ => hM _ rfl rfl⟩
      · exact ⟨fun _ => hN _ _ rfl rfl, fun z => (by cases z)⟩
    simp only [List.filterMap_cons, List.filterMap_nil, List.nil_append, if_true, Bool.false_eq_true, if_false]
    walk_at "d3"
    subst hv
    refine seq_abs fun v hv => ?_
    walk_at "d3"
    simp only [i_ValueError, i_RuntimeError]
    try walk_at "d3"
    subst hv
    refine seq_abs fun v hv => ?_
    walk_at "d3"
    simp only [i_HollowError, i_DeedError]
    try walk_at "d3"
    subst hv
    refine seq_abs fun v hv => ?_
    walk_at "d3"
    refine ⟨⟨_, rfl⟩, ?_⟩
    simp only [i_LookupError]
    try walk_at "d3"
    subst hv
    refine seq_abs fun v hv => ?_
    walk_at "d3"
    refine ⟨⟨_, rfl⟩, ?_⟩
    simp only [i_BookError]
    try walk_at "d3"
    subst hv
    refine seq_abs fun v hv => ?_
    walk_at "d3"
    have shb : SeqAt.shaped (.list [.bool true, .bool false, .bool false]) = true := by simp [SeqAt.shaped, PyData.canLay0, PyData.canLayAll0, PyData.depth, PyData.depthAll]
    refine gNeE_lst shb shb ?_
    have e9 : PyData.eqvAll [.bool true, .bool false, .bool false] [.bool true, .bool false, .bool false] = true := by simp [PyData.eqvAll, PyData.eqv]
    rw [e9]
    refine ⟨fun z => (by cases z), fun _ => ?_⟩
    simp only [dCnt]
    walk_at "d3"
    have e10 : cntD (.bool true) [.bool true, .bool false, .bool false] = 1 := by simp [cntD, List.countP_cons, PyData.eqv]
    rw [e10]
    refine ⟨rfl, by simp [flatD], ?_⟩
    try walk_at "d3"
    try refine ⟨fun z => absurd rfl z, fun _ => ?_⟩
    subst hv
    refine seq_abs fun v hv => ?_
    walk_at "d3"
    simp only [gIn]
    refine ⟨rfl, by simp [flatD], ?_⟩
    have e11 : inD (.str "fraction") [.str "hollow", .str "peak", .str "nought"] = false := by
      unfold inD
      simp only [List.any_cons, List.any_nil, eqv_str]
      decide +kernel
    rw [e11]
    simp only [Bool.false_eq_true, if_false, if_true, Bool.not_false]
    walk_at "d3"
    subst hv
    refine seq_abs fun v hv => ?_
    walk_at "d3"
    refine ⟨fun z => absurd z (by decide +kernel), fun _ => ?_⟩
    subst hv
    refine seq_abs fun v hv => ?_
    walk_at "d3"
    refine ⟨fun z => absurd z (by decide +kernel), fun _ => ?_⟩
    subst hv
    walk_at "d3"
    refine ⟨fun z => absurd z (by decide +kernel), fun _ => ?_⟩
    exact hk
/-! ### what is asked of fields -/
theorem spots_map {w h : Nat} : spotsD w h = (spotsP w h).map ptD := by
  unfold spotsD spotsP
  rw [List.map_flatMap]
  simp only [List.map_map]
  rfl
theorem pt_pair {x y : Nat} : ptD (x, y) = .tuple [.int (x : Nat), .int (y : Nat)] := rfl
/-- whether a thing is a pair of whole numbers -/
def P_is_spot_of : DP := fun rs C k _ => match rs with
  | [.d (.tuple [.int w, .int h]), .d t] => ∃ W H : Nat, w = W ∧ h = H ∧ k (.d (.bool (spotB W H t))) C
  | _ => False
theorem h_is_spot_of (K : PySem.W.Frag) (A : Adr) : ∀ rs C k e, P_is_spot_of rs C k e → rs.length = 2 ∧ sem_p_is_spot_of K A P_is_whole (defEnds k) ⟨start3 3 rs, C⟩ (defExc e) := by
  intro rs C k e h
  letI : Tb := ⟨[]⟩
  unfold P_is_spot_of at h
  split at h
  · rename_i w h' t
    obtain ⟨W, H, rfl, rfl, h⟩ := h
    refine ⟨rfl, ?_⟩
    unfold sem_p_is_spot_of
    refine seq_abs fun v hv => ?_
    cases t with
    | tuple xs =>
      match xs, h with
      | [], h =>
        walk_at "d3"
        exact h
      | [a], h =>
        walk_at "d3"
        simp [spotB] at h ⊢
        exact h
      | [a, b], h =>
        walk_at "d3"
        refine comp_map (S := ⟨[some (.d (.tuple [.int W, .int H])), some (.d (.tuple [a, b])), none], C⟩) rfl (fun x => .bool (isInt x)) (fun x hx N hN => ?_) (by simp [szl]) ?_
        · walk_at "d3"
          exact hN _ rfl
        · walk_at "d3"
          refine ⟨_, rfl, fun z => ?_, fun z => ?_⟩
          · have e0 : spotB W H (.tuple [a, b]) = false := by
              cases a <;> cases b <;> simp only [isInt, List.all_cons, List.all_nil, id] at z <;> first | rfl | cases z
            rw [e0] at h
            exact h
          · subst hv
            cases a <;> cases b <;> simp only [isInt, List.all_cons, List.all_nil, id] at z <;> first | cases z | skip
            rename_i a b
            walk_at "d3"
            simp only [spotB] at h
            refine ⟨fun h1 => ⟨fun h2 => ⟨fun h3 => ?_, fun h3 => ?_⟩, fun h2 => ?_⟩, fun h1 => ?_⟩
            · have e : decide (b < (H : Int)) = decide (0 ≤ a ∧ a < (W : Int) ∧ 0 ≤ b ∧ b < (H : Int)) := by
                congr 1
                exact propext ⟨fun q => ⟨h1, h2, h3, q⟩, fun q => q.2.2.2⟩
              rw [e]
              exact h
            · rw [decide_eq_false (by omega)] at h
              exact h
            · rw [decide_eq_false (by omega)] at h
              exact h
            · rw [decide_eq_false (by omega)] at h
              exact h
      | a :: b :: c :: r, h =>
        walk_at "d3"
        simp only [spotB] at h
        exact ⟨fun _ => h, fun z => absurd z (by omega)⟩
    | _ =>
      walk_at "d3"
      simp [spotB] at h ⊢
      exact h
  · exact h.elim
def P_need_spot (cS : Addr) : DP := fun rs C k e => match rs with
  | [.d d, .d t] => ∃ w h H W, d = fieldG w h H W ∧ GoodF w h H W ∧ (spotB w h t = true → k (.d .none) C) ∧ (spotB w h t = false → e ⟨cS, []⟩ C)
  | _ => False
theorem h_need_spot (K : PySem.W.Frag) (A : Adr) : ∀ rs C k e, P_need_spot A.c_BadSpot rs C k e → rs.length = 2 ∧ sem_p_need_spot K A P_is_spot_of P_own_shape (defEnds k) ⟨start3 2 rs, C⟩ (defExc e) := by
  intro rs C k e h
  letI : Tb := ⟨[]⟩
  unfold P_need_spot at h
  split at h
  · rename_i d t
    obtain ⟨w, h', H, W, rfl, g, h1, h2⟩ := h
    refine ⟨rfl, ?_⟩
    unfold sem_p_need_spot
    unfold fieldG
    walk_at "d3"
    simp only [P_own_shape, sides_grid g.w1 g.w2 g.h1 g.h2, shapeD, P_is_spot_of]
    try walk_at "d3"
    refine ⟨w, h', rfl, rfl, ?_⟩
    try walk_at "d3"
    exact ⟨fun z => h2 z, fun z => h1 z⟩
  · exact h.elim
def P_own_spots : DP := fun rs C k e => match rs with
  | [.d d] => ∃ w h H W, d = fieldG w h H W ∧ GoodF w h H W ∧ k (.d (.list (spotsD w h))) C
  | _ => False
theorem h_own_spots (K : PySem.W.Frag) (A : Adr) : ∀ rs C k e, P_own_spots rs C k e → rs.length = 1 ∧ sem_p_own_spots K A P_shape_spots P_own_shape (defEnds k) ⟨start3 1 rs, C⟩ (defExc e) := by
  intro rs C k e h
  letI : Tb := ⟨[]⟩
  unfold P_own_spots at h
  split at h
  · obtain ⟨w, h', H, W, rfl, g, hk⟩ := h
    refine ⟨rfl, ?_⟩
    unfold sem_p_own_spots
    unfold fieldG
    walk_at "d3"
    have g1 := g.w2
    have g2 := g.h2
    simp only [P_own_shape, sides_grid g.w1 g.w2 g.h1 g.h2, shapeD, P_shape_spots]
    try walk_at "d3"
    exact ⟨w, h', rfl, rfl, by omega, by omega, hk⟩
  · exact h.elim
theorem gd_nbD {w h x y : Nat} (hx : x < w) (hy : y < h) : [PyData.tuple [.int ((x : Int) - 1), .int y], .tuple [.int x, .int ((y : Int) - 1)], .tuple [.int x, .int ((y : Int) + 1)], .tuple [.int ((x : Int) + 1), .int y]].filterMap (fun d => if spotB w h d = true then some d else none) = (nbP w h x y).map ptD := by
  have c1 : spotB w h (.tuple [.int ((x : Int) - 1), .int y]) = decide (0 < x) := by unfold spotB; rw [Bool.eq_iff_iff]; simp only [decide_eq_true_eq]; omega
  have c2 : spotB w h (.tuple [.int x, .int ((y : Int) - 1)]) = decide (0 < y) := by unfold spotB; rw [Bool.eq_iff_iff]; simp only [decide_eq_true_eq]; omega
  have c3 : spotB w h (.tuple [.int x, .int ((y : Int) + 1)]) = decide (y + 1 < h) := by unfold spotB; rw [Bool.eq_iff_iff]; simp only [decide_eq_true_eq]; omega
  have c4 : spotB w h (.tuple [.int ((x : Int) + 1), .int y]) = decide (x + 1 < w) := by unfold spotB; rw [Bool.eq_iff_iff]; simp only [decide_eq_true_eq]; omega
  have d1 : 0 < x → PyData.tuple [.int ((x : Int) - 1), .int y] = ptD (x - 1, y) := fun z => by unfold ptD; rw [show ((x : Int) - 1) = ((x - 1 : Nat) : Int) by omega]
  have d2 : 0 < y → PyData.tuple [.int (x : Int), .int ((y : Int) - 1)] = ptD (x, y - 1) := fun z => by unfold ptD; rw [show ((y : Int) - 1) = ((y - 1 : Nat) : Int) by omega]
  have d3 : PyData.tuple [.int (x : Int), .int ((y : Int) + 1)] = ptD (x, y + 1) := rfl
  have d4 : PyData.tuple [.int ((x : Int) + 1), .int y] = ptD (x + 1, y) := rfl
  unfold nbP
  simp only [List.filterMap_cons, List.filterMap_nil, c1, c2, c3, c4, decide_eq_true_eq]
  by_cases h1 : 0 < x <;> by_cases h2 : 0 < y <;> by_cases h3 : y + 1 < h <;> by_cases h4 : x + 1 < w <;> simp [h1, h2, h3, h4, d3, d4] <;> first | exact ⟨d1 h1, d2 h2⟩ | exact d1 h1 | exact d2 h2
def P_own_neighbours : DP := fun rs C k e => match rs with
  | [.d (.tuple [.int w, .int h]), .d t] => ∃ W H x y : Nat, w = W ∧ h = H ∧ t = ptD (x, y) ∧ x < W ∧ y < H ∧ k (.d (.list ((nbP W H x y).map ptD))) C
  | _ => False
theorem h_own_neighbours (K : PySem.W.Frag) (A : Adr) : ∀ rs C k e, P_own_neighbours rs C k e → rs.length = 2 ∧ sem_p_own_neighbours K A P_is_spot_of (defEnds k) ⟨start3 5 rs, C⟩ (defExc e) := by
  intro rs C k e h
  letI : Tb := ⟨[]⟩
  unfold P_own_neighbours at h
  split at h
  · obtain ⟨w, h', x, y, rfl, rfl, rfl, hx, hy, hk⟩ := h
    refine ⟨rfl, ?_⟩
    unfold sem_p_own_neighbours
    unfold ptD
    refine seq_abs fun v hv => ?_
    walk_at "d3"
    subst hv
    walk_at "d3"
    refine comp_fm (S := ⟨[some (.d (.tuple [.int w, .int h'])), some (.d (.tuple [.int x, .int y])), some (.d (.int x)), some (.d (.int y)), none], C⟩) rfl (fun d => if spotB w h' d = true then some d else none) _ [] (fun d hd N M hN hM => ?_) (by simp [szl]) ?_
    · walk_at "d3"
      simp only [P_is_spot_of]
      try walk_at "d3"
      refine ⟨w, h', rfl, rfl, ?_⟩
      try walk_at "d3"
      refine ⟨fun z => hN _ _ ?_ rfl, fun z => hM _ ?_ rfl⟩
      · simp [z]
      · simp [z]
    · rw [gd_nbD hx hy]
      walk_at "d3"
      exact hk
  · exact h.elim
/-- at a spot of a field's rows -/
def P_height_in : DP := fun rs C k e => match rs with
  | [.d d, .d t] => ∃ w h H W x y, d = fieldG w h H W ∧ t = ptD (x, y) ∧ x < w ∧ y < h ∧ k (.d (.int (H x y))) C
  | _ => False
theorem h_height_in (K : PySem.W.Frag) (A : Adr) : ∀ rs C k e, P_height_in rs C k e → rs.length = 2 ∧ sem_p_height_in K A P_at (defEnds k) ⟨start3 2 rs, C⟩ (defExc e) := by
  intro rs C k e h
  letI : Tb := ⟨[]⟩
  unfold P_height_in at h
  split at h
  · obtain ⟨w, h', H, W, x, y, rfl, rfl, hx, hy, hk⟩ := h
    refine ⟨rfl, ?_⟩
    unfold sem_p_height_in
    unfold fieldG ptD
    walk_at "d3"
    simp only [P_at]
    exact ⟨x, y, _, rfl, rfl, at_grid hx hy, hk⟩
  · exact h.elim
def P_worth_in : DP := fun rs C k e => match rs with
  | [.d d, .d t] => ∃ w h H W x y, d = fieldG w h H W ∧ t = ptD (x, y) ∧ x < w ∧ y < h ∧ k (.d (W x y)) C
  | _ => False
theorem h_worth_in (K : PySem.W.Frag) (A : Adr) : ∀ rs C k e, P_worth_in rs C k e → rs.length = 2 ∧ sem_p_worth_in K A P_at (defEnds k) ⟨start3 2 rs, C⟩ (defExc e) := by
  intro rs C k e h
  letI : Tb := ⟨[]⟩
  unfold P_worth_in at h
  split at h
  · obtain ⟨w, h', H, W, x, y, rfl, rfl, hx, hy, hk⟩ := h
    refine ⟨rfl, ?_⟩
    unfold sem_p_worth_in
    unfold fieldG ptD
    walk_at "d3"
    simp only [P_at]
    exact ⟨x, y, _, rfl, rfl, at_grid hx hy, hk⟩
  · exact h.elim
/-- a word of fields: told of a field, else refused -/
def P_ofF (cB : Addr) (R : Nat → Nat → (Nat → Nat → Int) → (Nat → Nat → PyData) → PyData) : DP := fun rs C k e => match rs with
  | [.d d] => (∃ w h H W, d = fieldG w h H W ∧ GoodF w h H W ∧ k (.d (R w h H W)) C) ∨ ∃ p, faultD d = [p] ∧ e ⟨cB, [("place", p)]⟩ C
  | _ => False
theorem need_good {cB : Addr} {w h : Nat} {H : Nat → Nat → Int} {W : Nat → Nat → PyData} {C : List (List PyData)} {k : SV → List (List PyData) → Prop} {e : Xd → List (List PyData) → Prop} (g : GoodF w h H W) (q : k (.d .none) C) : P_need_field cB [.d (fieldG w h H W)] C k e :=
  ⟨fun _ => q, fun p z => by rw [good_fault g] at z; cases z⟩
theorem need_bad {cB : Addr} {d p : PyData} {C : List (List PyData)} {k : SV → List (List PyData) → Prop} {e : Xd → List (List PyData) → Prop} (z : faultD d = [p]) (q : e ⟨cB, [("place", p)]⟩ C) : P_need_field cB [.d d] C k e :=
  ⟨fun z2 => (by rw [z] at z2; cases z2), fun p' z2 => (by rw [z] at z2; cases z2; exact q)⟩
def P_board (cB : Addr) : DP := P_ofF cB fun w h _ _ => .tuple [.int w, .int h]
theorem h_board (K : PySem.W.Frag) (A : Adr) : ∀ rs C k e, P_board A.c_BadField rs C k e → rs.length = 1 ∧ sem_p_board K A (P_need_field A.c_BadField) P_own_shape (defEnds k) ⟨start3 1 rs, C⟩ (defExc e) := by
  intro rs C k e h
  letI : Tb := ⟨[]⟩
  unfold P_board P_ofF at h
  split at h
  · refine ⟨rfl, ?_⟩
    unfold sem_p_board
    refine seq_abs fun v hv => ?_
    walk_at "d3"
    rcases h with ⟨w, h, H, W, rfl, g, hk⟩ | ⟨p, z, he⟩
    · refine need_good g ?_
      subst hv
      unfold fieldG
      walk_at "d3"
      simp only [P_own_shape, sides_grid g.w1 g.w2 g.h1 g.h2, shapeD]
      exact hk
    · exact need_bad z he
  · exact h.elim
def P_spots (cB : Addr) : DP := P_ofF cB fun w h _ _ => .tuple (spotsD w h)
theorem h_spots (K : PySem.W.Frag) (A : Adr) : ∀ rs C k e, P_spots A.c_BadField rs C k e → rs.length = 1 ∧ sem_p_spots K A (P_need_field A.c_BadField) P_own_spots (defEnds k) ⟨start3 1 rs, C⟩ (defExc e) := by
  intro rs C k e h
  letI : Tb := ⟨[]⟩
  unfold P_spots P_ofF at h
  split at h
  · refine ⟨rfl, ?_⟩
    unfold sem_p_spots
    refine seq_abs fun v hv => ?_
    walk_at "d3"
    rcases h with ⟨w, h, H, W, rfl, g, hk⟩ | ⟨p, z, he⟩
    · refine need_good g ?_
      subst hv
      walk_at "d3"
      simp only [P_own_spots]
      refine ⟨w, h, H, W, rfl, g, ?_⟩
      try walk_at "d3"
      exact hk
    · exact need_bad z he
  · exact h.elim
/-- a spot of the rim -/
def rimsD (w h : Nat) : List PyData := ((spotsP w h).filter fun p => rimB w h p.1 p.2).map ptD
def innerD (w h : Nat) : List PyData := ((spotsP w h).filter fun p => !rimB w h p.1 p.2).map ptD
theorem fm_filter {α : Type} (q : α → Bool) (f : α → PyData) (g : PyData → Option PyData) : ∀ (L : List α), (∀ a ∈ L, g (f a) = if q a = true then some (f a) else none) → (L.map f).filterMap g = (L.filter q).map f
  | [], _ => rfl
  | a :: r, h => by
    have e := h a (List.mem_cons_self ..)
    have ih := fm_filter q f g r fun b hb => h b (List.mem_cons_of_mem _ hb)
    rw [List.map_cons, List.filterMap_cons, e, List.filter_cons]
    cases q a <;> simp [ih]
def P_own_rim : DP := fun rs C k _ => match rs with
  | [.d (.tuple [.int w, .int h])] => ∃ W H : Nat, w = W ∧ h = H ∧ 1 ≤ W ∧ 1 ≤ H ∧ W ≤ 11 ∧ H ≤ 11 ∧ k (.d (.list (rimsD W H))) C
  | _ => False
def rimF (w h : Int) : PyData → Option PyData
  | .tuple [.int x, .int y] => if rimI w h x y then some (.tuple [.int x, .int y]) else none
  | _ => none
theorem rims_fm {w h : Nat} (w1 : 1 ≤ w) (h1 : 1 ≤ h) : (spotsD w h).filterMap (rimF w h) = rimsD w h := by
  rw [spots_map]
  unfold rimsD
  refine fm_filter _ _ _ _ fun p _ => ?_
  unfold ptD
  simp only [rimF, rimI_eq w1 h1]
def innF (w h : Int) (d : PyData) : Option PyData := match rimF w h d with
  | some _ => none
  | none => some d
theorem inner_fm {w h : Nat} (w1 : 1 ≤ w) (h1 : 1 ≤ h) : (spotsD w h).filterMap (innF w h) = innerD w h := by
  rw [spots_map]
  unfold innerD
  refine fm_filter _ _ _ _ fun p _ => ?_
  unfold ptD
  simp only [innF, rimF, rimI_eq w1 h1]
  cases rimB w h p.1 p.2 <;> simp
theorem h_own_rim (K : PySem.W.Frag) (A : Adr) : ∀ rs C k e, P_own_rim rs C k e → rs.length = 1 ∧ sem_p_own_rim K A P_shape_spots P_is_on_rim (defEnds k) ⟨start3 2 rs, C⟩ (defExc e) := by
  intro rs C k e h
  letI : Tb := ⟨[]⟩
  unfold P_own_rim at h
  split at h
  · obtain ⟨W, H, rfl, rfl, w1, h1, hW, hH, hk⟩ := h
    refine ⟨rfl, ?_⟩
    unfold sem_p_own_rim
    walk_at "d3"
    simp only [P_shape_spots]
    refine ⟨W, H, rfl, rfl, by omega, by omega, ?_⟩
    have hm : W * H ≤ 11 * 11 := Nat.mul_le_mul hW hH
    refine comp_fm (S := ⟨[some (.d (.tuple [.int W, .int H])), none], C⟩) rfl (rimF W H) _ [] (fun d hd N M hN hM => ?_) (by rw [spots_len, List.length_nil, szl]; omega) ?_
    · obtain ⟨x, y, hx, hy, rfl⟩ := spots_mem hd
      walk_at "d3"
      simp only [P_is_on_rim]
      try walk_at "d3"
      refine ⟨fun z => hN _ _ ?_ rfl, fun z => hM _ ?_ rfl⟩
      · simp [rimF, z]
      · simp [rimF, z]
    · rw [rims_fm w1 h1]
      walk_at "d3"
      exact hk
  · exact h.elim
def P_rim (cB : Addr) : DP := P_ofF cB fun w h _ _ => .tuple (rimsD w h)
theorem h_rim (K : PySem.W.Frag) (A : Adr) : ∀ rs C k e, P_rim A.c_BadField rs C k e → rs.length = 1 ∧ sem_p_rim K A (P_need_field A.c_BadField) P_own_rim P_own_shape (defEnds k) ⟨start3 1 rs, C⟩ (defExc e) := by
  intro rs C k e h
  letI : Tb := ⟨[]⟩
  unfold P_rim P_ofF at h
  split at h
  · refine ⟨rfl, ?_⟩
    unfold sem_p_rim
    refine seq_abs fun v hv => ?_
    walk_at "d3"
    rcases h with ⟨w, h, H, W, rfl, g, hk⟩ | ⟨p, z, he⟩
    · refine need_good g ?_
      subst hv
      unfold fieldG
      walk_at "d3"
      simp only [P_own_shape, sides_grid g.w1 g.w2 g.h1 g.h2, shapeD, P_own_rim]
      refine ⟨w, h, rfl, rfl, g.w1, g.h1, g.w2, g.h2, ?_⟩
      try walk_at "d3"
      exact hk
    · exact need_bad z he
  · exact h.elim
def P_inner (cB : Addr) : DP := P_ofF cB fun w h _ _ => .tuple (innerD w h)
theorem h_inner (K : PySem.W.Frag) (A : Adr) : ∀ rs C k e, P_inner A.c_BadField rs C k e → rs.length = 1 ∧ sem_p_inner K A (P_need_field A.c_BadField) P_own_shape P_shape_spots P_is_on_rim (defEnds k) ⟨start3 3 rs, C⟩ (defExc e) := by
  intro rs C k e h
  letI : Tb := ⟨[]⟩
  unfold P_inner P_ofF at h
  split at h
  · refine ⟨rfl, ?_⟩
    unfold sem_p_inner
    refine seq_abs fun v hv => ?_
    walk_at "d3"
    rcases h with ⟨w, h, H, W, rfl, g, hk⟩ | ⟨p, z, he⟩
    · refine need_good g ?_
      subst hv
      refine seq_abs fun v hv => ?_
      have g1 := g.w2
      have g2 := g.h2
      unfold fieldG
      walk_at "d3"
      simp only [P_own_shape, sides_grid g.w1 g.w2 g.h1 g.h2, shapeD]
      try walk_at "d3"
      subst hv
      walk_at "d3"
      simp only [P_shape_spots]
      refine ⟨w, h, rfl, rfl, by omega, by omega, ?_⟩
      have hm : w * h ≤ 11 * 11 := Nat.mul_le_mul g1 g2
      refine comp_fm rfl (innF w h) _ [] (fun d hd N M hN hM => ?_) (by rw [spots_len, List.length_nil, szl]; omega) ?_
      · obtain ⟨x, y, hx, hy, rfl⟩ := spots_mem hd
        walk_at "d3"
        simp only [P_is_on_rim]
        try walk_at "d3"
        refine ⟨fun z => hN _ _ ?_ rfl, fun z => hM _ ?_ rfl⟩
        · simp [innF, rimF, z]
        · simp [innF, rimF, z]
      · rw [inner_fm g.w1 g.h1]
        walk_at "d3"
        exact hk
    · exact need_bad z he
  · exact h.elim
/-- a word of a field and a spot -/
def P_ofFS (cB cS : Addr) (R : Nat → Nat → (Nat → Nat → Int) → (Nat → Nat → PyData) → Nat → Nat → PyData) : DP := fun rs C k e => match rs with
  | [.d d, .d t] => (∃ w h H W x y, d = fieldG w h H W ∧ GoodF w h H W ∧ t = ptD (x, y) ∧ x < w ∧ y < h ∧ k (.d (R w h H W x y)) C) ∨
      (∃ w h H W, d = fieldG w h H W ∧ GoodF w h H W ∧ spotB w h t = false ∧ e ⟨cS, []⟩ C) ∨ ∃ p, faultD d = [p] ∧ e ⟨cB, [("place", p)]⟩ C
  | _ => False
theorem spot_good {cS : Addr} {w h x y : Nat} {H : Nat → Nat → Int} {W : Nat → Nat → PyData} {C : List (List PyData)} {k : SV → List (List PyData) → Prop} {e : Xd → List (List PyData) → Prop} (g : GoodF w h H W) (hx : x < w) (hy : y < h) (q : k (.d .none) C) : P_need_spot cS [.d (fieldG w h H W), .d (ptD (x, y))] C k e :=
  ⟨w, h, H, W, rfl, g, fun _ => q, fun z => by rw [spotB_of hx hy] at z; cases z⟩
theorem spot_bad {cS : Addr} {w h : Nat} {H : Nat → Nat → Int} {W : Nat → Nat → PyData} {t : PyData} {C : List (List PyData)} {k : SV → List (List PyData) → Prop} {e : Xd → List (List PyData) → Prop} (g : GoodF w h H W) (z : spotB w h t = false) (q : e ⟨cS, []⟩ C) : P_need_spot cS [.d (fieldG w h H W), .d t] C k e :=
  ⟨w, h, H, W, rfl, g, fun z2 => (by rw [z] at z2; cases z2), fun _ => q⟩
def P_neighbours (cB cS : Addr) : DP := P_ofFS cB cS fun w h _ _ x y => .tuple ((nbP w h x y).map ptD)
theorem h_neighbours (K : PySem.W.Frag) (A : Adr) : ∀ rs C k e, P_neighbours A.c_BadField A.c_BadSpot rs C k e → rs.length = 2 ∧ sem_p_neighbours K A (P_need_field A.c_BadField) (P_need_spot A.c_BadSpot) P_own_neighbours P_own_shape (defEnds k) ⟨start3 2 rs, C⟩ (defExc e) := by
  intro rs C k e h
  letI : Tb := ⟨[]⟩
  unfold P_neighbours P_ofFS at h
  split at h
  · refine ⟨rfl, ?_⟩
    unfold sem_p_neighbours
    refine seq_abs fun v hv => ?_
    walk_at "d3"
    rcases h with ⟨w, h, H, W, x, y, rfl, g, rfl, hx, hy, hk⟩ | ⟨w, h, H, W, rfl, g, z, he⟩ | ⟨p, z, he⟩
    · refine need_good g ?_
      subst hv
      refine seq_abs fun v hv => ?_
      walk_at "d3"
      refine spot_good g hx hy ?_
      subst hv
      unfold fieldG
      walk_at "d3"
      simp only [P_own_shape, sides_grid g.w1 g.w2 g.h1 g.h2, shapeD, P_own_neighbours]
      refine ⟨w, h, x, y, rfl, rfl, rfl, hx, hy, ?_⟩
      try walk_at "d3"
      exact hk
    · refine need_good g ?_
      subst hv
      refine seq_abs fun v hv => ?_
      walk_at "d3"
      exact spot_bad g z he
    · exact need_bad z he
  · exact h.elim
def P_height_at (cB cS : Addr) : DP := P_ofFS cB cS fun _ _ H _ x y => .int (H x y)
theorem h_height_at (K : PySem.W.Frag) (A : Adr) : ∀ rs C k e, P_height_at A.c_BadField A.c_BadSpot rs C k e → rs.length = 2 ∧ sem_p_height_at K A (P_need_field A.c_BadField) (P_need_spot A.c_BadSpot) P_height_in (defEnds k) ⟨start3 2 rs, C⟩ (defExc e) := by
  intro rs C k e h
  letI : Tb := ⟨[]⟩
  unfold P_height_at P_ofFS at h
  split at h
  · refine ⟨rfl, ?_⟩
    unfold sem_p_height_at
    refine seq_abs fun v hv => ?_
    walk_at "d3"
    rcases h with ⟨w, h, H, W, x, y, rfl, g, rfl, hx, hy, hk⟩ | ⟨w, h, H, W, rfl, g, z, he⟩ | ⟨p, z, he⟩
    · refine need_good g ?_
      subst hv
      refine seq_abs fun v hv => ?_
      walk_at "d3"
      refine spot_good g hx hy ?_
      subst hv
      walk_at "d3"
      simp only [P_height_in]
      exact ⟨w, h, H, W, x, y, rfl, rfl, hx, hy, hk⟩
    · refine need_good g ?_
      subst hv
      refine seq_abs fun v hv => ?_
      walk_at "d3"
      exact spot_bad g z he
    · exact need_bad z he
  · exact h.elim
def P_worth_of (cB cS : Addr) : DP := P_ofFS cB cS fun _ _ _ W x y => W x y
theorem h_worth_of (K : PySem.W.Frag) (A : Adr) : ∀ rs C k e, P_worth_of A.c_BadField A.c_BadSpot rs C k e → rs.length = 2 ∧ sem_p_worth_of K A (P_need_field A.c_BadField) (P_need_spot A.c_BadSpot) P_worth_in (defEnds k) ⟨start3 2 rs, C⟩ (defExc e) := by
  intro rs C k e h
  letI : Tb := ⟨[]⟩
  unfold P_worth_of P_ofFS at h
  split at h
  · refine ⟨rfl, ?_⟩
    unfold sem_p_worth_of
    refine seq_abs fun v hv => ?_
    walk_at "d3"
    rcases h with ⟨w, h, H, W, x, y, rfl, g, rfl, hx, hy, hk⟩ | ⟨w, h, H, W, rfl, g, z, he⟩ | ⟨p, z, he⟩
    · refine need_good g ?_
      subst hv
      refine seq_abs fun v hv => ?_
      walk_at "d3"
      refine spot_good g hx hy ?_
      subst hv
      walk_at "d3"
      simp only [P_worth_in]
      exact ⟨w, h, H, W, x, y, rfl, rfl, hx, hy, hk⟩
    · refine need_good g ?_
      subst hv
      refine seq_abs fun v hv => ?_
      walk_at "d3"
      exact spot_bad g z he
    · exact need_bad z he
  · exact h.elim
def P_way : DP := fun rs C k e => match rs with
  | [.d (.tuple [.int a, .int b]), .d (.tuple [.int c, .int d])] => k (.d (.int (((a - c).natAbs : Int) + ((b - d).natAbs : Int)))) C
  | _ => False
theorem h_way (K : PySem.W.Frag) (A : Adr) : ∀ rs C k e, P_way rs C k e → rs.length = 2 ∧ sem_p_way K A (defEnds k) ⟨start3 2 rs, C⟩ (defExc e) := by
  intro rs C k e h
  unfold P_way at h
  split at h
  · refine ⟨rfl, ?_⟩
    unfold sem_p_way
    walk_at "d3"
    simp only [absif]
    exact h
  · exact h.elim
/-! ### a spot exchanged -/
theorem put_row {α : Type} {w k : Nat} {a : α} {f : Nat → α} (hk : k < w) : ((List.range w).map f).take k ++ [a] ++ ((List.range w).map f).drop (k + 1) = (List.range w).map fun x => if x = k then a else f x := by
  refine List.ext_getElem? fun i => ?_
  by_cases h1 : i < k
  · rw [List.append_assoc, List.getElem?_append_left (by simp; omega), List.getElem?_take, if_pos h1, List.getElem?_map, List.getElem?_map, List.getElem?_range (by omega)]
    simp only [Option.map_some]
    rw [if_neg (by omega)]
  · by_cases h2 : i = k
    · subst h2
      rw [List.getElem?_append_left (by simp; omega), List.getElem?_append_right (by simp; omega)]
      have e : i - (((List.range w).map f).take i).length = 0 := by simp; omega
      rw [e, List.getElem?_map, List.getElem?_range hk]
      simp
    · rw [List.getElem?_append_right (by simp; omega), List.getElem?_drop, List.getElem?_map, List.getElem?_map]
      have e : k + 1 + (i - ((((List.range w).map f).take k) ++ [a]).length) = i := by simp; omega
      rw [e]
      by_cases h3 : i < w
      · rw [List.getElem?_range h3]
        simp only [Option.map_some]
        rw [if_neg h2]
      · rw [List.getElem?_eq_none (by simp; omega)]
        rfl
theorem cut_toI {α : Type} {xs : List α} {i : Int} {n : Nat} (h : i = n) : cutL xs none (some i) = xs.take n := by subst h; exact cut_to
theorem cut_fromI {α : Type} {xs : List α} {i : Int} {n : Nat} (h : i = n) : cutL xs (some i) none = xs.drop n := by subst h; exact cut_from
def putG (f : Nat → Nat → PyData) (i j : Nat) (t : PyData) : Nat → Nat → PyData := fun a b => if a = i ∧ b = j then t else f a b
def P_exch : DP := fun rs C k e => match rs with
  | [.d R, .d s, .d t] => ∃ w h f x y, R = D3.grid w h f ∧ s = ptD (x, y) ∧ x < w ∧ y < h ∧ w ≤ 11 ∧ h ≤ 11 ∧ k (.d (D3.grid w h (putG f x y t))) C
  | _ => False
theorem put_grid {w h i j : Nat} {f : Nat → Nat → PyData} {t : PyData} (hi : i < w) (hj : j < h) : PyData.tuple (((List.range h).map fun y => PyData.tuple ((List.range w).map fun x => f x y)).take j ++ [.tuple (((List.range w).map fun x => f x j).take i ++ [t] ++ ((List.range w).map fun x => f x j).drop (i + 1))] ++ ((List.range h).map fun y => PyData.tuple ((List.range w).map fun x => f x y)).drop (j + 1)) = D3.grid w h (putG f i j t) := by
  rw [put_row hi, put_row hj]
  exact grid_put.symm
theorem h_exch (K : PySem.W.Frag) (A : Adr) : ∀ rs C k e, P_exch rs C k e → rs.length = 3 ∧ sem_p_exchanged K A (defEnds k) ⟨start3 5 rs, C⟩ (defExc e) := by
  intro rs C k e h
  letI : Tb := ⟨[]⟩
  unfold P_exch at h
  split at h
  · obtain ⟨w, h', f, x, y, rfl, rfl, hx, hy, hw, hh, hk⟩ := h
    refine ⟨rfl, ?_⟩
    unfold sem_p_exchanged
    rw [← put_grid hx hy] at hk
    unfold D3.grid ptD
    refine seq_abs fun v hv => ?_
    walk_at "d3"
    subst hv
    have c1 : ∀ (xs : List PyData), cutL xs none (some (y : Int)) = xs.take y := fun xs => cut_to
    have c2 : ∀ (xs : List PyData), cutL xs none (some (x : Int)) = xs.take x := fun xs => cut_to
    have c3 : ∀ (xs : List PyData), cutL xs (some ((y : Int) + 1)) none = xs.drop (y + 1) := fun xs => cut_fromI (n := y + 1) (by omega)
    have c4 : ∀ (xs : List PyData), cutL xs (some ((x : Int) + 1)) none = xs.drop (x + 1) := fun xs => cut_fromI (n := x + 1) (by omega)
    have ry : ((List.range h').map fun y => PyData.tuple ((List.range w).map fun x => f x y))[y]? = some (.tuple ((List.range w).map fun x => f x y)) := by
      rw [List.getElem?_map, List.getElem?_range hy]
      rfl
    walk_at "d3"
    have k1 : ∀ q : SV → Prop, atK ((List.range h').map fun y => PyData.tuple ((List.range w).map fun x => f x y)) (y : Int) q ↔ q (.d (.tuple ((List.range w).map fun x => f x y))) := fun q => at_iff rfl ry
    simp only [k1, c1, c2, c3, c4]
    try walk_at "d3"
    simp only [c1, c2, c3, c4] at *
    refine ⟨by simp [szl]; omega, by simp [szl]; omega, by simp [szl]; omega, by simp [szl]; omega, hk⟩
  · exact h.elim
def P_own_with : DP := fun rs C k e => match rs with
  | [.d d, .d s, .d t] => ∃ w h H W x y, d = fieldG w h H W ∧ s = ptD (x, y) ∧ x < w ∧ y < h ∧ w ≤ 11 ∧ h ≤ 11 ∧ k (.d (fieldG w h H (putG W x y t))) C
  | _ => False
theorem h_own_with (K : PySem.W.Frag) (A : Adr) : ∀ rs C k e, P_own_with rs C k e → rs.length = 3 ∧ sem_p_own_with K A P_exch (defEnds k) ⟨start3 3 rs, C⟩ (defExc e) := by
  intro rs C k e h
  letI : Tb := ⟨[]⟩
  unfold P_own_with at h
  split at h
  · obtain ⟨w, h', H, W, x, y, rfl, rfl, hx, hy, hw, hh, hk⟩ := h
    refine ⟨rfl, ?_⟩
    unfold sem_p_own_with
    unfold fieldG
    walk_at "d3"
    simp only [P_exch]
    refine ⟨w, h', W, x, y, rfl, rfl, hx, hy, hw, hh, ?_⟩
    try walk_at "d3"
    exact hk
  · exact h.elim
/-- the last of all: what is no worth -/
def P_with_worth (cB cS cF : Addr) : DP := fun rs C k e => match rs with
  | [.d d, .d t, .d u] => (∃ w h H W x y, d = fieldG w h H W ∧ GoodF w h H W ∧ t = ptD (x, y) ∧ x < w ∧ y < h ∧ (worthB u = true → k (.d (fieldG w h H (putG W x y u))) C) ∧ (worthB u = false → e ⟨cF, []⟩ C)) ∨
      (∃ w h H W, d = fieldG w h H W ∧ GoodF w h H W ∧ spotB w h t = false ∧ e ⟨cS, []⟩ C) ∨ ∃ p, faultD d = [p] ∧ e ⟨cB, [("place", p)]⟩ C
  | _ => False
theorem h_with_worth (K : PySem.W.Frag) (A : Adr) : ∀ rs C k e, P_with_worth A.c_BadField A.c_BadSpot A.c_BadFraction rs C k e → rs.length = 3 ∧ sem_p_with_worth K A (P_need_field A.c_BadField) (P_need_spot A.c_BadSpot) P_is_fraction P_own_with (defEnds k) ⟨start3 3 rs, C⟩ (defExc e) := by
  intro rs C k e h
  letI : Tb := ⟨[]⟩
  unfold P_with_worth at h
  split at h
  · rename_i d t u
    refine ⟨rfl, ?_⟩
    unfold sem_p_with_worth
    refine seq_abs fun v hv => ?_
    walk_at "d3"
    rcases h with ⟨w, h, H, W, x, y, rfl, g, rfl, hx, hy, hk, hf⟩ | ⟨w, h, H, W, rfl, g, z, he⟩ | ⟨p, z, he⟩
    · refine need_good g ?_
      subst hv
      refine seq_abs fun v hv => ?_
      walk_at "d3"
      refine spot_good g hx hy ?_
      subst hv
      refine seq_abs fun v hv => ?_
      walk_at "d3"
      simp only [P_is_fraction]
      try walk_at "d3"
      refine ⟨fun z => hf (by rw [frac_worth, z]; rfl), fun z => ?_⟩
      obtain ⟨a, b, rfl⟩ := frac_pair z
      have ew : worthB (.tuple [.int a, .int b]) = !(a == 0) := by rw [frac_worth, z]; rfl
      walk_at "d3"
      refine ⟨fun a0 => hf (by rw [ew, a0]; rfl), fun a0 => ?_⟩
      subst hv
      walk_at "d3"
      simp only [P_own_with]
      exact ⟨w, h, H, W, x, y, rfl, rfl, hx, hy, g.w2, g.h2, hk (by rw [ew, beq_eq_false_iff_ne.mpr a0]; rfl)⟩
    · refine need_good g ?_
      subst hv
      refine seq_abs fun v hv => ?_
      walk_at "d3"
      exact spot_bad g z he
    · exact need_bad z he
  · exact h.elim
/-! ### the law's own -/
def P_lspots : DP := fun rs C k e => match rs with
  | [.d (.int w), .d (.int h)] => ∃ W H : Nat, w = W ∧ h = H ∧ W ≤ 11 ∧ H ≤ 11 ∧ k (.d (.list (spotsD W H))) C
  | _ => False
theorem h_lspots (K : PySem.W.Frag) (A : Adr) : ∀ rs C k e, P_lspots rs C k e → rs.length = 2 ∧ sem_u_law_spots K A (defEnds k) ⟨start3 5 rs, C⟩ (defExc e) := by
  intro rs C k e h
  letI : Tb := ⟨[]⟩
  unfold P_lspots at h
  split at h
  · obtain ⟨w, h, rfl, rfl, hw, hh, hk⟩ := h
    refine ⟨rfl, ?_⟩
    unfold sem_u_law_spots
    refine seq_abs fun v hv => ?_
    walk_at "d3"
    subst hv
    refine seq_abs fun v hv => ?_
    walk_at "d3"
    rw [Int.toNat_natCast]
    refine ⟨by unfold D3.inR; omega, ?_⟩
    refine loop_range (fun x S => ∃ g3 : Option SV, S = ⟨[some (.d (.int w)), some (.d (.int h)), some (.own (spotsD x h)), g3, none], C⟩) ⟨_, rfl⟩ ?_ ?_
    · rintro x hx S N ⟨g3, rfl⟩ hN
      walk_at "d3"
      rw [Int.toNat_natCast, rangeD_0]
      refine ⟨⟨_, rfl⟩, by unfold D3.inR; omega, ?_⟩
      refine comp_map rfl (fun d => match d with
        | .int y => .tuple [.int x, .int y]
        | d => d) (fun d hd N3 hN3 => ?_) (by simp [szl]; omega) ?_
      · obtain ⟨y, hy, rfl⟩ := List.mem_map.mp hd
        walk_at "d3"
        exact hN3 _ rfl
      · try walk_at "d3"
        have hm : x * h ≤ 11 * 11 := Nat.mul_le_mul (by omega) hh
        refine ⟨by rw [spots_len]; simp; omega, hN _ ⟨some (.d (.int x)), ?_⟩⟩
        have e1 : spotsD (x + 1) h = spotsD x h ++ (List.range h).map fun (y : Nat) => PyData.tuple [.int x, .int y] := by
          unfold spotsD
          rw [List.range_succ, List.flatMap_append]
          simp
        rw [e1, List.map_map]
        rfl
    · rintro S ⟨g3, rfl⟩
      subst hv
      walk_at "d3"
      exact hk
  · exact h.elim
def P_near : DP := fun rs C k e => match rs with
  | [.d L, .d t] => ∃ w h x y, L = .list (spotsD w h) ∧ w ≤ 11 ∧ h ≤ 11 ∧ t = ptD (x, y) ∧ x < w ∧ y < h ∧ k (.d (.tuple ((nbP w h x y).map ptD))) C
  | _ => False
theorem h_near (K : PySem.W.Frag) (A : Adr) : ∀ rs C k e, P_near rs C k e → rs.length = 2 ∧ sem_u_law_near K A (defEnds k) ⟨start3 5 rs, C⟩ (defExc e) := by
  intro rs C k e h
  letI : Tb := ⟨[]⟩
  unfold P_near at h
  split at h
  · obtain ⟨w, h, x, y, rfl, hw, hh, rfl, hx, hy, hk⟩ := h
    refine ⟨rfl, ?_⟩
    unfold sem_u_law_near
    unfold ptD
    refine seq_abs fun v hv => ?_
    walk_at "d3"
    subst hv
    walk_at "d3"
    have hm : w * h ≤ 11 * 11 := Nat.mul_le_mul hw hh
    refine comp_fm (S := ⟨[some (.d (.list (spotsD w h))), some (.d (.tuple [.int x, .int y])), some (.d (.int x)), some (.d (.int y)), none], C⟩) rfl (fun d => match d with
      | .tuple [.int a, .int b] => if (a - x).natAbs + (b - y).natAbs = 1 then some (.tuple [.int a, .int b]) else none
      | _ => none) _ [] (fun d hd N M hN hM => ?_) (by rw [spots_len, List.length_nil, szl]; omega) ?_
    · obtain ⟨a, b, ha, hb, rfl⟩ := spots_mem hd
      walk_at "d3"
      simp only [absif]
      refine ⟨fun z => hN _ _ ?_ rfl, fun z => hM _ ?_ rfl⟩
      · simp only
        rw [if_pos (by omega)]
      · simp only
        rw [if_neg (by omega)]
    · have e1 : (spotsD w h).filterMap (fun d => match d with
        | .tuple [.int a, .int b] => if (a - (x : Int)).natAbs + (b - (y : Int)).natAbs = 1 then some (PyData.tuple [.int a, .int b]) else none
        | _ => none) = (nbP w h x y).map ptD := by
        rw [spots_map, ← near_eq hx hy]
        refine fm_filter _ _ _ _ fun p _ => ?_
        unfold ptD nearB
        simp only [decide_eq_true_eq]
      rw [e1]
      walk_at "d3"
      exact hk
  · exact h.elim
theorem sm_pt {p : Nat × Nat} (h1 : p.1 ≤ 100) (h2 : p.2 ≤ 100) : Sm 1 3850 (ptD p) := by
  refine (Sm.tup (n := 0) (c := 1921) (l := 2) (fun d hd => ?_) (by simp)).up (by decide) (by decide)
  simp only [List.mem_cons, List.not_mem_nil, or_false] at hd
  rcases hd with rfl | rfl
  · exact Sm.int (small1000 (m := 100) (by omega) (by decide))
  · exact Sm.int (small1000 (m := 100) (by omega) (by decide))
theorem sh_pts {L : List (Nat × Nat)} : SeqAt.shaped (.list (L.map ptD)) = true := by
  have a : PyData.canLayAll0 (L.map ptD) = true := by
    induction L with
    | nil => simp [PyData.canLayAll0]
    | cons p r ih => simp [PyData.canLayAll0, ptD, PyData.canLay0, ih]
  have b : PyData.depthAll (L.map ptD) ≤ 1 := by
    induction L with
    | nil => simp [PyData.depthAll]
    | cons p r ih =>
      simp only [List.map_cons, PyData.depthAll, ptD, PyData.depth]
      simp only [PyData.canLayAll0, List.map_cons, Bool.and_eq_true] at a
      have := ih a.2
      omega
  simp only [SeqAt.shaped, PyData.canLay0, PyData.depth, a, Bool.true_and]
  exact decide_eq_true (by omega)
theorem sh_pt {p : Nat × Nat} : SeqAt.shaped (ptD p) = true := by
  simp [ptD, SeqAt.shaped, PyData.canLay0, PyData.canLayAll0, PyData.depth, PyData.depthAll]
theorem pt_eqv {p q : Nat × Nat} : PyData.eqv (ptD p) (ptD q) = decide (p = q) := by
  unfold ptD
  rw [eqv_tuple, eqv_cons, eqv_cons, eqv_nil, eqv_int, eqv_int, Bool.eq_iff_iff]
  simp only [Bool.and_eq_true, beq_iff_eq, decide_eq_true_eq, Bool.and_true]
  obtain ⟨a, b⟩ := p
  obtain ⟨c, d⟩ := q
  simp only [Prod.mk.injEq]
  omega
theorem in_pts {p : Nat × Nat} {L : List (Nat × Nat)} : inD (ptD p) (L.map ptD) = L.any fun q => decide (q = p) := by
  unfold inD
  rw [List.any_map]
  congr 1
  funext q
  exact pt_eqv
theorem in_inner {w h x y : Nat} (hx : x < w) (hy : y < h) : inD (ptD (x, y)) (innerD w h) = !rimB w h x y := by
  unfold innerD
  rw [in_pts, Bool.eq_iff_iff, List.any_eq_true]
  simp only [List.mem_filter, mem_spotsP, decide_eq_true_eq, Bool.not_eq_true']
  constructor
  · rintro ⟨q, ⟨_, r⟩, rfl⟩
    simpa using r
  · intro r
    exact ⟨(x, y), ⟨⟨hx, hy⟩, by simpa using r⟩, rfl⟩
def P_lwhole : DP := fun rs C k e => match rs with
  | [.d d] => ∃ w h H W, d = fieldG w h H W ∧ GoodF w h H W ∧ k (.d (.bool true)) C
  | _ => False
theorem h_lwhole (K : PySem.W.Frag) (A : Adr) : ∀ rs C k e, P_lwhole rs C k e → rs.length = 1 ∧ sem_u_law_whole_right K A P_lspots P_near (P_inner A.c_BadField) (P_rim A.c_BadField) (P_spots A.c_BadField) (P_board A.c_BadField) (defEnds k) ⟨start3 9 rs, C⟩ (defExc e) := by
  intro rs C k e h
  letI : Tb := ⟨[]⟩
  unfold P_lwhole at h
  split at h
  · obtain ⟨w, h, H, W, rfl, g, hk⟩ := h
    have g1 := g.w2
    have g2 := g.h2
    have g0 := g.h1
    have hm : w * h ≤ 11 * 11 := Nat.mul_le_mul g1 g2
    refine ⟨rfl, ?_⟩
    unfold sem_u_law_whole_right
    have row0 : ((List.range h).map fun y => PyData.tuple ((List.range w).map fun x => PyData.int (H x y)))[0]? = some (.tuple ((List.range w).map fun x => PyData.int (H x 0))) := by
      rw [List.getElem?_map, List.getElem?_range (show 0 < h from g0)]
      rfl
    generalize eF : fieldG w h H W = F
    refine seq_abs fun v hv => ?_
    rw [← eF]
    unfold fieldG
    rw [show (D3.grid w h fun x y => PyData.int (H x y)) = .tuple ((List.range h).map fun y => PyData.tuple ((List.range w).map fun x => PyData.int (H x y))) from rfl]
    walk_at "d3"
    rw [at_iff (i := 0) (n := 0) rfl row0]
    try walk_at "d3"
    simp only [List.length_map, List.length_range]
    rw [show (PyData.tuple [.tuple ((List.range h).map fun y => PyData.tuple ((List.range w).map fun x => PyData.int (H x y))), D3.grid w h W]) = F from eF]
    subst hv
    refine seq_abs fun v hv => ?_
    walk_at "d3"
    simp only [P_lspots]
    refine ⟨w, h, rfl, rfl, g1, g2, ?_⟩
    try walk_at "d3"
    subst hv
    refine seq_abs fun v hv => ?_
    walk_at "d3"
    refine comp_fm rfl (innF w h) _ [] (fun d hd N M hN hM => ?_) (by rw [spots_len, List.length_nil, szl]; omega) ?_
    · obtain ⟨x, y, hx, hy, rfl⟩ := spots_mem hd
      walk_at "d3"
      simp only [P_near]
      refine ⟨w, h, x, y, rfl, g1, g2, rfl, hx, hy, ?_⟩
      try walk_at "d3"
      have four := nbP_four hx hy
      refine ⟨fun z => hN _ _ ?_ rfl, fun z => hM _ ?_ rfl⟩
      · have z : ((nbP w h x y).length : Int) = 4 := by simpa using z
        have r : rimB w h x y = false := four.mp (by omega)
        simp [innF, rimF, rimI_eq g.w1 g.h1, r]
      · have r : rimB w h x y = true := by
          cases q : rimB w h x y
          · have z : ¬ ((nbP w h x y).length : Int) = 4 := by simpa using z
            have := four.mpr q
            omega
          · rfl
        simp [innF, rimF, rimI_eq g.w1 g.h1, r]
    · rw [inner_fm g.w1 g.h1]
      try walk_at "d3"
      subst hv
      refine seq_abs fun v hv => ?_
      walk_at "d3"
      refine comp_fmI (fun S => ∃ r4 : SV, (r4 = .own (innerD w h) ∨ r4 = .d (.list (innerD w h))) ∧ S = ⟨[some (.d F), some (.d (.int w)), some (.d (.int h)), some (.d (.list (spotsD w h))), some r4, none, none, none, none], C⟩) (fun S z => by obtain ⟨_, _, rfl⟩ := z; rfl) (rimF w h) _ [] _ ⟨_, .inl rfl, rfl⟩ (fun d hd S hS N M hN hM => ?_) (by rw [spots_len, List.length_nil, szl]; omega) ?_
      · obtain ⟨x, y, hx, hy, rfl⟩ := spots_mem hd
        have hN2 := hN
        obtain ⟨r4, hr, rfl⟩ := hS
        have go : gInB true (.d (ptD (x, y))) (.d (.list (innerD w h))) fun r => match r with
            | .d (.bool b) => (b = true → N (ptD (x, y)) ⟨[some (.d F), some (.d (.int w)), some (.d (.int h)), some (.d (.list (spotsD w h))), some (.d (.list (innerD w h))), some (.d (ptD (x, y))), none, none, none], C⟩) ∧ (b = false → M ⟨[some (.d F), some (.d (.int w)), some (.d (.int h)), some (.d (.list (spotsD w h))), some (.d (.list (innerD w h))), some (.d (ptD (x, y))), none, none, none], C⟩)
            | _ => False := by
          refine ⟨.inr ⟨sh_pt, sh_pts⟩, ?_⟩
          rw [in_inner hx hy]
          have ef : rimF w h (ptD (x, y)) = if rimB w h x y = true then some (ptD (x, y)) else none := by
            unfold ptD
            simp only [rimF, rimI_eq g.w1 g.h1]
          refine ⟨fun z => hN _ _ ?_ ⟨_, .inr rfl, rfl⟩, fun z => hM _ ?_ ⟨_, .inr rfl, rfl⟩⟩
          · rw [show PyData.tuple [.int (x : Int), .int (y : Int)] = ptD (x, y) from rfl, ef, if_pos (by simpa using z)]
          · rw [show PyData.tuple [.int (x : Int), .int (y : Int)] = ptD (x, y) from rfl, ef, if_neg (by simpa using z)]
        rcases hr with rfl | rfl
        · walk_at "d3"
          exact go
        · walk_at "d3"
          exact go
      · rintro S ⟨r4, hr, rfl⟩
        rw [rims_fm g.w1 g.h1]
        try walk_at "d3"
        subst hv
        refine seq_abs fun v hv => ?_
        walk_at "d3"
        refine .inl ⟨w, h, H, W, eF.symm, g, ?_⟩
        try walk_at "d3"
        refine .inl ⟨w, h, H, W, eF.symm, g, ?_⟩
        try walk_at "d3"
        refine .inl ⟨w, h, H, W, eF.symm, g, ?_⟩
        try walk_at "d3"
        refine .inl ⟨w, h, H, W, eF.symm, g, ?_⟩
        simp only [allD]
        refine ⟨by simp, ?_⟩
        have sp : ∀ L : List (Nat × Nat), (∀ p ∈ L, p ∈ spotsP w h) → L.length ≤ w * h → Sm 2 500000 (.tuple (L.map ptD)) := fun L hL hl => by
          refine (Sm.tup (n := 1) (c := 3850) (l := 121) (fun d hd => ?_) (by simp; omega)).up (by decide) (by decide)
          obtain ⟨p, hp, rfl⟩ := List.mem_map.mp hd
          have := mem_spotsP.mp (hL p hp)
          exact sm_pt (by omega) (by omega)
        have S : Sm 3 3000000 (.list [.tuple [.int w, .int h], .tuple (spotsD w h), .tuple (rimsD w h), .tuple (innerD w h)]) := by
          refine (Sm.lst (n := 2) (c := 500000) (l := 4) (fun d hd => ?_) (by simp)).up (by decide) (by decide)
          simp only [List.mem_cons, List.not_mem_nil, or_false] at hd
          rcases hd with rfl | rfl | rfl | rfl
          · exact (sm_pt (p := (w, h)) (by show w ≤ 100; omega) (by show h ≤ 100; omega)).up (by decide) (by decide)
          · rw [spots_map]
            exact sp _ (fun p hp => hp) (by rw [spotsP_len]; omega)
          · exact sp _ (fun p hp => (List.mem_filter.mp hp).1) (Nat.le_trans (List.length_filter_le _ _) (by rw [spotsP_len]; omega))
          · exact sp _ (fun p hp => (List.mem_filter.mp hp).1) (Nat.le_trans (List.length_filter_le _ _) (by rw [spotsP_len]; omega))
        rcases hr with rfl | rfl
        · subst hv
          refine seq_abs fun v hv => ?_
          walk_at "d3"
          subst hv
          walk_at "d3"
          refine reprS S (reprS S ?_)
          walk_at "d3"
          rw [beq_self_eq_true]
          exact hk
        · subst hv
          refine seq_abs fun v hv => ?_
          walk_at "d3"
          subst hv
          walk_at "d3"
          refine reprS S (reprS S ?_)
          walk_at "d3"
          rw [beq_self_eq_true]
          exact hk
  · exact h.elim
theorem gEqE_lst {xs ys : List PyData} {k : SV → Prop} (h : SeqAt.shaped (.list xs) = true) (h2 : SeqAt.shaped (.list ys) = true) (q : k (.d (.bool (PyData.eqvAll xs ys)))) : gEqE (.d (.list xs)) (.d (.list ys)) k := by
  cases ys with
  | nil =>
    rw [eqE_lst0]
    cases xs with
    | nil => simpa [PyData.eqvAll] using q
    | cons x r => simpa [PyData.eqvAll] using q
  | cons y r =>
    refine ⟨h, h2, ?_⟩
    rw [eqv_list]
    exact q
theorem grid_rows {w h : Nat} {f : Nat → Nat → PyData} : D3.grid w h f = .tuple ((List.range h).map fun y => PyData.tuple ((List.range w).map fun x => f x y)) := rfl
theorem grid_row {w h y : Nat} {f : Nat → Nat → PyData} (hy : y < h) : ((List.range h).map fun y => PyData.tuple ((List.range w).map fun x => f x y))[y]? = some (.tuple ((List.range w).map fun x => f x y)) := by
  rw [List.getElem?_map, List.getElem?_range hy]
  rfl
theorem row_at {w x : Nat} {f : Nat → PyData} (hx : x < w) : ((List.range w).map f)[x]? = some (f x) := by
  rw [List.getElem?_map, List.getElem?_range hx]
  rfl
theorem at_row {w h y : Nat} {f : Nat → Nat → PyData} {i : Int} {k : SV → Prop} (hy : y < h) (e : i = (y : Nat)) : atK ((List.range h).map fun y => PyData.tuple ((List.range w).map fun x => f x y)) i k ↔ k (.d (.tuple ((List.range w).map fun x => f x y))) := at_iff e (grid_row hy)
theorem at_cel {w x : Nat} {f : Nat → PyData} {i : Int} {k : SV → Prop} (hx : x < w) (e : i = (x : Nat)) : atK ((List.range w).map f) i k ↔ k (.d (f x)) := at_iff e (row_at hx)
theorem sm_worth {w h x y : Nat} {H : Nat → Nat → Int} {W : Nat → Nat → PyData} (s : SmF w h H W) (hx : x < w) (hy : y < h) : Sm 1 3850 (W x y) := s.ws x hx y hy
theorem sm_nb {w h x y : Nat} (hx : x < w) (hy : y < h) (hw : w ≤ 11) (hh : h ≤ 11) : Sm 2 500000 (.tuple ((nbP w h x y).map ptD)) := by
  refine (Sm.tup (n := 1) (c := 3850) (l := 121) (fun d hd => ?_) ?_).up (by decide) (by decide)
  · obtain ⟨p, hp, rfl⟩ := List.mem_map.mp hd
    have := (mem_nbP hx hy).mp hp
    exact sm_pt (by omega) (by omega)
  · rw [List.length_map, ← near_eq hx hy]
    have hm : w * h ≤ 11 * 11 := Nat.mul_le_mul hw hh
    exact Nat.le_trans (List.length_filter_le _ _) (by rw [spotsP_len]; omega)
def P_lspot : DP := fun rs C k e => match rs with
  | [.d d, .d s, .d o] => ∃ w h H W x y a b, d = fieldG w h H W ∧ GoodF w h H W ∧ SmF w h H W ∧ s = ptD (x, y) ∧ o = ptD (a, b) ∧ x < w ∧ y < h ∧ a < w ∧ b < h ∧ k (.d (.bool true)) C
  | _ => False
theorem h_lspot (K : PySem.W.Frag) (A : Adr) : ∀ rs C k e, P_lspot rs C k e → rs.length = 3 ∧ sem_u_law_spot_right K A P_lspots (P_worth_of A.c_BadField A.c_BadSpot) (P_height_at A.c_BadField A.c_BadSpot) (P_neighbours A.c_BadField A.c_BadSpot) P_near P_way (defEnds k) ⟨start3 8 rs, C⟩ (defExc e) := by
  intro rs C k e h
  letI : Tb := ⟨[]⟩
  unfold P_lspot at h
  split at h
  · obtain ⟨w, h, H, W, x, y, a, b, rfl, g, sm, rfl, rfl, hx, hy, ha, hb, hk⟩ := h
    have g1 := g.w2
    have g2 := g.h2
    have g0 := g.h1
    have hm : w * h ≤ 11 * 11 := Nat.mul_le_mul g1 g2
    refine ⟨rfl, ?_⟩
    unfold sem_u_law_spot_right
    refine seq_abs fun v hv => ?_
    have eF : fieldG w h H W = .tuple [.tuple ((List.range h).map fun y => PyData.tuple ((List.range w).map fun x => PyData.int (H x y))), .tuple ((List.range h).map fun y => PyData.tuple ((List.range w).map fun x => W x y))] := rfl
    generalize fieldG w h H W = F at eF
    subst eF
    walk_at "d3"
    rw [at_row (i := 0) (y := 0) g0 rfl]
    try walk_at "d3"
    simp only [List.length_map, List.length_range, P_lspots]
    refine ⟨w, h, rfl, rfl, g1, g2, ?_⟩
    try walk_at "d3"
    subst hv
    refine seq_abs fun v hv => ?_
    rw [pt_pair]
    walk_at "d3"
    subst hv
    refine seq_abs fun v hv => ?_
    rw [← pt_pair]
    have eF : PyData.tuple [.tuple ((List.range h).map fun y => PyData.tuple ((List.range w).map fun x => PyData.int (H x y))), .tuple ((List.range h).map fun y => PyData.tuple ((List.range w).map fun x => W x y))] = fieldG w h H W := rfl
    rw [eF]
    walk_at "d3"
    refine .inl ⟨w, h, H, W, x, y, rfl, g, rfl, hx, hy, ?_⟩
    try walk_at "d3"
    refine .inl ⟨w, h, H, W, x, y, rfl, g, rfl, hx, hy, ?_⟩
    simp only [allD]
    refine ⟨by simp, ?_⟩
    have S2 : Sm 2 20000 (.list [.int (H x y), W x y]) := by
      refine (Sm.lst (n := 1) (c := 3850) (l := 2) (fun d hd => ?_) (by simp)).up (by decide) (by decide)
      simp only [List.mem_cons, List.not_mem_nil, or_false] at hd
      rcases hd with rfl | rfl
      · exact (Sm.int (sm.hs x hx y hy)).up (by decide) (by decide)
      · exact sm.ws x hx y hy
    subst hv
    refine seq_abs fun v hv => ?_
    rw [← eF]
    walk_at "d3"
    refine reprS S2 ?_
    rw [at_row hy rfl]
    try walk_at "d3"
    rw [at_cel hx rfl]
    try walk_at "d3"
    rw [at_row hy rfl]
    try walk_at "d3"
    rw [at_cel hx rfl]
    try walk_at "d3"
    refine reprS S2 ?_
    try walk_at "d3"
    subst hv
    refine seq_abs fun v hv => ?_
    rw [eF]
    walk_at "d3"
    refine .inl ⟨w, h, H, W, x, y, rfl, g, rfl, hx, hy, ?_⟩
    refine reprS (sm_nb hx hy g1 g2) ?_
    try walk_at "d3"
    simp only [P_near]
    refine ⟨w, h, x, y, rfl, g1, g2, rfl, hx, hy, ?_⟩
    try walk_at "d3"
    refine reprS (sm_nb hx hy g1 g2) ?_
    try walk_at "d3"
    subst hv
    refine seq_abs fun v hv => ?_
    rw [show ptD (a, b) = .tuple [.int (a : Nat), .int (b : Nat)] from rfl]
    walk_at "d3"
    simp only [absif]
    subst hv
    rw [pt_pair]
    walk_at "d3"
    simp only [P_way]
    try walk_at "d3"
    rw [show (((a : Int) - x).natAbs : Int) = (((x : Int) - a).natAbs : Int) by omega, show (((b : Int) - y).natAbs : Int) = (((y : Int) - b).natAbs : Int) by omega]
    have shp : ∀ i : Int, SeqAt.shaped (.list [.int i, .int i]) = true := fun i => by simp [SeqAt.shaped, PyData.canLay0, PyData.canLayAll0, PyData.depth, PyData.depthAll]
    refine gEqE_lst (shp _) (shp _) ?_
    simp only [eqv_cons, eqv_int, eqv_nil, beq_self_eq_true, Bool.and_true]
    exact hk
  · exact h.elim
def P_lwith : DP := fun rs C k e => match rs with
  | [.d d, .d s, .d u] => ∃ w h H W x y, d = fieldG w h H W ∧ GoodF w h H W ∧ SmF w h H W ∧ s = ptD (x, y) ∧ x < w ∧ y < h ∧ worthB u = true ∧ Sm 1 3850 u ∧ k (.d (.bool true)) C
  | _ => False
theorem h_lwith (K : PySem.W.Frag) (A : Adr) : ∀ rs C k e, P_lwith rs C k e → rs.length = 3 ∧ sem_u_law_with_right K A (P_with_worth A.c_BadField A.c_BadSpot A.c_BadFraction) (defEnds k) ⟨start3 8 rs, C⟩ (defExc e) := by
  intro rs C k e h
  letI : Tb := ⟨[]⟩
  unfold P_lwith at h
  split at h
  · rename_i d s u
    obtain ⟨w, h, H, W, x, y, rfl, g, sm, rfl, hx, hy, hu, su, hk⟩ := h
    have g1 := g.w2
    have g2 := g.h2
    have g0 := g.h1
    refine ⟨rfl, ?_⟩
    unfold sem_u_law_with_right
    have c1 : ∀ (xs : List PyData), cutL xs none (some (y : Int)) = xs.take y := fun xs => cut_to
    have c2 : ∀ (xs : List PyData), cutL xs none (some (x : Int)) = xs.take x := fun xs => cut_to
    have c3 : ∀ (xs : List PyData), cutL xs (some ((y : Int) + 1)) none = xs.drop (y + 1) := fun xs => cut_fromI (n := y + 1) (by omega)
    have c4 : ∀ (xs : List PyData), cutL xs (some ((x : Int) + 1)) none = xs.drop (x + 1) := fun xs => cut_fromI (n := x + 1) (by omega)
    refine seq_abs fun v hv => ?_
    rw [pt_pair]
    walk_at "d3"
    have eF : fieldG w h H W = .tuple [D3.grid w h fun x y => .int (H x y), .tuple ((List.range h).map fun y => PyData.tuple ((List.range w).map fun x => W x y))] := rfl
    subst hv
    refine seq_abs fun v hv => ?_
    rw [eF]
    walk_at "d3"
    rw [at_row hy rfl]
    try walk_at "d3"
    subst hv
    refine seq_abs fun v hv => ?_
    walk_at "d3"
    simp only [c1, c2, c3, c4]
    refine ⟨by simp [szl]; omega, by simp [szl]; omega, ?_⟩
    subst hv
    refine seq_abs fun v hv => ?_
    walk_at "d3"
    simp only [c1, c2, c3, c4]
    refine ⟨by simp [szl]; omega, by simp [szl]; omega, ?_⟩
    rw [put_grid hx hy, ← eF, ← pt_pair]
    subst hv
    refine seq_abs fun v hv => ?_
    walk_at "d3"
    refine .inl ⟨w, h, H, W, x, y, rfl, g, rfl, hx, hy, fun _ => ?_, fun z => by rw [hu] at z; cases z⟩
    try walk_at "d3"
    subst hv
    walk_at "d3"
    have S : Sm 4 1600000 (fieldG w h H (putG W x y u)) := SmF.sm ⟨sm.hs, fun a ha b hb => by
      unfold putG
      split
      · exact su
      · exact sm.ws a ha b hb⟩ g1 g2
    refine reprS S (reprS S ?_)
    walk_at "d3"
    have e9 : PyData.tuple [D3.grid w h fun x y => PyData.int (H x y), D3.grid w h (putG W x y u)] = fieldG w h H (putG W x y u) := rfl
    rw [e9, beq_self_eq_true]
    exact hk
  · exact h.elim
/-- what is no spot -/
def P_nospot : DP := fun rs C k e => match rs with
  | [.d d, .d (.int n)] => ∃ w h H W, d = fieldG w h H W ∧ GoodF w h H W ∧ ∀ t, spotB w h t = false → k (.d t) C
  | _ => False
theorem h_nospot (K : PySem.W.Frag) (A : Adr) : ∀ rs C k e, P_nospot rs C k e → rs.length = 2 ∧ sem_u_law_no_spot K A (defEnds k) ⟨start3 5 rs, C⟩ (defExc e) := by
  intro rs C k e h
  letI : Tb := ⟨[]⟩
  unfold P_nospot at h
  split at h
  · rename_i d n
    obtain ⟨w, h, H, W, rfl, g, hk⟩ := h
    have g0 := g.h1
    refine ⟨rfl, ?_⟩
    unfold sem_u_law_no_spot
    refine seq_abs fun v hv => ?_
    have eF : fieldG w h H W = .tuple [.tuple ((List.range h).map fun y => PyData.tuple ((List.range w).map fun x => PyData.int (H x y))), .tuple ((List.range h).map fun y => PyData.tuple ((List.range w).map fun x => W x y))] := rfl
    generalize fieldG w h H W = F at eF
    subst eF
    walk_at "d3"
    rw [at_row (i := 0) (y := 0) g0 rfl]
    try walk_at "d3"
    simp only [List.length_map, List.length_range]
    subst hv
    refine seq_abs fun v hv => ?_
    walk_at "d3"
    subst hv
    refine seq_abs fun v hv => ?_
    walk_at "d3"
    subst hv
    walk_at "d3"
    obtain ⟨a0, a1⟩ := fm_of (x := n) (y := 16) (by decide)
    refine at_any a0 (by simpa using a1) fun t ht => hk t ?_
    simp only [List.mem_cons, List.not_mem_nil, or_false] at ht
    rcases ht with h | h | h | h | h | h | h | h | h | h | h | h | h | h | h | h <;> subst h <;> first | rfl | (simp only [spotB]; exact decide_eq_false (by omega))
  · exact h.elim
theorem fault_short {d : PyData} (h : ∀ a b, d ≠ .tuple [a, b]) : faultD d = [.none] := by
  unfold faultD
  split
  · rename_i a b
    exact absurd rfl (h a b)
  · rfl
def P_lref : DP := fun rs C k e => match rs with
  | [.d d, .d (.int n)] => ∃ w h H W, d = fieldG w h H W ∧ GoodF w h H W ∧ k (.d (.bool true)) C
  | _ => False
theorem h_lref (K : PySem.W.Frag) (A : Adr) : ∀ rs C k e, P_lref rs C k e → rs.length = 2 ∧ sem_u_law_refused_right K A P_nospot (P_height_at A.c_BadField A.c_BadSpot) (P_worth_of A.c_BadField A.c_BadSpot) (P_neighbours A.c_BadField A.c_BadSpot) (P_with_worth A.c_BadField A.c_BadSpot A.c_BadFraction) (P_board A.c_BadField) (P_spots A.c_BadField) (P_rim A.c_BadField) (P_inner A.c_BadField) (PG_asked A.c_BadField A.c_BadSpot A.c_BadFraction) (defEnds k) ⟨start3 8 rs, C⟩ (defExc e) := by
  intro rs C k e h
  letI : Tb := ⟨[]⟩
  unfold P_lref at h
  split at h
  · rename_i d n
    obtain ⟨w, h, H, W, rfl, g, hk⟩ := h
    have g0 := g.h1
    have gw := g.w1
    refine ⟨rfl, ?_⟩
    unfold sem_u_law_refused_right
    refine seq_abs fun v hv => ?_
    walk_at "d3"
    simp only [P_nospot]
    refine ⟨w, h, H, W, rfl, g, fun t hz => ?_⟩
    try walk_at "d3"
    subst hv
    refine seq_abs fun v hv => ?_
    walk_at "d3"
    obtain ⟨a0, a1⟩ := fm_of (x := n.fdiv 16) (y := 8) (by decide)
    refine ⟨divOk (a := 4) (by decide) (by decide) (by decide), at_any a0 (by simpa using a1) fun u hu => ?_⟩
    have bu : worthB u = false := by
      simp only [List.mem_cons, List.not_mem_nil, or_false] at hu
      rcases hu with h | h | h | h | h | h | h | h <;> subst h <;> decide
    subst hv
    refine seq_abs fun v hv => ?_
    have eF : fieldG w h H W = .tuple [D3.grid w h fun x y => .int (H x y), D3.grid w h W] := rfl
    rw [eF]
    walk_at "d3"
    obtain ⟨b0, b1⟩ := fm_of (x := n.fdiv 128) (y := 4) (by decide)
    have c1 : cutL [D3.grid w h fun x y => PyData.int (H x y), D3.grid w h W] none (some 1) = [D3.grid w h fun x y => PyData.int (H x y)] := cut_toI (n := 1) rfl
    rw [c1]
    refine ⟨divOk (a := 7) (by decide) (by decide) (by decide), at_any b0 (by simpa using b1) fun z hz2 => ?_⟩
    have fz : faultD z = [.none] := by
      simp only [List.mem_cons, List.not_mem_nil, or_false] at hz2
      rcases hz2 with h | h | h | h <;> subst h <;> rfl
    rw [← eF]
    clear hz2 hu
    subst hv
    refine seq_abs fun v hv => ?_
    walk_at "d3"
    subst hv
    refine seq_abs fun v hv => ?_
    walk_at "d3"
    simp only [dLamCall, PG_asked, thP, frzG, frz1, hideOwn, List.getElem?_cons_zero, List.getElem?_cons_succ, List.map_cons, List.map_nil]
    intro K1 E1 hd1 hf1 hs1 hc1
    walk_at "d3"
    refine .inr (.inl ⟨w, h, H, W, rfl, g, hz, hs1 _ ?_⟩)
    try walk_at "d3"
    subst hv
    refine seq_abs fun v hv => ?_
    walk_at "d3"
    simp only [dLamCall, PG_asked, thP, frzG, frz1, hideOwn, List.getElem?_cons_zero, List.getElem?_cons_succ, List.map_cons, List.map_nil]
    refine ⟨⟨_, rfl⟩, ?_⟩
    intro K1 E1 hd1 hf1 hs1 hc1
    walk_at "d3"
    refine .inr (.inl ⟨w, h, H, W, rfl, g, hz, hs1 _ ?_⟩)
    try walk_at "d3"
    subst hv
    refine seq_abs fun v hv => ?_
    walk_at "d3"
    simp only [dLamCall, PG_asked, thP, frzG, frz1, hideOwn, List.getElem?_cons_zero, List.getElem?_cons_succ, List.map_cons, List.map_nil]
    refine ⟨⟨_, rfl⟩, ?_⟩
    intro K1 E1 hd1 hf1 hs1 hc1
    walk_at "d3"
    refine .inr (.inl ⟨w, h, H, W, rfl, g, hz, hs1 _ ?_⟩)
    try walk_at "d3"
    subst hv
    refine seq_abs fun v hv => ?_
    walk_at "d3"
    simp only [dLamCall, PG_asked, thP, frzG, frz1, hideOwn, List.getElem?_cons_zero, List.getElem?_cons_succ, List.map_cons, List.map_nil]
    refine ⟨⟨_, rfl⟩, ?_⟩
    intro K1 E1 hd1 hf1 hs1 hc1
    walk_at "d3"
    refine .inr (.inl ⟨w, h, H, W, rfl, g, hz, hs1 _ ?_⟩)
    try walk_at "d3"
    subst hv
    refine seq_abs fun v hv => ?_
    walk_at "d3"
    have er : repL [PyData.str "spot"] 4 = [.str "spot", .str "spot", .str "spot", .str "spot"] := rfl
    rw [er]
    have sh4 : SeqAt.shaped (.list [.str "spot", .str "spot", .str "spot", .str "spot"]) = true := by decide +kernel
    refine ⟨by unfold D3.inR; decide, by decide, gNeE_lst sh4 sh4 ?_⟩
    have ev : PyData.eqvAll [.str "spot", .str "spot", .str "spot", .str "spot"] [.str "spot", .str "spot", .str "spot", .str "spot"] = true := by simp [PyData.eqvAll, PyData.eqv]
    rw [ev]
    refine ⟨fun z => (by cases z), fun _ => ?_⟩
    subst hv
    refine seq_abs fun v hv => ?_
    walk_at "d3"
    simp only [dLamCall, PG_asked, thP, frzG, frz1, hideOwn, List.getElem?_cons_zero, List.getElem?_cons_succ, List.map_cons, List.map_nil]
    intro K1 E1 hd1 hf1 hs1 hc1
    walk_at "d3"
    refine .inl ⟨w, h, H, W, 0, 0, rfl, g, rfl, gw, g0, fun z => (by rw [bu] at z; cases z), fun _ => hc1 _ ?_⟩
    try walk_at "d3"
    subst hv
    refine seq_abs fun v hv => ?_
    walk_at "d3"
    simp only [dLamCall, PG_asked, thP, frzG, frz1, hideOwn, List.getElem?_cons_zero, List.getElem?_cons_succ, List.map_cons, List.map_nil]
    intro K1 E1 hd1 hf1 hs1 hc1
    walk_at "d3"
    refine .inr ⟨_, fz, hf1 _ _ ?_⟩
    try walk_at "d3"
    subst hv
    refine seq_abs fun v hv => ?_
    walk_at "d3"
    simp only [dLamCall, PG_asked, thP, frzG, frz1, hideOwn, List.getElem?_cons_zero, List.getElem?_cons_succ, List.map_cons, List.map_nil]
    refine ⟨⟨_, rfl⟩, ?_⟩
    intro K1 E1 hd1 hf1 hs1 hc1
    walk_at "d3"
    refine .inr ⟨_, fz, hf1 _ _ ?_⟩
    try walk_at "d3"
    subst hv
    refine seq_abs fun v hv => ?_
    walk_at "d3"
    simp only [dLamCall, PG_asked, thP, frzG, frz1, hideOwn, List.getElem?_cons_zero, List.getElem?_cons_succ, List.map_cons, List.map_nil]
    refine ⟨⟨_, rfl⟩, ?_⟩
    intro K1 E1 hd1 hf1 hs1 hc1
    walk_at "d3"
    refine .inr ⟨_, fz, hf1 _ _ ?_⟩
    try walk_at "d3"
    subst hv
    refine seq_abs fun v hv => ?_
    walk_at "d3"
    simp only [dLamCall, PG_asked, thP, frzG, frz1, hideOwn, List.getElem?_cons_zero, List.getElem?_cons_succ, List.map_cons, List.map_nil]
    refine ⟨⟨_, rfl⟩, ?_⟩
    intro K1 E1 hd1 hf1 hs1 hc1
    walk_at "d3"
    refine .inr ⟨_, fz, hf1 _ _ ?_⟩
    try walk_at "d3"
    subst hv
    refine seq_abs fun v hv => ?_
    walk_at "d3"
    simp only [dLamCall, PG_asked, thP, frzG, frz1, hideOwn, List.getElem?_cons_zero, List.getElem?_cons_succ, List.map_cons, List.map_nil]
    refine ⟨⟨_, rfl⟩, ?_⟩
    intro K1 E1 hd1 hf1 hs1 hc1
    walk_at "d3"
    refine .inr (.inr ⟨_, fz, hf1 _ _ ?_⟩)
    try walk_at "d3"
    subst hv
    refine seq_abs fun v hv => ?_
    walk_at "d3"
    simp only [dLamCall, PG_asked, thP, frzG, frz1, hideOwn, List.getElem?_cons_zero, List.getElem?_cons_succ, List.map_cons, List.map_nil]
    refine ⟨⟨_, rfl⟩, ?_⟩
    intro K1 E1 hd1 hf1 hs1 hc1
    walk_at "d3"
    refine .inr (.inr ⟨_, fz, hf1 _ _ ?_⟩)
    try walk_at "d3"
    subst hv
    refine seq_abs fun v hv => ?_
    walk_at "d3"
    simp only [dLamCall, PG_asked, thP, frzG, frz1, hideOwn, List.getElem?_cons_zero, List.getElem?_cons_succ, List.map_cons, List.map_nil]
    refine ⟨⟨_, rfl⟩, ?_⟩
    intro K1 E1 hd1 hf1 hs1 hc1
    walk_at "d3"
    refine .inr (.inr ⟨_, fz, hf1 _ _ ?_⟩)
    try walk_at "d3"
    subst hv
    refine seq_abs fun v hv => ?_
    walk_at "d3"
    simp only [dLamCall, PG_asked, thP, frzG, frz1, hideOwn, List.getElem?_cons_zero, List.getElem?_cons_succ, List.map_cons, List.map_nil]
    refine ⟨⟨_, rfl⟩, ?_⟩
    intro K1 E1 hd1 hf1 hs1 hc1
    walk_at "d3"
    refine .inr (.inr ⟨_, fz, hf1 _ _ ?_⟩)
    try walk_at "d3"
    subst hv
    walk_at "d3"
    have er : repL [PyData.tuple [.str "field", .none]] 8 = [.tuple [.str "field", .none], .tuple [.str "field", .none], .tuple [.str "field", .none], .tuple [.str "field", .none], .tuple [.str "field", .none], .tuple [.str "field", .none], .tuple [.str "field", .none], .tuple [.str "field", .none]] := rfl
    rw [er]
    generalize eL : [PyData.tuple [.str "field", .none], .tuple [.str "field", .none], .tuple [.str "field", .none], .tuple [.str "field", .none], .tuple [.str "field", .none], .tuple [.str "field", .none], .tuple [.str "field", .none], .tuple [.str "field", .none]] = L
    have sh8 : SeqAt.shaped (.list L) = true := by rw [← eL]; decide +kernel
    refine ⟨by unfold D3.inR; decide, by decide, gEqE_lst sh8 sh8 ?_⟩
    have ev : PyData.eqvAll L L = true := by rw [← eL]; simp [PyData.eqvAll, PyData.eqv]
    rw [ev]
    exact hk
  · exact h.elim
/-! ### the law -/
theorem rowsI_grid {w h : Nat} {H : List (List Int)} (hl : H.length = h) (hr : ∀ r ∈ H, r.length = w) : rowsI H = grid w h fun x y => .int ((H.getD y []).getD x 0) := by
  unfold rowsI grid
  refine congrArg PyData.tuple (List.ext_getElem? fun y => ?_)
  by_cases hy : y < h
  · have hy2 : y < H.length := by omega
    rw [List.getElem?_map, List.getElem?_map, List.getElem?_range hy, List.getElem?_eq_getElem hy2]
    simp only [Option.map_some, rowI]
    refine congrArg some (congrArg PyData.tuple (List.ext_getElem? fun x => ?_))
    have l := hr H[y] (List.getElem_mem hy2)
    have e : H.getD y [] = H[y] := by simp [List.getD, List.getElem?_eq_getElem hy2]
    rw [e]
    by_cases hx : x < w
    · have hx2 : x < H[y].length := by omega
      rw [List.getElem?_map, List.getElem?_map, List.getElem?_range hx, List.getElem?_eq_getElem hx2]
      simp [List.getD, List.getElem?_eq_getElem hx2]
    · rw [List.getElem?_eq_none (by simp; omega), List.getElem?_eq_none (by simp; omega)]
  · rw [List.getElem?_eq_none (by simp; omega), List.getElem?_eq_none (by simp; omega)]
theorem rowsW_grid {w h : Nat} {H : List (List (Int × Int))} (hl : H.length = h) (hr : ∀ r ∈ H, r.length = w) : rowsW H = grid w h fun x y => pairI ((H.getD y []).getD x (1, 1)) := by
  unfold rowsW grid
  refine congrArg PyData.tuple (List.ext_getElem? fun y => ?_)
  by_cases hy : y < h
  · have hy2 : y < H.length := by omega
    rw [List.getElem?_map, List.getElem?_map, List.getElem?_range hy, List.getElem?_eq_getElem hy2]
    simp only [Option.map_some, rowW]
    refine congrArg some (congrArg PyData.tuple (List.ext_getElem? fun x => ?_))
    have l := hr H[y] (List.getElem_mem hy2)
    have e : H.getD y [] = H[y] := by simp [List.getD, List.getElem?_eq_getElem hy2]
    rw [e]
    by_cases hx : x < w
    · have hx2 : x < H[y].length := by omega
      rw [List.getElem?_map, List.getElem?_map, List.getElem?_range hx, List.getElem?_eq_getElem hx2]
      simp [List.getD, List.getElem?_eq_getElem hx2]
    · rw [List.getElem?_eq_none (by simp; omega), List.getElem?_eq_none (by simp; omega)]
  · rw [List.getElem?_eq_none (by simp; omega), List.getElem?_eq_none (by simp; omega)]
theorem sm_pair {p : Int × Int} (h : WOk p) : Sm 1 3850 (pairI p) := by
  obtain ⟨_, h1, _, h2, h3⟩ := h
  refine (Sm.tup (n := 0) (c := 1921) (l := 2) (fun d hd => ?_) (by simp)).up (by decide) (by decide)
  simp only [List.mem_cons, List.not_mem_nil, or_false] at hd
  rcases hd with rfl | rfl
  · exact Sm.int (small1000 (m := 100) (by omega) (by decide))
  · exact Sm.int (small1000 (m := 100) (by omega) (by decide))
theorem drawn_good {w h : Nat} {H : List (List Int)} {W : List (List (Int × Int))} (D : DrawnField w h H W) (hw1 : 1 ≤ w) (hw2 : w ≤ 11) (hh1 : 1 ≤ h) (hh2 : h ≤ 11) :
    ∃ Hf Wf, fieldI H W = fieldG w h Hf Wf ∧ GoodF w h Hf Wf ∧ SmF w h Hf Wf ∧ (∀ x < w, ∀ y < h, (Hf x y).natAbs ≤ 10 + w + h) ∧ ∀ x < w, ∀ y < h, ∃ p, Wf x y = pairI p ∧ WOk p := by
  obtain ⟨b, hb2, hb12, hr⟩ := D.rows
  have hlen : ∀ r ∈ H, r.length = w := fun r hm => by
    obtain ⟨y, hy, e⟩ := List.getElem_of_mem hm
    exact (hr y r (by rw [List.getElem?_eq_getElem hy, e])).1
  have hlw : ∀ r ∈ W, r.length = w := fun r hm => (D.worths r hm).1
  have get : ∀ x < w, ∀ y < h, ∃ r, H[y]? = some r ∧ r[x]? = some ((H.getD y []).getD x 0) ∧ RowOk b y (if y = 0 then none else H[y - 1]?) r := fun x hx y hy => by
    have hy2 : y < H.length := by rw [D.hl]; exact hy
    have z := hr y _ (List.getElem?_eq_getElem hy2)
    have hx2 : x < H[y].length := by rw [z.1]; exact hx
    refine ⟨H[y], List.getElem?_eq_getElem hy2, ?_, z.2⟩
    simp [List.getD, List.getElem?_eq_getElem hy2, List.getElem?_eq_getElem hx2]
  have bnd : ∀ x < w, ∀ y < h, ((H.getD y []).getD x 0).natAbs ≤ 10 + w + h := fun x hx y hy => by
    obtain ⟨r, e1, e2, ok⟩ := get x hx y hy
    have := ok.bnd x _ e2
    omega
  have wor : ∀ x < w, ∀ y < h, ∃ p, pairI ((W.getD y []).getD x (1, 1)) = pairI p ∧ WOk p := fun x hx y hy => by
    have hy2 : y < W.length := by rw [D.wl]; exact hy
    have z := D.worths W[y] (List.getElem_mem hy2)
    have hx2 : x < W[y].length := by rw [z.1]; exact hx
    refine ⟨W[y][x], by simp [List.getD, List.getElem?_eq_getElem hy2, List.getElem?_eq_getElem hx2], z.2 _ (List.getElem_mem hx2)⟩
  refine ⟨fun x y => (H.getD y []).getD x 0, fun x y => pairI ((W.getD y []).getD x (1, 1)), ?_, ?_, ?_, bnd, wor⟩
  · unfold fieldI fieldG
    rw [rowsI_grid D.hl hlen, rowsW_grid D.wl hlw]
  · refine ⟨hw1, hw2, hh1, hh2, fun x hx y hy _ => ?_, fun x hx y hy => ?_, fun x hx y hy z => ?_, fun x hx y hy z => ?_, fun x hx y hy => ?_⟩
    · obtain ⟨r, e1, e2, ok⟩ := get x hx y hy
      have := ok.bnd x _ e2
      omega
    · obtain ⟨r, e1, e2, ok⟩ := get x hx y hy
      have := ok.par x _ e2
      omega
    · obtain ⟨r, e1, e2, ok⟩ := get x hx y hy
      obtain ⟨r2, e3, e4, _⟩ := get (x - 1) (by omega) y hy
      rw [e1] at e3
      cases e3
      exact ok.lef (x - 1) _ _ e4 (by rw [show x - 1 + 1 = x by omega]; exact e2)
    · obtain ⟨r, e1, e2, ok⟩ := get x hx y hy
      obtain ⟨r2, e3, e4, _⟩ := get x hx (y - 1) (by omega)
      exact ok.up r2 (by rw [if_neg z]; exact e3) x _ _ e2 e4
    · obtain ⟨p, e, z1, z2, z3, _⟩ := wor x hx y hy
      rw [e]
      simp only [pairI, worthB]
      simp [z1, z2, z3]
  · refine ⟨fun x hx y hy => small1000 (bnd x hx y hy) (Nat.lt_of_le_of_lt (show 10 + w + h ≤ 100 by omega) (by decide)), fun x hx y hy => ?_⟩
    obtain ⟨p, e, ok⟩ := wor x hx y hy
    rw [e]
    exact sm_pair ok
theorem nf_gen {a b : Int} (ha : a ≠ 0) (hb : 0 < b) : ∃ p : Int × Int, nfD a b = pairI p ∧ worthB (pairI p) = true ∧ p.1.natAbs ≤ a.natAbs ∧ p.2.natAbs ≤ b.natAbs := by
  have e : sgc a b = (Int.gcd a b : Int) := by unfold sgc; rw [if_neg (by omega)]
  have g0 : (Int.gcd a b : Int) ≠ 0 := by
    have : Int.gcd a b ≠ 0 := fun z => by
      have := (Int.gcd_eq_zero_iff.mp z).2
      omega
    omega
  refine ⟨(a.fdiv (Int.gcd a b), b.fdiv (Int.gcd a b)), by unfold nfD pairI; rw [e], ?_⟩
  have da : (Int.gcd a b : Int) ∣ a := Int.gcd_dvd_left ..
  have db : (Int.gcd a b : Int) ∣ b := Int.gcd_dvd_right ..
  have l1 := fdiv_le g0 da
  have l2 := fdiv_le g0 db
  have ea : (Int.gcd a b : Int) * a.fdiv (Int.gcd a b) = a := by
    obtain ⟨q, hq⟩ := da
    have : a.fdiv (Int.gcd a b) = q := by
      have := Int.mul_fdiv_cancel_left q g0
      rw [← hq] at this
      exact this
    rw [this]
    exact hq.symm
  have eb : (Int.gcd a b : Int) * b.fdiv (Int.gcd a b) = b := by
    obtain ⟨q, hq⟩ := db
    have : b.fdiv (Int.gcd a b) = q := by
      have := Int.mul_fdiv_cancel_left q g0
      rw [← hq] at this
      exact this
    rw [this]
    exact hq.symm
  have gp : 0 < (Int.gcd a b : Int) := by omega
  have pb : 0 < b.fdiv (Int.gcd a b) := by
    by_cases z : 0 < b.fdiv (Int.gcd a b)
    · exact z
    · exfalso
      have := Int.mul_le_mul_of_nonneg_left (show b.fdiv (Int.gcd a b) ≤ 0 by omega) (Int.le_of_lt gp)
      omega
  have na : a.fdiv (Int.gcd a b) ≠ 0 := fun z => by
    rw [z] at ea
    omega
  have g1 : Int.gcd (a.fdiv (Int.gcd a b)) (b.fdiv (Int.gcd a b)) = 1 := by
    have z : Int.gcd ((Int.gcd a b : Int) * a.fdiv (Int.gcd a b)) ((Int.gcd a b : Int) * b.fdiv (Int.gcd a b)) = Int.gcd a b := by rw [ea, eb]
    rw [Int.gcd_mul_left, Int.natAbs_natCast] at z
    have h : Int.gcd a b * Int.gcd (a.fdiv (Int.gcd a b)) (b.fdiv (Int.gcd a b)) = Int.gcd a b * 1 := by omega
    exact Nat.eq_of_mul_eq_mul_left (by omega) h
  refine ⟨?_, l1, l2⟩
  simp only [pairI, worthB]
  simp [na, pb, g1]
theorem sm_pairS {p : Int × Int} (h1 : p.1.natAbs ≤ 1000) (h2 : p.2.natAbs ≤ 1000) : Sm 1 3850 (pairI p) := by
  refine (Sm.tup (n := 0) (c := 1921) (l := 2) (fun d hd => ?_) (by simp)).up (by decide) (by decide)
  simp only [List.mem_cons, List.not_mem_nil, or_false] at hd
  rcases hd with rfl | rfl
  · exact Sm.int (small1000 h1 (by decide))
  · exact Sm.int (small1000 h2 (by decide))
theorem gen_ends {t : DTS} {D : DEnds} {S : S3} {e : ED} (h : ∀ D' E', D'.rt = D.rt → t D' S E') : t D S e := h D e rfl
theorem h_law (K : PySem.W.Frag) (A : Adr) : ∀ rs C k e, lawP rs C k e → rs.length = 1 ∧ sem_p_law K A P_lfield P_cell P_lspots P_low P_lspot P_lwhole P_lwith P_lref (defEnds k) ⟨start3 11 rs, C⟩ (defExc e) := by
  rintro rs C k e ⟨⟨ns, hl, _, rfl⟩, rfl, hk⟩
  refine ⟨rfl, ?_⟩
  letI : Tb := ⟨[]⟩
  unfold sem_p_law
  simp only [dCell, dLst, dCons, dNil, dC, allD, start3, noThk, List.map_cons, List.map_nil, List.length_cons, List.length_nil, List.replicate, List.cons_append, List.nil_append, List.set_cons_zero, List.set_cons_succ, Nat.zero_add, Nat.reduceAdd, Nat.reduceSub]
  refine ⟨by rw [szl]; decide, ?_⟩
  refine gen_ends fun D' E' hD => ?_
  have hrt : ∀ S, D'.rt (.d (.bool true)) S := fun S => by
    rw [hD]
    exact ⟨⟨_, rfl⟩, hk _⟩
  clear hD
  refine seq_abs fun v hv => ?_
  walk_at "d3"
  obtain ⟨T, hT, hT2⟩ : ∃ T : Nat, (3 + if (ns.length : Int) < 9 then (ns.length : Int) else 9) = (T : Int) ∧ T ≤ 12 := by
    by_cases q : (ns.length : Int) < 9
    · exact ⟨3 + ns.length, by rw [if_pos q]; omega, by omega⟩
    · exact ⟨12, by rw [if_neg q]; rfl, by omega⟩
  rw [hT, Int.toNat_natCast]
  refine ⟨by unfold D3.inR; omega, ?_⟩
  refine loop_range (fun y S => ∃ (g2 g3 g4 g5 g6 g7 g8 g9 g10 : Option SV) (jj : Int), 0 ≤ jj ∧ jj ≤ y * 300 ∧ S = ⟨[some (.d (.list (ns.map .int))), some (.cell 0), g2, g3, g4, g5, g6, g7, g8, g9, g10], [[.int jj]]⟩) ⟨none, none, none, none, none, none, none, none, none, 0, by decide, by decide, rfl⟩ ?_ ?_
  · rintro t ht S N ⟨g2, g3, g4, g5, g6, g7, g8, g9, g10, jj, hj0, hj, rfl⟩ hN
    simp only [gSet, List.set_cons_zero, List.set_cons_succ]
    refine seq_abs fun q hq => ?_
    walk_at "d3"
    simp only [P_lfield]
    refine ⟨⟨ns, rfl, hl⟩, hj0, by omega, by decide, by decide, by decide, fun w h H0 W0 j1 w1 w2 h1 h2 D l1 l2 => ?_⟩
    try walk_at "d3"
    simp only [P_cell]
    refine ⟨⟨ns, rfl, hl⟩, by omega, by omega, fun n n0 n1 => ?_⟩
    try walk_at "d3"
    obtain ⟨H, W, eF, g, sm, bnd, _⟩ := drawn_good D (by omega) (by omega) (by omega) (by omega)
    rw [eF]
    have S1 := sm.sm g.w2 g.h2
    subst hq
    refine seq_abs fun q hq => ?_
    walk_at "d3"
    refine reprS S1 ?_
    try walk_at "d3"
    have g0 := g.h1
    have gw := g.w1
    have g1 := g.w2
    have g2' := g.h2
    subst hq
    refine seq_abs fun q hq => ?_
    generalize eF : fieldG w h H W = F at S1
    have eF2 : F = .tuple [.tuple ((List.range h).map fun y => PyData.tuple ((List.range w).map fun x => PyData.int (H x y))), D3.grid w h W] := eF.symm
    rw [eF2]
    walk_at "d3"
    rw [at_row (i := 0) (y := 0) g0 rfl]
    try walk_at "d3"
    simp only [List.length_map, List.length_range, P_lspots]
    refine ⟨w, h, rfl, rfl, g1, g2', ?_⟩
    try walk_at "d3"
    rw [← eF2]
    subst hq
    refine seq_abs fun q hq => ?_
    walk_at "d3"
    have hm : 0 < w * h := Nat.mul_pos gw g0
    have pick : ∀ (m : Int) (P : SV → Prop), (∀ x y : Nat, x < w → y < h → P (.d (ptD (x, y)))) → atK (spotsD w h) (m.fmod ((spotsD w h).length : Int)) P := fun m P hP => by
      obtain ⟨a0, a1⟩ := fm_of (x := m) (y := ((spotsD w h).length : Int)) (by rw [spots_len]; omega)
      refine at_any a0 a1 fun d hd => ?_
      obtain ⟨x, y, hx, hy, rfl⟩ := spots_mem hd
      exact hP x y hx hy
    refine ⟨by rw [spots_len]; omega, pick _ _ fun x y hx hy => ⟨divOk (a := 5) (by decide) (by decide) (by decide), by rw [spots_len]; omega, pick _ _ fun a b ha hb => ?_⟩⟩
    subst hq
    refine seq_abs fun q hq => ?_
    walk_at "d3"
    simp only [P_low]
    obtain ⟨u0, u1⟩ := fm_of (x := n.fdiv 7) (y := 19) (by decide)
    obtain ⟨v0, v1⟩ := fm_of (x := n.fdiv 133) (y := 9) (by decide)
    generalize (n.fdiv 7).fmod 19 = u at u0 u1 ⊢
    generalize (n.fdiv 133).fmod 9 = z at v0 v1 ⊢
    have b8 : (1 + z).natAbs < 2 ^ 8001 := Nat.lt_of_lt_of_le (show (1 + z).natAbs < 2 ^ 5 by omega) (Nat.pow_le_pow_right (by decide) (by decide))
    refine ⟨divOk (a := 3) (by decide) (by decide) (by decide), divOk (a := 8) (by decide) (by decide) (by decide), by omega, b8, ?_⟩
    obtain ⟨p, ep, wp, p1, p2⟩ := nf_gen (a := u - 20) (b := 1 + z) (by omega) (by omega)
    rw [ep]
    have sp : Sm 1 3850 (pairI p) := sm_pairS (by omega) (by omega)
    try walk_at "d3"
    subst hq
    refine seq_abs fun q hq => ?_
    walk_at "d3"
    refine ⟨by unfold D3.inR; decide, ?_⟩
    refine loop_all (fun xs S => (∀ d ∈ xs, ∃ i : Int, d = .int i) ∧ ∃ g10 : Option SV, S = ⟨[some (.d (.list (ns.map .int))), some (.cell 0), some (.d (.int t)), some (.d F), some (.d (.int n)), some (.d (.str F.shown)), some (.d (.list (spotsD w h))), some (.d (ptD (x, y))), some (.d (ptD (a, b))), some (.d (pairI p)), g10], [[.int (j1 + 1)]]⟩) ?_ ?_ _ _ ⟨fun d hd => ?_, _, rfl⟩
    · rintro S ⟨_, g10, rfl⟩
      dsimp only
      subst hq
      walk_at "d3"
      simp only [P_lref]
      refine ⟨divOk (a := 2) (by decide) (by decide) (by decide), w, h, H, W, eF.symm, g, ?_⟩
      try walk_at "d3"
      refine reprS S1 ?_
      walk_at "d3"
      exact hN _ ⟨_, _, _, _, _, _, _, _, _, j1 + 1, by omega, by omega, rfl⟩
    · rintro d ds S N2 ⟨hd, g10, rfl⟩ hN2
      obtain ⟨i, rfl⟩ := hd _ (List.mem_cons_self ..)
      simp only [gSet, List.set_cons_zero, List.set_cons_succ]
      refine seq_abs fun r hr => ?_
      walk_at "d3"
      simp only [P_lwhole, P_lspot]
      refine ⟨w, h, H, W, eF.symm, g, ?_⟩
      try walk_at "d3"
      refine ⟨w, h, H, W, x, y, a, b, eF.symm, g, sm, rfl, rfl, hx, hy, ha, hb, ?_⟩
      try walk_at "d3"
      subst hr
      walk_at "d3"
      simp only [P_lwith]
      refine ⟨w, h, H, W, x, y, eF.symm, g, sm, rfl, hx, hy, wp, sp, ?_⟩
      try walk_at "d3"
      exact hN2 _ ⟨fun d hd2 => hd d (List.mem_cons_of_mem _ hd2), _, rfl⟩
    · obtain ⟨i, hi, e1⟩ := List.getElem_of_mem hd
      rw [rangeD_len] at hi
      have z1 := rangeD_get _ 0 i hi
      rw [List.getElem?_eq_getElem (by rw [rangeD_len]; exact hi), e1] at z1
      exact ⟨_, Option.some.inj z1⟩
  · rintro S ⟨g2, g3, g4, g5, g6, g7, g8, g9, g10, jj, hj0, hj, rfl⟩
    dsimp only
    subst hv
    walk_at "d3"
    exact hrt _
theorem all_mk {l : PySem.W.OpenLaw} {w : World} {K : PySem.W.Frag} {h : Heap} {mg : Str → Option Value} {fa : Addr} {ts : List Addr} (X : K.In h) (G : h.Ns mainGlobals mg) (hfa : mg "law" = some (.ref fa)) (hT : ∀ P ∈ ts, h.get? P = some emptyTab)
    {f_p_is_whole : Addr} {od_p_is_whole an_p_is_whole : Option Addr} {sl_p_is_whole : Array (Option Value)} {oc_p_is_whole kV_p_is_whole dc_p_is_whole pm_p_is_whole cd_p_is_whole ct_p_is_whole : Value}
    {f_p_own_common : Addr} {od_p_own_common an_p_own_common : Option Addr} {sl_p_own_common : Array (Option Value)} {oc_p_own_common kV_p_own_common dc_p_own_common pm_p_own_common cd_p_own_common ct_p_own_common : Value}
    {f_p_is_fraction : Addr} {od_p_is_fraction an_p_is_fraction : Option Addr} {sl_p_is_fraction : Array (Option Value)} {oc_p_is_fraction kV_p_is_fraction dc_p_is_fraction pm_p_is_fraction cd_p_is_fraction ct_p_is_fraction : Value}
    {f_p_own_shape : Addr} {od_p_own_shape an_p_own_shape : Option Addr} {sl_p_own_shape : Array (Option Value)} {oc_p_own_shape kV_p_own_shape dc_p_own_shape pm_p_own_shape cd_p_own_shape ct_p_own_shape : Value}
    {f_p_shape_spots : Addr} {od_p_shape_spots an_p_shape_spots : Option Addr} {sl_p_shape_spots : Array (Option Value)} {oc_p_shape_spots kV_p_shape_spots dc_p_shape_spots pm_p_shape_spots cd_p_shape_spots ct_p_shape_spots : Value}
    {f_p_is_on_rim : Addr} {od_p_is_on_rim an_p_is_on_rim : Option Addr} {sl_p_is_on_rim : Array (Option Value)} {oc_p_is_on_rim kV_p_is_on_rim dc_p_is_on_rim pm_p_is_on_rim cd_p_is_on_rim ct_p_is_on_rim : Value}
    {f_p_at : Addr} {od_p_at an_p_at : Option Addr} {sl_p_at : Array (Option Value)} {oc_p_at kV_p_at dc_p_at pm_p_at cd_p_at ct_p_at : Value}
    {f_p_exchanged : Addr} {od_p_exchanged an_p_exchanged : Option Addr} {sl_p_exchanged : Array (Option Value)} {oc_p_exchanged kV_p_exchanged dc_p_exchanged pm_p_exchanged cd_p_exchanged ct_p_exchanged : Value}
    {f_p_are_numbers : Addr} {od_p_are_numbers an_p_are_numbers : Option Addr} {sl_p_are_numbers : Array (Option Value)} {oc_p_are_numbers kV_p_are_numbers dc_p_are_numbers pm_p_are_numbers cd_p_are_numbers ct_p_are_numbers : Value}
    {f_p_are_steps : Addr} {od_p_are_steps an_p_are_steps : Option Addr} {sl_p_are_steps : Array (Option Value)} {oc_p_are_steps kV_p_are_steps dc_p_are_steps pm_p_are_steps cd_p_are_steps ct_p_are_steps : Value}
    {f_p_are_worths : Addr} {od_p_are_worths an_p_are_worths : Option Addr} {sl_p_are_worths : Array (Option Value)} {oc_p_are_worths kV_p_are_worths dc_p_are_worths pm_p_are_worths cd_p_are_worths ct_p_are_worths : Value}
    {f_p_field_faults : Addr} {od_p_field_faults an_p_field_faults : Option Addr} {sl_p_field_faults : Array (Option Value)} {oc_p_field_faults kV_p_field_faults dc_p_field_faults pm_p_field_faults cd_p_field_faults ct_p_field_faults : Value}
    {f_p_need_field : Addr} {od_p_need_field an_p_need_field : Option Addr} {sl_p_need_field : Array (Option Value)} {oc_p_need_field kV_p_need_field dc_p_need_field pm_p_need_field cd_p_need_field ct_p_need_field : Value}
    {f_p_is_spot_of : Addr} {od_p_is_spot_of an_p_is_spot_of : Option Addr} {sl_p_is_spot_of : Array (Option Value)} {oc_p_is_spot_of kV_p_is_spot_of dc_p_is_spot_of pm_p_is_spot_of cd_p_is_spot_of ct_p_is_spot_of : Value}
    {f_p_need_spot : Addr} {od_p_need_spot an_p_need_spot : Option Addr} {sl_p_need_spot : Array (Option Value)} {oc_p_need_spot kV_p_need_spot dc_p_need_spot pm_p_need_spot cd_p_need_spot ct_p_need_spot : Value}
    {f_p_own_spots : Addr} {od_p_own_spots an_p_own_spots : Option Addr} {sl_p_own_spots : Array (Option Value)} {oc_p_own_spots kV_p_own_spots dc_p_own_spots pm_p_own_spots cd_p_own_spots ct_p_own_spots : Value}
    {f_p_own_rim : Addr} {od_p_own_rim an_p_own_rim : Option Addr} {sl_p_own_rim : Array (Option Value)} {oc_p_own_rim kV_p_own_rim dc_p_own_rim pm_p_own_rim cd_p_own_rim ct_p_own_rim : Value}
    {f_p_own_neighbours : Addr} {od_p_own_neighbours an_p_own_neighbours : Option Addr} {sl_p_own_neighbours : Array (Option Value)} {oc_p_own_neighbours kV_p_own_neighbours dc_p_own_neighbours pm_p_own_neighbours cd_p_own_neighbours ct_p_own_neighbours : Value}
    {f_p_height_in : Addr} {od_p_height_in an_p_height_in : Option Addr} {sl_p_height_in : Array (Option Value)} {oc_p_height_in kV_p_height_in dc_p_height_in pm_p_height_in cd_p_height_in ct_p_height_in : Value}
    {f_p_worth_in : Addr} {od_p_worth_in an_p_worth_in : Option Addr} {sl_p_worth_in : Array (Option Value)} {oc_p_worth_in kV_p_worth_in dc_p_worth_in pm_p_worth_in cd_p_worth_in ct_p_worth_in : Value}
    {f_p_board : Addr} {od_p_board an_p_board : Option Addr} {sl_p_board : Array (Option Value)} {oc_p_board kV_p_board dc_p_board pm_p_board cd_p_board ct_p_board : Value}
    {f_p_spots : Addr} {od_p_spots an_p_spots : Option Addr} {sl_p_spots : Array (Option Value)} {oc_p_spots kV_p_spots dc_p_spots pm_p_spots cd_p_spots ct_p_spots : Value}
    {f_p_rim : Addr} {od_p_rim an_p_rim : Option Addr} {sl_p_rim : Array (Option Value)} {oc_p_rim kV_p_rim dc_p_rim pm_p_rim cd_p_rim ct_p_rim : Value}
    {f_p_inner : Addr} {od_p_inner an_p_inner : Option Addr} {sl_p_inner : Array (Option Value)} {oc_p_inner kV_p_inner dc_p_inner pm_p_inner cd_p_inner ct_p_inner : Value}
    {f_p_neighbours : Addr} {od_p_neighbours an_p_neighbours : Option Addr} {sl_p_neighbours : Array (Option Value)} {oc_p_neighbours kV_p_neighbours dc_p_neighbours pm_p_neighbours cd_p_neighbours ct_p_neighbours : Value}
    {f_p_way : Addr} {od_p_way an_p_way : Option Addr} {sl_p_way : Array (Option Value)} {oc_p_way kV_p_way dc_p_way pm_p_way cd_p_way ct_p_way : Value}
    {f_p_height_at : Addr} {od_p_height_at an_p_height_at : Option Addr} {sl_p_height_at : Array (Option Value)} {oc_p_height_at kV_p_height_at dc_p_height_at pm_p_height_at cd_p_height_at ct_p_height_at : Value}
    {f_p_worth_of : Addr} {od_p_worth_of an_p_worth_of : Option Addr} {sl_p_worth_of : Array (Option Value)} {oc_p_worth_of kV_p_worth_of dc_p_worth_of pm_p_worth_of cd_p_worth_of ct_p_worth_of : Value}
    {f_p_own_with : Addr} {od_p_own_with an_p_own_with : Option Addr} {sl_p_own_with : Array (Option Value)} {oc_p_own_with kV_p_own_with dc_p_own_with pm_p_own_with cd_p_own_with ct_p_own_with : Value}
    {f_p_with_worth : Addr} {od_p_with_worth an_p_with_worth : Option Addr} {sl_p_with_worth : Array (Option Value)} {oc_p_with_worth kV_p_with_worth dc_p_with_worth pm_p_with_worth cd_p_with_worth ct_p_with_worth : Value}
    {f_u_law_cell : Addr} {od_u_law_cell an_u_law_cell : Option Addr} {sl_u_law_cell : Array (Option Value)} {oc_u_law_cell kV_u_law_cell dc_u_law_cell pm_u_law_cell cd_u_law_cell ct_u_law_cell : Value}
    {f_u_law_low : Addr} {od_u_law_low an_u_law_low : Option Addr} {sl_u_law_low : Array (Option Value)} {oc_u_law_low kV_u_law_low dc_u_law_low pm_u_law_low cd_u_law_low ct_u_law_low : Value}
    {f_u_law_heights : Addr} {od_u_law_heights an_u_law_heights : Option Addr} {sl_u_law_heights : Array (Option Value)} {oc_u_law_heights kV_u_law_heights dc_u_law_heights pm_u_law_heights cd_u_law_heights ct_u_law_heights : Value}
    {f_u_law_worths : Addr} {od_u_law_worths an_u_law_worths : Option Addr} {sl_u_law_worths : Array (Option Value)} {oc_u_law_worths kV_u_law_worths dc_u_law_worths pm_u_law_worths cd_u_law_worths ct_u_law_worths : Value}
    {f_u_law_field : Addr} {od_u_law_field an_u_law_field : Option Addr} {sl_u_law_field : Array (Option Value)} {oc_u_law_field kV_u_law_field dc_u_law_field pm_u_law_field cd_u_law_field ct_u_law_field : Value}
    {f_u_law_asked : Addr} {od_u_law_asked an_u_law_asked : Option Addr} {sl_u_law_asked : Array (Option Value)} {oc_u_law_asked kV_u_law_asked dc_u_law_asked pm_u_law_asked cd_u_law_asked ct_u_law_asked : Value}
    {f_u_law_spots : Addr} {od_u_law_spots an_u_law_spots : Option Addr} {sl_u_law_spots : Array (Option Value)} {oc_u_law_spots kV_u_law_spots dc_u_law_spots pm_u_law_spots cd_u_law_spots ct_u_law_spots : Value}
    {f_u_law_near : Addr} {od_u_law_near an_u_law_near : Option Addr} {sl_u_law_near : Array (Option Value)} {oc_u_law_near kV_u_law_near dc_u_law_near pm_u_law_near cd_u_law_near ct_u_law_near : Value}
    {f_u_law_whole_right : Addr} {od_u_law_whole_right an_u_law_whole_right : Option Addr} {sl_u_law_whole_right : Array (Option Value)} {oc_u_law_whole_right kV_u_law_whole_right dc_u_law_whole_right pm_u_law_whole_right cd_u_law_whole_right ct_u_law_whole_right : Value}
    {f_u_law_spot_right : Addr} {od_u_law_spot_right an_u_law_spot_right : Option Addr} {sl_u_law_spot_right : Array (Option Value)} {oc_u_law_spot_right kV_u_law_spot_right dc_u_law_spot_right pm_u_law_spot_right cd_u_law_spot_right ct_u_law_spot_right : Value}
    {f_u_law_with_right : Addr} {od_u_law_with_right an_u_law_with_right : Option Addr} {sl_u_law_with_right : Array (Option Value)} {oc_u_law_with_right kV_u_law_with_right dc_u_law_with_right pm_u_law_with_right cd_u_law_with_right ct_u_law_with_right : Value}
    {f_u_law_no_spot : Addr} {od_u_law_no_spot an_u_law_no_spot : Option Addr} {sl_u_law_no_spot : Array (Option Value)} {oc_u_law_no_spot kV_u_law_no_spot dc_u_law_no_spot pm_u_law_no_spot cd_u_law_no_spot ct_u_law_no_spot : Value}
    {f_u_law_refused_right k_u_law_refused_right t_u_law_refused_right : Addr} {od_u_law_refused_right an_u_law_refused_right cdd_u_law_refused_right : Option Addr} {sl_u_law_refused_right csl_u_law_refused_right : Array (Option Value)} {oc_u_law_refused_right kV_u_law_refused_right dc_u_law_refused_right pm_u_law_refused_right ct_u_law_refused_right ccl_u_law_refused_right : Value} {cvs_u_law_refused_right : Array Value}
    {f_p_law : Addr} {od_p_law an_p_law : Option Addr} {sl_p_law : Array (Option Value)} {oc_p_law kV_p_law dc_p_law pm_p_law cd_p_law ct_p_law : Value}
    {tk_MOST_RIM : Tok}
    {tk_MOST_SIDE : Tok}
    {c_BadCoin : Addr}
    {c_BadField : Addr}
    {c_BadFraction : Addr}
    {c_BadHeights : Addr}
    {c_BadPairing : Addr}
    {c_BadPaper : Addr}
    {c_BadRow : Addr}
    {c_BadRule : Addr}
    {c_BadSpot : Addr}
    {c_BadTarget : Addr}
    {c_BadText : Addr}
    {c_BookError : Addr}
    {c_DeedError : Addr}
    {c_Gone : Addr}
    {c_HollowError : Addr}
    {c_NoHollow : Addr}
    {c_NoPeak : Addr}
    {c_Nought : Addr}
    {c_TooFew : Addr}
    {c_TooGreat : Addr}
    {fi_BadField : Addr} {odi_BadField ani_BadField : Option Addr} {oci_BadField dVi_BadField kVi_BadField dci_BadField pmi_BadField cdi_BadField cti_BadField : Value} {sli_BadField : Array (Option Value)}
    {nmC_BadField qC_BadField : Str} {NC_BadField : Addr} {bsC_BadField bmC_BadField : List Value} {snC_BadField : List Str} {subC_BadField : List Value} {abC_BadField : Bool} {colC_BadField : Option Bool} {ddC_BadField : Option Addr} {k0C_BadField k1C_BadField k2C_BadField k3C_BadField k5C_BadField : Option Value}
    (a_p_is_whole : PySem.W.nsIn K mainGlobals "is_whole" = some (some (.ref f_p_is_whole)))
    (l_p_is_whole : K.lookup f_p_is_whole = some ⟨oc_p_is_whole, od_p_is_whole, .func (PySem.W.fnOf "is_whole" "is_whole" (defArgs s_p_is_whole) (defBody s_p_is_whole) (defScope s_p_is_whole) .none kV_p_is_whole dc_p_is_whole pm_p_is_whole an_p_is_whole cd_p_is_whole ct_p_is_whole), sl_p_is_whole⟩)
    (o_p_is_whole : PySem.W.codeIn K cd_p_is_whole "is_whole" = true)
    (e_p_is_whole : PySem.W.keepIn K (.ref f_p_is_whole) = true)
    (a_p_own_common : PySem.W.nsIn K mainGlobals "own_common" = some (some (.ref f_p_own_common)))
    (l_p_own_common : K.lookup f_p_own_common = some ⟨oc_p_own_common, od_p_own_common, .func (PySem.W.fnOf "own_common" "own_common" (defArgs s_p_own_common) (defBody s_p_own_common) (defScope s_p_own_common) .none kV_p_own_common dc_p_own_common pm_p_own_common an_p_own_common cd_p_own_common ct_p_own_common), sl_p_own_common⟩)
    (o_p_own_common : PySem.W.codeIn K cd_p_own_common "own_common" = true)
    (e_p_own_common : PySem.W.keepIn K (.ref f_p_own_common) = true)
    (a_p_is_fraction : PySem.W.nsIn K mainGlobals "is_fraction" = some (some (.ref f_p_is_fraction)))
    (l_p_is_fraction : K.lookup f_p_is_fraction = some ⟨oc_p_is_fraction, od_p_is_fraction, .func (PySem.W.fnOf "is_fraction" "is_fraction" (defArgs s_p_is_fraction) (defBody s_p_is_fraction) (defScope s_p_is_fraction) .none kV_p_is_fraction dc_p_is_fraction pm_p_is_fraction an_p_is_fraction cd_p_is_fraction ct_p_is_fraction), sl_p_is_fraction⟩)
    (o_p_is_fraction : PySem.W.codeIn K cd_p_is_fraction "is_fraction" = true)
    (e_p_is_fraction : PySem.W.keepIn K (.ref f_p_is_fraction) = true)
    (a_p_own_shape : PySem.W.nsIn K mainGlobals "own_shape" = some (some (.ref f_p_own_shape)))
    (l_p_own_shape : K.lookup f_p_own_shape = some ⟨oc_p_own_shape, od_p_own_shape, .func (PySem.W.fnOf "own_shape" "own_shape" (defArgs s_p_own_shape) (defBody s_p_own_shape) (defScope s_p_own_shape) .none kV_p_own_shape dc_p_own_shape pm_p_own_shape an_p_own_shape cd_p_own_shape ct_p_own_shape), sl_p_own_shape⟩)
    (o_p_own_shape : PySem.W.codeIn K cd_p_own_shape "own_shape" = true)
    (e_p_own_shape : PySem.W.keepIn K (.ref f_p_own_shape) = true)
    (a_p_shape_spots : PySem.W.nsIn K mainGlobals "shape_spots" = some (some (.ref f_p_shape_spots)))
    (l_p_shape_spots : K.lookup f_p_shape_spots = some ⟨oc_p_shape_spots, od_p_shape_spots, .func (PySem.W.fnOf "shape_spots" "shape_spots" (defArgs s_p_shape_spots) (defBody s_p_shape_spots) (defScope s_p_shape_spots) .none kV_p_shape_spots dc_p_shape_spots pm_p_shape_spots an_p_shape_spots cd_p_shape_spots ct_p_shape_spots), sl_p_shape_spots⟩)
    (o_p_shape_spots : PySem.W.codeIn K cd_p_shape_spots "shape_spots" = true)
    (e_p_shape_spots : PySem.W.keepIn K (.ref f_p_shape_spots) = true)
    (a_p_is_on_rim : PySem.W.nsIn K mainGlobals "is_on_rim" = some (some (.ref f_p_is_on_rim)))
    (l_p_is_on_rim : K.lookup f_p_is_on_rim = some ⟨oc_p_is_on_rim, od_p_is_on_rim, .func (PySem.W.fnOf "is_on_rim" "is_on_rim" (defArgs s_p_is_on_rim) (defBody s_p_is_on_rim) (defScope s_p_is_on_rim) .none kV_p_is_on_rim dc_p_is_on_rim pm_p_is_on_rim an_p_is_on_rim cd_p_is_on_rim ct_p_is_on_rim), sl_p_is_on_rim⟩)
    (o_p_is_on_rim : PySem.W.codeIn K cd_p_is_on_rim "is_on_rim" = true)
    (e_p_is_on_rim : PySem.W.keepIn K (.ref f_p_is_on_rim) = true)
    (a_p_at : PySem.W.nsIn K mainGlobals "at" = some (some (.ref f_p_at)))
    (l_p_at : K.lookup f_p_at = some ⟨oc_p_at, od_p_at, .func (PySem.W.fnOf "at" "at" (defArgs s_p_at) (defBody s_p_at) (defScope s_p_at) .none kV_p_at dc_p_at pm_p_at an_p_at cd_p_at ct_p_at), sl_p_at⟩)
    (o_p_at : PySem.W.codeIn K cd_p_at "at" = true)
    (e_p_at : PySem.W.keepIn K (.ref f_p_at) = true)
    (a_p_exchanged : PySem.W.nsIn K mainGlobals "exchanged" = some (some (.ref f_p_exchanged)))
    (l_p_exchanged : K.lookup f_p_exchanged = some ⟨oc_p_exchanged, od_p_exchanged, .func (PySem.W.fnOf "exchanged" "exchanged" (defArgs s_p_exchanged) (defBody s_p_exchanged) (defScope s_p_exchanged) .none kV_p_exchanged dc_p_exchanged pm_p_exchanged an_p_exchanged cd_p_exchanged ct_p_exchanged), sl_p_exchanged⟩)
    (o_p_exchanged : PySem.W.codeIn K cd_p_exchanged "exchanged" = true)
    (e_p_exchanged : PySem.W.keepIn K (.ref f_p_exchanged) = true)
    (a_p_are_numbers : PySem.W.nsIn K mainGlobals "are_numbers" = some (some (.ref f_p_are_numbers)))
    (l_p_are_numbers : K.lookup f_p_are_numbers = some ⟨oc_p_are_numbers, od_p_are_numbers, .func (PySem.W.fnOf "are_numbers" "are_numbers" (defArgs s_p_are_numbers) (defBody s_p_are_numbers) (defScope s_p_are_numbers) .none kV_p_are_numbers dc_p_are_numbers pm_p_are_numbers an_p_are_numbers cd_p_are_numbers ct_p_are_numbers), sl_p_are_numbers⟩)
    (o_p_are_numbers : PySem.W.codeIn K cd_p_are_numbers "are_numbers" = true)
    (e_p_are_numbers : PySem.W.keepIn K (.ref f_p_are_numbers) = true)
    (a_p_are_steps : PySem.W.nsIn K mainGlobals "are_steps" = some (some (.ref f_p_are_steps)))
    (l_p_are_steps : K.lookup f_p_are_steps = some ⟨oc_p_are_steps, od_p_are_steps, .func (PySem.W.fnOf "are_steps" "are_steps" (defArgs s_p_are_steps) (defBody s_p_are_steps) (defScope s_p_are_steps) .none kV_p_are_steps dc_p_are_steps pm_p_are_steps an_p_are_steps cd_p_are_steps ct_p_are_steps), sl_p_are_steps⟩)
    (o_p_are_steps : PySem.W.codeIn K cd_p_are_steps "are_steps" = true)
    (e_p_are_steps : PySem.W.keepIn K (.ref f_p_are_steps) = true)
    (a_p_are_worths : PySem.W.nsIn K mainGlobals "are_worths" = some (some (.ref f_p_are_worths)))
    (l_p_are_worths : K.lookup f_p_are_worths = some ⟨oc_p_are_worths, od_p_are_worths, .func (PySem.W.fnOf "are_worths" "are_worths" (defArgs s_p_are_worths) (defBody s_p_are_worths) (defScope s_p_are_worths) .none kV_p_are_worths dc_p_are_worths pm_p_are_worths an_p_are_worths cd_p_are_worths ct_p_are_worths), sl_p_are_worths⟩)
    (o_p_are_worths : PySem.W.codeIn K cd_p_are_worths "are_worths" = true)
    (e_p_are_worths : PySem.W.keepIn K (.ref f_p_are_worths) = true)
    (a_p_field_faults : PySem.W.nsIn K mainGlobals "field_faults" = some (some (.ref f_p_field_faults)))
    (l_p_field_faults : K.lookup f_p_field_faults = some ⟨oc_p_field_faults, od_p_field_faults, .func (PySem.W.fnOf "field_faults" "field_faults" (defArgs s_p_field_faults) (defBody s_p_field_faults) (defScope s_p_field_faults) .none kV_p_field_faults dc_p_field_faults pm_p_field_faults an_p_field_faults cd_p_field_faults ct_p_field_faults), sl_p_field_faults⟩)
    (o_p_field_faults : PySem.W.codeIn K cd_p_field_faults "field_faults" = true)
    (e_p_field_faults : PySem.W.keepIn K (.ref f_p_field_faults) = true)
    (a_p_need_field : PySem.W.nsIn K mainGlobals "need_field" = some (some (.ref f_p_need_field)))
    (l_p_need_field : K.lookup f_p_need_field = some ⟨oc_p_need_field, od_p_need_field, .func (PySem.W.fnOf "need_field" "need_field" (defArgs s_p_need_field) (defBody s_p_need_field) (defScope s_p_need_field) .none kV_p_need_field dc_p_need_field pm_p_need_field an_p_need_field cd_p_need_field ct_p_need_field), sl_p_need_field⟩)
    (o_p_need_field : PySem.W.codeIn K cd_p_need_field "need_field" = true)
    (e_p_need_field : PySem.W.keepIn K (.ref f_p_need_field) = true)
    (a_p_is_spot_of : PySem.W.nsIn K mainGlobals "is_spot_of" = some (some (.ref f_p_is_spot_of)))
    (l_p_is_spot_of : K.lookup f_p_is_spot_of = some ⟨oc_p_is_spot_of, od_p_is_spot_of, .func (PySem.W.fnOf "is_spot_of" "is_spot_of" (defArgs s_p_is_spot_of) (defBody s_p_is_spot_of) (defScope s_p_is_spot_of) .none kV_p_is_spot_of dc_p_is_spot_of pm_p_is_spot_of an_p_is_spot_of cd_p_is_spot_of ct_p_is_spot_of), sl_p_is_spot_of⟩)
    (o_p_is_spot_of : PySem.W.codeIn K cd_p_is_spot_of "is_spot_of" = true)
    (e_p_is_spot_of : PySem.W.keepIn K (.ref f_p_is_spot_of) = true)
    (a_p_need_spot : PySem.W.nsIn K mainGlobals "need_spot" = some (some (.ref f_p_need_spot)))
    (l_p_need_spot : K.lookup f_p_need_spot = some ⟨oc_p_need_spot, od_p_need_spot, .func (PySem.W.fnOf "need_spot" "need_spot" (defArgs s_p_need_spot) (defBody s_p_need_spot) (defScope s_p_need_spot) .none kV_p_need_spot dc_p_need_spot pm_p_need_spot an_p_need_spot cd_p_need_spot ct_p_need_spot), sl_p_need_spot⟩)
    (o_p_need_spot : PySem.W.codeIn K cd_p_need_spot "need_spot" = true)
    (e_p_need_spot : PySem.W.keepIn K (.ref f_p_need_spot) = true)
    (a_p_own_spots : PySem.W.nsIn K mainGlobals "own_spots" = some (some (.ref f_p_own_spots)))
    (l_p_own_spots : K.lookup f_p_own_spots = some ⟨oc_p_own_spots, od_p_own_spots, .func (PySem.W.fnOf "own_spots" "own_spots" (defArgs s_p_own_spots) (defBody s_p_own_spots) (defScope s_p_own_spots) .none kV_p_own_spots dc_p_own_spots pm_p_own_spots an_p_own_spots cd_p_own_spots ct_p_own_spots), sl_p_own_spots⟩)
    (o_p_own_spots : PySem.W.codeIn K cd_p_own_spots "own_spots" = true)
    (e_p_own_spots : PySem.W.keepIn K (.ref f_p_own_spots) = true)
    (a_p_own_rim : PySem.W.nsIn K mainGlobals "own_rim" = some (some (.ref f_p_own_rim)))
    (l_p_own_rim : K.lookup f_p_own_rim = some ⟨oc_p_own_rim, od_p_own_rim, .func (PySem.W.fnOf "own_rim" "own_rim" (defArgs s_p_own_rim) (defBody s_p_own_rim) (defScope s_p_own_rim) .none kV_p_own_rim dc_p_own_rim pm_p_own_rim an_p_own_rim cd_p_own_rim ct_p_own_rim), sl_p_own_rim⟩)
    (o_p_own_rim : PySem.W.codeIn K cd_p_own_rim "own_rim" = true)
    (e_p_own_rim : PySem.W.keepIn K (.ref f_p_own_rim) = true)
    (a_p_own_neighbours : PySem.W.nsIn K mainGlobals "own_neighbours" = some (some (.ref f_p_own_neighbours)))
    (l_p_own_neighbours : K.lookup f_p_own_neighbours = some ⟨oc_p_own_neighbours, od_p_own_neighbours, .func (PySem.W.fnOf "own_neighbours" "own_neighbours" (defArgs s_p_own_neighbours) (defBody s_p_own_neighbours) (defScope s_p_own_neighbours) .none kV_p_own_neighbours dc_p_own_neighbours pm_p_own_neighbours an_p_own_neighbours cd_p_own_neighbours ct_p_own_neighbours), sl_p_own_neighbours⟩)
    (o_p_own_neighbours : PySem.W.codeIn K cd_p_own_neighbours "own_neighbours" = true)
    (e_p_own_neighbours : PySem.W.keepIn K (.ref f_p_own_neighbours) = true)
    (a_p_height_in : PySem.W.nsIn K mainGlobals "height_in" = some (some (.ref f_p_height_in)))
    (l_p_height_in : K.lookup f_p_height_in = some ⟨oc_p_height_in, od_p_height_in, .func (PySem.W.fnOf "height_in" "height_in" (defArgs s_p_height_in) (defBody s_p_height_in) (defScope s_p_height_in) .none kV_p_height_in dc_p_height_in pm_p_height_in an_p_height_in cd_p_height_in ct_p_height_in), sl_p_height_in⟩)
    (o_p_height_in : PySem.W.codeIn K cd_p_height_in "height_in" = true)
    (e_p_height_in : PySem.W.keepIn K (.ref f_p_height_in) = true)
    (a_p_worth_in : PySem.W.nsIn K mainGlobals "worth_in" = some (some (.ref f_p_worth_in)))
    (l_p_worth_in : K.lookup f_p_worth_in = some ⟨oc_p_worth_in, od_p_worth_in, .func (PySem.W.fnOf "worth_in" "worth_in" (defArgs s_p_worth_in) (defBody s_p_worth_in) (defScope s_p_worth_in) .none kV_p_worth_in dc_p_worth_in pm_p_worth_in an_p_worth_in cd_p_worth_in ct_p_worth_in), sl_p_worth_in⟩)
    (o_p_worth_in : PySem.W.codeIn K cd_p_worth_in "worth_in" = true)
    (e_p_worth_in : PySem.W.keepIn K (.ref f_p_worth_in) = true)
    (a_p_board : PySem.W.nsIn K mainGlobals "board" = some (some (.ref f_p_board)))
    (l_p_board : K.lookup f_p_board = some ⟨oc_p_board, od_p_board, .func (PySem.W.fnOf "board" "board" (defArgs s_p_board) (defBody s_p_board) (defScope s_p_board) .none kV_p_board dc_p_board pm_p_board an_p_board cd_p_board ct_p_board), sl_p_board⟩)
    (o_p_board : PySem.W.codeIn K cd_p_board "board" = true)
    (e_p_board : PySem.W.keepIn K (.ref f_p_board) = true)
    (a_p_spots : PySem.W.nsIn K mainGlobals "spots" = some (some (.ref f_p_spots)))
    (l_p_spots : K.lookup f_p_spots = some ⟨oc_p_spots, od_p_spots, .func (PySem.W.fnOf "spots" "spots" (defArgs s_p_spots) (defBody s_p_spots) (defScope s_p_spots) .none kV_p_spots dc_p_spots pm_p_spots an_p_spots cd_p_spots ct_p_spots), sl_p_spots⟩)
    (o_p_spots : PySem.W.codeIn K cd_p_spots "spots" = true)
    (e_p_spots : PySem.W.keepIn K (.ref f_p_spots) = true)
    (a_p_rim : PySem.W.nsIn K mainGlobals "rim" = some (some (.ref f_p_rim)))
    (l_p_rim : K.lookup f_p_rim = some ⟨oc_p_rim, od_p_rim, .func (PySem.W.fnOf "rim" "rim" (defArgs s_p_rim) (defBody s_p_rim) (defScope s_p_rim) .none kV_p_rim dc_p_rim pm_p_rim an_p_rim cd_p_rim ct_p_rim), sl_p_rim⟩)
    (o_p_rim : PySem.W.codeIn K cd_p_rim "rim" = true)
    (e_p_rim : PySem.W.keepIn K (.ref f_p_rim) = true)
    (a_p_inner : PySem.W.nsIn K mainGlobals "inner" = some (some (.ref f_p_inner)))
    (l_p_inner : K.lookup f_p_inner = some ⟨oc_p_inner, od_p_inner, .func (PySem.W.fnOf "inner" "inner" (defArgs s_p_inner) (defBody s_p_inner) (defScope s_p_inner) .none kV_p_inner dc_p_inner pm_p_inner an_p_inner cd_p_inner ct_p_inner), sl_p_inner⟩)
    (o_p_inner : PySem.W.codeIn K cd_p_inner "inner" = true)
    (e_p_inner : PySem.W.keepIn K (.ref f_p_inner) = true)
    (a_p_neighbours : PySem.W.nsIn K mainGlobals "neighbours" = some (some (.ref f_p_neighbours)))
    (l_p_neighbours : K.lookup f_p_neighbours = some ⟨oc_p_neighbours, od_p_neighbours, .func (PySem.W.fnOf "neighbours" "neighbours" (defArgs s_p_neighbours) (defBody s_p_neighbours) (defScope s_p_neighbours) .none kV_p_neighbours dc_p_neighbours pm_p_neighbours an_p_neighbours cd_p_neighbours ct_p_neighbours), sl_p_neighbours⟩)
    (o_p_neighbours : PySem.W.codeIn K cd_p_neighbours "neighbours" = true)
    (e_p_neighbours : PySem.W.keepIn K (.ref f_p_neighbours) = true)
    (a_p_way : PySem.W.nsIn K mainGlobals "way" = some (some (.ref f_p_way)))
    (l_p_way : K.lookup f_p_way = some ⟨oc_p_way, od_p_way, .func (PySem.W.fnOf "way" "way" (defArgs s_p_way) (defBody s_p_way) (defScope s_p_way) .none kV_p_way dc_p_way pm_p_way an_p_way cd_p_way ct_p_way), sl_p_way⟩)
    (o_p_way : PySem.W.codeIn K cd_p_way "way" = true)
    (e_p_way : PySem.W.keepIn K (.ref f_p_way) = true)
    (a_p_height_at : PySem.W.nsIn K mainGlobals "height_at" = some (some (.ref f_p_height_at)))
    (l_p_height_at : K.lookup f_p_height_at = some ⟨oc_p_height_at, od_p_height_at, .func (PySem.W.fnOf "height_at" "height_at" (defArgs s_p_height_at) (defBody s_p_height_at) (defScope s_p_height_at) .none kV_p_height_at dc_p_height_at pm_p_height_at an_p_height_at cd_p_height_at ct_p_height_at), sl_p_height_at⟩)
    (o_p_height_at : PySem.W.codeIn K cd_p_height_at "height_at" = true)
    (e_p_height_at : PySem.W.keepIn K (.ref f_p_height_at) = true)
    (a_p_worth_of : PySem.W.nsIn K mainGlobals "worth_of" = some (some (.ref f_p_worth_of)))
    (l_p_worth_of : K.lookup f_p_worth_of = some ⟨oc_p_worth_of, od_p_worth_of, .func (PySem.W.fnOf "worth_of" "worth_of" (defArgs s_p_worth_of) (defBody s_p_worth_of) (defScope s_p_worth_of) .none kV_p_worth_of dc_p_worth_of pm_p_worth_of an_p_worth_of cd_p_worth_of ct_p_worth_of), sl_p_worth_of⟩)
    (o_p_worth_of : PySem.W.codeIn K cd_p_worth_of "worth_of" = true)
    (e_p_worth_of : PySem.W.keepIn K (.ref f_p_worth_of) = true)
    (a_p_own_with : PySem.W.nsIn K mainGlobals "own_with" = some (some (.ref f_p_own_with)))
    (l_p_own_with : K.lookup f_p_own_with = some ⟨oc_p_own_with, od_p_own_with, .func (PySem.W.fnOf "own_with" "own_with" (defArgs s_p_own_with) (defBody s_p_own_with) (defScope s_p_own_with) .none kV_p_own_with dc_p_own_with pm_p_own_with an_p_own_with cd_p_own_with ct_p_own_with), sl_p_own_with⟩)
    (o_p_own_with : PySem.W.codeIn K cd_p_own_with "own_with" = true)
    (e_p_own_with : PySem.W.keepIn K (.ref f_p_own_with) = true)
    (a_p_with_worth : PySem.W.nsIn K mainGlobals "with_worth" = some (some (.ref f_p_with_worth)))
    (l_p_with_worth : K.lookup f_p_with_worth = some ⟨oc_p_with_worth, od_p_with_worth, .func (PySem.W.fnOf "with_worth" "with_worth" (defArgs s_p_with_worth) (defBody s_p_with_worth) (defScope s_p_with_worth) .none kV_p_with_worth dc_p_with_worth pm_p_with_worth an_p_with_worth cd_p_with_worth ct_p_with_worth), sl_p_with_worth⟩)
    (o_p_with_worth : PySem.W.codeIn K cd_p_with_worth "with_worth" = true)
    (e_p_with_worth : PySem.W.keepIn K (.ref f_p_with_worth) = true)
    (a_u_law_cell : PySem.W.nsIn K mainGlobals "_law_cell" = some (some (.ref f_u_law_cell)))
    (l_u_law_cell : K.lookup f_u_law_cell = some ⟨oc_u_law_cell, od_u_law_cell, .func (PySem.W.fnOf "_law_cell" "_law_cell" (defArgs s_u_law_cell) (defBody s_u_law_cell) (defScope s_u_law_cell) .none kV_u_law_cell dc_u_law_cell pm_u_law_cell an_u_law_cell cd_u_law_cell ct_u_law_cell), sl_u_law_cell⟩)
    (o_u_law_cell : PySem.W.codeIn K cd_u_law_cell "_law_cell" = true)
    (e_u_law_cell : PySem.W.keepIn K (.ref f_u_law_cell) = true)
    (a_u_law_low : PySem.W.nsIn K mainGlobals "_law_low" = some (some (.ref f_u_law_low)))
    (l_u_law_low : K.lookup f_u_law_low = some ⟨oc_u_law_low, od_u_law_low, .func (PySem.W.fnOf "_law_low" "_law_low" (defArgs s_u_law_low) (defBody s_u_law_low) (defScope s_u_law_low) .none kV_u_law_low dc_u_law_low pm_u_law_low an_u_law_low cd_u_law_low ct_u_law_low), sl_u_law_low⟩)
    (o_u_law_low : PySem.W.codeIn K cd_u_law_low "_law_low" = true)
    (e_u_law_low : PySem.W.keepIn K (.ref f_u_law_low) = true)
    (a_u_law_heights : PySem.W.nsIn K mainGlobals "_law_heights" = some (some (.ref f_u_law_heights)))
    (l_u_law_heights : K.lookup f_u_law_heights = some ⟨oc_u_law_heights, od_u_law_heights, .func (PySem.W.fnOf "_law_heights" "_law_heights" (defArgs s_u_law_heights) (defBody s_u_law_heights) (defScope s_u_law_heights) .none kV_u_law_heights dc_u_law_heights pm_u_law_heights an_u_law_heights cd_u_law_heights ct_u_law_heights), sl_u_law_heights⟩)
    (o_u_law_heights : PySem.W.codeIn K cd_u_law_heights "_law_heights" = true)
    (e_u_law_heights : PySem.W.keepIn K (.ref f_u_law_heights) = true)
    (a_u_law_worths : PySem.W.nsIn K mainGlobals "_law_worths" = some (some (.ref f_u_law_worths)))
    (l_u_law_worths : K.lookup f_u_law_worths = some ⟨oc_u_law_worths, od_u_law_worths, .func (PySem.W.fnOf "_law_worths" "_law_worths" (defArgs s_u_law_worths) (defBody s_u_law_worths) (defScope s_u_law_worths) .none kV_u_law_worths dc_u_law_worths pm_u_law_worths an_u_law_worths cd_u_law_worths ct_u_law_worths), sl_u_law_worths⟩)
    (o_u_law_worths : PySem.W.codeIn K cd_u_law_worths "_law_worths" = true)
    (e_u_law_worths : PySem.W.keepIn K (.ref f_u_law_worths) = true)
    (a_u_law_field : PySem.W.nsIn K mainGlobals "_law_field" = some (some (.ref f_u_law_field)))
    (l_u_law_field : K.lookup f_u_law_field = some ⟨oc_u_law_field, od_u_law_field, .func (PySem.W.fnOf "_law_field" "_law_field" (defArgs s_u_law_field) (defBody s_u_law_field) (defScope s_u_law_field) .none kV_u_law_field dc_u_law_field pm_u_law_field an_u_law_field cd_u_law_field ct_u_law_field), sl_u_law_field⟩)
    (o_u_law_field : PySem.W.codeIn K cd_u_law_field "_law_field" = true)
    (e_u_law_field : PySem.W.keepIn K (.ref f_u_law_field) = true)
    (a_u_law_asked : PySem.W.nsIn K mainGlobals "_law_asked" = some (some (.ref f_u_law_asked)))
    (l_u_law_asked : K.lookup f_u_law_asked = some ⟨oc_u_law_asked, od_u_law_asked, .func (PySem.W.fnOf "_law_asked" "_law_asked" (defArgs s_u_law_asked) (defBody s_u_law_asked) (defScope s_u_law_asked) .none kV_u_law_asked dc_u_law_asked pm_u_law_asked an_u_law_asked cd_u_law_asked ct_u_law_asked), sl_u_law_asked⟩)
    (o_u_law_asked : PySem.W.codeIn K cd_u_law_asked "_law_asked" = true)
    (e_u_law_asked : PySem.W.keepIn K (.ref f_u_law_asked) = true)
    (a_u_law_spots : PySem.W.nsIn K mainGlobals "_law_spots" = some (some (.ref f_u_law_spots)))
    (l_u_law_spots : K.lookup f_u_law_spots = some ⟨oc_u_law_spots, od_u_law_spots, .func (PySem.W.fnOf "_law_spots" "_law_spots" (defArgs s_u_law_spots) (defBody s_u_law_spots) (defScope s_u_law_spots) .none kV_u_law_spots dc_u_law_spots pm_u_law_spots an_u_law_spots cd_u_law_spots ct_u_law_spots), sl_u_law_spots⟩)
    (o_u_law_spots : PySem.W.codeIn K cd_u_law_spots "_law_spots" = true)
    (e_u_law_spots : PySem.W.keepIn K (.ref f_u_law_spots) = true)
    (a_u_law_near : PySem.W.nsIn K mainGlobals "_law_near" = some (some (.ref f_u_law_near)))
    (l_u_law_near : K.lookup f_u_law_near = some ⟨oc_u_law_near, od_u_law_near, .func (PySem.W.fnOf "_law_near" "_law_near" (defArgs s_u_law_near) (defBody s_u_law_near) (defScope s_u_law_near) .none kV_u_law_near dc_u_law_near pm_u_law_near an_u_law_near cd_u_law_near ct_u_law_near), sl_u_law_near⟩)
    (o_u_law_near : PySem.W.codeIn K cd_u_law_near "_law_near" = true)
    (e_u_law_near : PySem.W.keepIn K (.ref f_u_law_near) = true)
    (a_u_law_whole_right : PySem.W.nsIn K mainGlobals "_law_whole_right" = some (some (.ref f_u_law_whole_right)))
    (l_u_law_whole_right : K.lookup f_u_law_whole_right = some ⟨oc_u_law_whole_right, od_u_law_whole_right, .func (PySem.W.fnOf "_law_whole_right" "_law_whole_right" (defArgs s_u_law_whole_right) (defBody s_u_law_whole_right) (defScope s_u_law_whole_right) .none kV_u_law_whole_right dc_u_law_whole_right pm_u_law_whole_right an_u_law_whole_right cd_u_law_whole_right ct_u_law_whole_right), sl_u_law_whole_right⟩)
    (o_u_law_whole_right : PySem.W.codeIn K cd_u_law_whole_right "_law_whole_right" = true)
    (e_u_law_whole_right : PySem.W.keepIn K (.ref f_u_law_whole_right) = true)
    (a_u_law_spot_right : PySem.W.nsIn K mainGlobals "_law_spot_right" = some (some (.ref f_u_law_spot_right)))
    (l_u_law_spot_right : K.lookup f_u_law_spot_right = some ⟨oc_u_law_spot_right, od_u_law_spot_right, .func (PySem.W.fnOf "_law_spot_right" "_law_spot_right" (defArgs s_u_law_spot_right) (defBody s_u_law_spot_right) (defScope s_u_law_spot_right) .none kV_u_law_spot_right dc_u_law_spot_right pm_u_law_spot_right an_u_law_spot_right cd_u_law_spot_right ct_u_law_spot_right), sl_u_law_spot_right⟩)
    (o_u_law_spot_right : PySem.W.codeIn K cd_u_law_spot_right "_law_spot_right" = true)
    (e_u_law_spot_right : PySem.W.keepIn K (.ref f_u_law_spot_right) = true)
    (a_u_law_with_right : PySem.W.nsIn K mainGlobals "_law_with_right" = some (some (.ref f_u_law_with_right)))
    (l_u_law_with_right : K.lookup f_u_law_with_right = some ⟨oc_u_law_with_right, od_u_law_with_right, .func (PySem.W.fnOf "_law_with_right" "_law_with_right" (defArgs s_u_law_with_right) (defBody s_u_law_with_right) (defScope s_u_law_with_right) .none kV_u_law_with_right dc_u_law_with_right pm_u_law_with_right an_u_law_with_right cd_u_law_with_right ct_u_law_with_right), sl_u_law_with_right⟩)
    (o_u_law_with_right : PySem.W.codeIn K cd_u_law_with_right "_law_with_right" = true)
    (e_u_law_with_right : PySem.W.keepIn K (.ref f_u_law_with_right) = true)
    (a_u_law_no_spot : PySem.W.nsIn K mainGlobals "_law_no_spot" = some (some (.ref f_u_law_no_spot)))
    (l_u_law_no_spot : K.lookup f_u_law_no_spot = some ⟨oc_u_law_no_spot, od_u_law_no_spot, .func (PySem.W.fnOf "_law_no_spot" "_law_no_spot" (defArgs s_u_law_no_spot) (defBody s_u_law_no_spot) (defScope s_u_law_no_spot) .none kV_u_law_no_spot dc_u_law_no_spot pm_u_law_no_spot an_u_law_no_spot cd_u_law_no_spot ct_u_law_no_spot), sl_u_law_no_spot⟩)
    (o_u_law_no_spot : PySem.W.codeIn K cd_u_law_no_spot "_law_no_spot" = true)
    (e_u_law_no_spot : PySem.W.keepIn K (.ref f_u_law_no_spot) = true)
    (a_u_law_refused_right : PySem.W.nsIn K mainGlobals "_law_refused_right" = some (some (.ref f_u_law_refused_right)))
    (l_u_law_refused_right : K.lookup f_u_law_refused_right = some ⟨oc_u_law_refused_right, od_u_law_refused_right, .func (PySem.W.fnOf "_law_refused_right" "_law_refused_right" (defArgs s_u_law_refused_right) (defBody s_u_law_refused_right) (defScope s_u_law_refused_right) .none kV_u_law_refused_right dc_u_law_refused_right pm_u_law_refused_right an_u_law_refused_right (.ref k_u_law_refused_right) ct_u_law_refused_right), sl_u_law_refused_right⟩)
    (o_u_law_refused_right : PySem.W.codeIn K (.ref k_u_law_refused_right) "_law_refused_right" = true)
    (e_u_law_refused_right : PySem.W.keepIn K (.ref f_u_law_refused_right) = true)
    (x_u_law_refused_right : K.lookup k_u_law_refused_right = some ⟨ccl_u_law_refused_right, cdd_u_law_refused_right, .fields cvs_u_law_refused_right, csl_u_law_refused_right⟩)
    (v_u_law_refused_right : cvs_u_law_refused_right[11]? = some (.ref t_u_law_refused_right))
    (h_u_law_refused_right : PySem.W.codeHdIn K k_u_law_refused_right t_u_law_refused_right = true)
    (n_u_law_refused_right : K.lookup t_u_law_refused_right = none)
    (y_u_law_refused_right : t_u_law_refused_right ∈ ts)
    (a_p_law : PySem.W.nsIn K mainGlobals "law" = some (some (.ref f_p_law)))
    (l_p_law : K.lookup f_p_law = some ⟨oc_p_law, od_p_law, .func (PySem.W.fnOf "law" "law" (defArgs s_p_law) (defBody s_p_law) (defScope s_p_law) .none kV_p_law dc_p_law pm_p_law an_p_law cd_p_law ct_p_law), sl_p_law⟩)
    (o_p_law : PySem.W.codeIn K cd_p_law "law" = true)
    (e_p_law : PySem.W.keepIn K (.ref f_p_law) = true)
    (z_LookupError : PySem.W.nsIn K mainGlobals "LookupError" = some none)
    (z_RuntimeError : PySem.W.nsIn K mainGlobals "RuntimeError" = some none)
    (z_ValueError : PySem.W.nsIn K mainGlobals "ValueError" = some none)
    (z_abs : PySem.W.nsIn K mainGlobals "abs" = some none)
    (z_all : PySem.W.nsIn K mainGlobals "all" = some none)
    (z_bool : PySem.W.nsIn K mainGlobals "bool" = some none)
    (z_int : PySem.W.nsIn K mainGlobals "int" = some none)
    (z_isinstance : PySem.W.nsIn K mainGlobals "isinstance" = some none)
    (z_len : PySem.W.nsIn K mainGlobals "len" = some none)
    (z_list : PySem.W.nsIn K mainGlobals "list" = some none)
    (z_min : PySem.W.nsIn K mainGlobals "min" = some none)
    (z_range : PySem.W.nsIn K mainGlobals "range" = some none)
    (z_repr : PySem.W.nsIn K mainGlobals "repr" = some none)
    (z_tuple : PySem.W.nsIn K mainGlobals "tuple" = some none)
    (kv_MOST_RIM : PySem.W.nsIn K mainGlobals "MOST_RIM" = some (some (.int 35 tk_MOST_RIM)))
    (kv_MOST_SIDE : PySem.W.nsIn K mainGlobals "MOST_SIDE" = some (some (.int 11 tk_MOST_SIDE)))
    (c_a_BadCoin : PySem.W.nsIn K mainGlobals "BadCoin" = some (some (.ref c_BadCoin)))
    (c_a_BadField : PySem.W.nsIn K mainGlobals "BadField" = some (some (.ref c_BadField)))
    (c_a_BadFraction : PySem.W.nsIn K mainGlobals "BadFraction" = some (some (.ref c_BadFraction)))
    (c_a_BadHeights : PySem.W.nsIn K mainGlobals "BadHeights" = some (some (.ref c_BadHeights)))
    (c_a_BadPairing : PySem.W.nsIn K mainGlobals "BadPairing" = some (some (.ref c_BadPairing)))
    (c_a_BadPaper : PySem.W.nsIn K mainGlobals "BadPaper" = some (some (.ref c_BadPaper)))
    (c_a_BadRow : PySem.W.nsIn K mainGlobals "BadRow" = some (some (.ref c_BadRow)))
    (c_a_BadRule : PySem.W.nsIn K mainGlobals "BadRule" = some (some (.ref c_BadRule)))
    (c_a_BadSpot : PySem.W.nsIn K mainGlobals "BadSpot" = some (some (.ref c_BadSpot)))
    (c_a_BadTarget : PySem.W.nsIn K mainGlobals "BadTarget" = some (some (.ref c_BadTarget)))
    (c_a_BadText : PySem.W.nsIn K mainGlobals "BadText" = some (some (.ref c_BadText)))
    (c_a_BookError : PySem.W.nsIn K mainGlobals "BookError" = some (some (.ref c_BookError)))
    (c_a_DeedError : PySem.W.nsIn K mainGlobals "DeedError" = some (some (.ref c_DeedError)))
    (c_a_Gone : PySem.W.nsIn K mainGlobals "Gone" = some (some (.ref c_Gone)))
    (c_a_HollowError : PySem.W.nsIn K mainGlobals "HollowError" = some (some (.ref c_HollowError)))
    (c_a_NoHollow : PySem.W.nsIn K mainGlobals "NoHollow" = some (some (.ref c_NoHollow)))
    (c_a_NoPeak : PySem.W.nsIn K mainGlobals "NoPeak" = some (some (.ref c_NoPeak)))
    (c_a_Nought : PySem.W.nsIn K mainGlobals "Nought" = some (some (.ref c_Nought)))
    (c_a_TooFew : PySem.W.nsIn K mainGlobals "TooFew" = some (some (.ref c_TooFew)))
    (c_a_TooGreat : PySem.W.nsIn K mainGlobals "TooGreat" = some (some (.ref c_TooGreat)))
    (c_k_BadField : PySem.W.keepIn K (.ref c_BadField) = true)
    (c_s_BadField : PySem.W.subIn K (.ref c_BadField) (.type "BaseException") = some true)
    (c_t_BadField : PySem.W.typeIn K (.ref c_BadField) = some (.type "type"))
    (c_g_BadField : PySem.W.findIn K (.ref c_BadField) "__getattribute__" = some (some (.builtin "BaseException.__getattribute__")))
    (c_h_BadField : PySem.W.findIn K (.ref c_BadField) "__getattr__" = some none)
    (c_d_BadField : PySem.W.hasDictIn K c_BadField = true)
    (c_c_BadField : PySem.W.findIn K (.ref c_BadField) "__class__" = some (some (.builtin "object.__class__")))
    (c_m_BadField : PySem.W.mroIn K c_BadField (.type "object") = some true)
    (c_i_BadField_BadField : PySem.W.kitOne K (.ref c_BadField) (.ref c_BadField) = some true)
    (c_i_BadField_BadFraction : PySem.W.kitOne K (.ref c_BadField) (.ref c_BadFraction) = some false)
    (c_i_BadField_BadHeights : PySem.W.kitOne K (.ref c_BadField) (.ref c_BadHeights) = some false)
    (c_i_BadField_BadRow : PySem.W.kitOne K (.ref c_BadField) (.ref c_BadRow) = some false)
    (c_i_BadField_BadRule : PySem.W.kitOne K (.ref c_BadField) (.ref c_BadRule) = some false)
    (c_i_BadField_BadSpot : PySem.W.kitOne K (.ref c_BadField) (.ref c_BadSpot) = some false)
    (c_i_BadField_BadTarget : PySem.W.kitOne K (.ref c_BadField) (.ref c_BadTarget) = some false)
    (c_i_BadField_BookError : PySem.W.kitOne K (.ref c_BadField) (.ref c_BookError) = some false)
    (c_i_BadField_DeedError : PySem.W.kitOne K (.ref c_BadField) (.ref c_DeedError) = some false)
    (c_i_BadField_Gone : PySem.W.kitOne K (.ref c_BadField) (.ref c_Gone) = some false)
    (c_i_BadField_HollowError : PySem.W.kitOne K (.ref c_BadField) (.ref c_HollowError) = some true)
    (c_i_BadField_LookupError : PySem.W.kitOne K (.ref c_BadField) (.type "LookupError") = some false)
    (c_i_BadField_NoHollow : PySem.W.kitOne K (.ref c_BadField) (.ref c_NoHollow) = some false)
    (c_i_BadField_NoPeak : PySem.W.kitOne K (.ref c_BadField) (.ref c_NoPeak) = some false)
    (c_i_BadField_Nought : PySem.W.kitOne K (.ref c_BadField) (.ref c_Nought) = some false)
    (c_i_BadField_RuntimeError : PySem.W.kitOne K (.ref c_BadField) (.type "RuntimeError") = some false)
    (c_i_BadField_TooGreat : PySem.W.kitOne K (.ref c_BadField) (.ref c_TooGreat) = some false)
    (c_i_BadField_ValueError : PySem.W.kitOne K (.ref c_BadField) (.type "ValueError") = some true)
    (c_e_BadField_HollowError_DeedError_BookError : PySem.W.exmAny K (.ref c_BadField) [.ref c_HollowError, .ref c_DeedError, .ref c_BookError] = some true)
    (c_ia_BadField_BadPairing_BadPaper_BadCoin_TooFew_BadText : PySem.W.kitAny K (.ref c_BadField) [.ref c_BadPairing, .ref c_BadPaper, .ref c_BadCoin, .ref c_TooFew, .ref c_BadText] = some false)
    (c_x_BadFraction : PySem.W.excIn K c_BadFraction [.type "ValueError", .type "Exception", .type "BaseException", .type "object"] "ValueError.__new__" = true)
    (c_k_BadFraction : PySem.W.keepIn K (.ref c_BadFraction) = true)
    (c_s_BadFraction : PySem.W.subIn K (.ref c_BadFraction) (.type "BaseException") = some true)
    (c_t_BadFraction : PySem.W.typeIn K (.ref c_BadFraction) = some (.type "type"))
    (c_g_BadFraction : PySem.W.findIn K (.ref c_BadFraction) "__getattribute__" = some (some (.builtin "BaseException.__getattribute__")))
    (c_h_BadFraction : PySem.W.findIn K (.ref c_BadFraction) "__getattr__" = some none)
    (c_d_BadFraction : PySem.W.hasDictIn K c_BadFraction = true)
    (c_c_BadFraction : PySem.W.findIn K (.ref c_BadFraction) "__class__" = some (some (.builtin "object.__class__")))
    (c_m_BadFraction : PySem.W.mroIn K c_BadFraction (.type "object") = some true)
    (c_i_BadFraction_BadField : PySem.W.kitOne K (.ref c_BadFraction) (.ref c_BadField) = some false)
    (c_i_BadFraction_BadFraction : PySem.W.kitOne K (.ref c_BadFraction) (.ref c_BadFraction) = some true)
    (c_i_BadFraction_BadHeights : PySem.W.kitOne K (.ref c_BadFraction) (.ref c_BadHeights) = some false)
    (c_i_BadFraction_BadRow : PySem.W.kitOne K (.ref c_BadFraction) (.ref c_BadRow) = some false)
    (c_i_BadFraction_BadRule : PySem.W.kitOne K (.ref c_BadFraction) (.ref c_BadRule) = some false)
    (c_i_BadFraction_BadSpot : PySem.W.kitOne K (.ref c_BadFraction) (.ref c_BadSpot) = some false)
    (c_i_BadFraction_BadTarget : PySem.W.kitOne K (.ref c_BadFraction) (.ref c_BadTarget) = some false)
    (c_i_BadFraction_BookError : PySem.W.kitOne K (.ref c_BadFraction) (.ref c_BookError) = some false)
    (c_i_BadFraction_DeedError : PySem.W.kitOne K (.ref c_BadFraction) (.ref c_DeedError) = some false)
    (c_i_BadFraction_Gone : PySem.W.kitOne K (.ref c_BadFraction) (.ref c_Gone) = some false)
    (c_i_BadFraction_HollowError : PySem.W.kitOne K (.ref c_BadFraction) (.ref c_HollowError) = some true)
    (c_i_BadFraction_LookupError : PySem.W.kitOne K (.ref c_BadFraction) (.type "LookupError") = some false)
    (c_i_BadFraction_NoHollow : PySem.W.kitOne K (.ref c_BadFraction) (.ref c_NoHollow) = some false)
    (c_i_BadFraction_NoPeak : PySem.W.kitOne K (.ref c_BadFraction) (.ref c_NoPeak) = some false)
    (c_i_BadFraction_Nought : PySem.W.kitOne K (.ref c_BadFraction) (.ref c_Nought) = some false)
    (c_i_BadFraction_RuntimeError : PySem.W.kitOne K (.ref c_BadFraction) (.type "RuntimeError") = some false)
    (c_i_BadFraction_TooGreat : PySem.W.kitOne K (.ref c_BadFraction) (.ref c_TooGreat) = some false)
    (c_i_BadFraction_ValueError : PySem.W.kitOne K (.ref c_BadFraction) (.type "ValueError") = some true)
    (c_e_BadFraction_HollowError_DeedError_BookError : PySem.W.exmAny K (.ref c_BadFraction) [.ref c_HollowError, .ref c_DeedError, .ref c_BookError] = some true)
    (c_ia_BadFraction_BadPairing_BadPaper_BadCoin_TooFew_BadText : PySem.W.kitAny K (.ref c_BadFraction) [.ref c_BadPairing, .ref c_BadPaper, .ref c_BadCoin, .ref c_TooFew, .ref c_BadText] = some false)
    (c_x_BadSpot : PySem.W.excIn K c_BadSpot [.type "ValueError", .type "Exception", .type "BaseException", .type "object"] "ValueError.__new__" = true)
    (c_k_BadSpot : PySem.W.keepIn K (.ref c_BadSpot) = true)
    (c_s_BadSpot : PySem.W.subIn K (.ref c_BadSpot) (.type "BaseException") = some true)
    (c_t_BadSpot : PySem.W.typeIn K (.ref c_BadSpot) = some (.type "type"))
    (c_g_BadSpot : PySem.W.findIn K (.ref c_BadSpot) "__getattribute__" = some (some (.builtin "BaseException.__getattribute__")))
    (c_h_BadSpot : PySem.W.findIn K (.ref c_BadSpot) "__getattr__" = some none)
    (c_d_BadSpot : PySem.W.hasDictIn K c_BadSpot = true)
    (c_c_BadSpot : PySem.W.findIn K (.ref c_BadSpot) "__class__" = some (some (.builtin "object.__class__")))
    (c_m_BadSpot : PySem.W.mroIn K c_BadSpot (.type "object") = some true)
    (c_i_BadSpot_BadField : PySem.W.kitOne K (.ref c_BadSpot) (.ref c_BadField) = some false)
    (c_i_BadSpot_BadFraction : PySem.W.kitOne K (.ref c_BadSpot) (.ref c_BadFraction) = some false)
    (c_i_BadSpot_BadHeights : PySem.W.kitOne K (.ref c_BadSpot) (.ref c_BadHeights) = some false)
    (c_i_BadSpot_BadRow : PySem.W.kitOne K (.ref c_BadSpot) (.ref c_BadRow) = some false)
    (c_i_BadSpot_BadRule : PySem.W.kitOne K (.ref c_BadSpot) (.ref c_BadRule) = some false)
    (c_i_BadSpot_BadSpot : PySem.W.kitOne K (.ref c_BadSpot) (.ref c_BadSpot) = some true)
    (c_i_BadSpot_BadTarget : PySem.W.kitOne K (.ref c_BadSpot) (.ref c_BadTarget) = some false)
    (c_i_BadSpot_BookError : PySem.W.kitOne K (.ref c_BadSpot) (.ref c_BookError) = some false)
    (c_i_BadSpot_DeedError : PySem.W.kitOne K (.ref c_BadSpot) (.ref c_DeedError) = some false)
    (c_i_BadSpot_Gone : PySem.W.kitOne K (.ref c_BadSpot) (.ref c_Gone) = some false)
    (c_i_BadSpot_HollowError : PySem.W.kitOne K (.ref c_BadSpot) (.ref c_HollowError) = some true)
    (c_i_BadSpot_LookupError : PySem.W.kitOne K (.ref c_BadSpot) (.type "LookupError") = some false)
    (c_i_BadSpot_NoHollow : PySem.W.kitOne K (.ref c_BadSpot) (.ref c_NoHollow) = some false)
    (c_i_BadSpot_NoPeak : PySem.W.kitOne K (.ref c_BadSpot) (.ref c_NoPeak) = some false)
    (c_i_BadSpot_Nought : PySem.W.kitOne K (.ref c_BadSpot) (.ref c_Nought) = some false)
    (c_i_BadSpot_RuntimeError : PySem.W.kitOne K (.ref c_BadSpot) (.type "RuntimeError") = some false)
    (c_i_BadSpot_TooGreat : PySem.W.kitOne K (.ref c_BadSpot) (.ref c_TooGreat) = some false)
    (c_i_BadSpot_ValueError : PySem.W.kitOne K (.ref c_BadSpot) (.type "ValueError") = some true)
    (c_e_BadSpot_HollowError_DeedError_BookError : PySem.W.exmAny K (.ref c_BadSpot) [.ref c_HollowError, .ref c_DeedError, .ref c_BookError] = some true)
    (c_ia_BadSpot_BadPairing_BadPaper_BadCoin_TooFew_BadText : PySem.W.kitAny K (.ref c_BadSpot) [.ref c_BadPairing, .ref c_BadPaper, .ref c_BadCoin, .ref c_TooFew, .ref c_BadText] = some false)
    (c_ic_BadField : PySem.W.findIn K (.ref c_BadField) "__init__" = some (some (.ref fi_BadField)))
    (c_li_BadField : K.lookup fi_BadField = some ⟨oci_BadField, odi_BadField, .func (PySem.W.fnOf "__init__" "BadField.__init__" (defArgs si_BadField) (defBody si_BadField) (defScope si_BadField) dVi_BadField kVi_BadField dci_BadField pmi_BadField ani_BadField cdi_BadField cti_BadField), sli_BadField⟩)
    (c_oi_BadField : PySem.W.codeIn K cdi_BadField "BadField.__init__" = true)
    (c_ei_BadField : PySem.W.keepIn K (.ref fi_BadField) = true)
    (c_ti_BadField : PySem.W.typeIn K (.ref fi_BadField) = some (.type "function"))
    (c_nf_BadField : PySem.W.findIn K (.ref c_BadField) "place" = some none)
    (c_sa_BadField : PySem.W.findIn K (.ref c_BadField) "__setattr__" = some (some (.builtin "object.__setattr__")))
    (c_cl_BadField : K.lookup c_BadField = some (excClassObj nmC_BadField qC_BadField c_BadField NC_BadField bsC_BadField bmC_BadField true snC_BadField subC_BadField abC_BadField colC_BadField ddC_BadField k0C_BadField k1C_BadField k2C_BadField k3C_BadField k5C_BadField "ValueError.__new__"))
    (c_rv_BadField : PySem.HandSPX.refsVE bmC_BadField = true)
    (c_df_BadField : dflN K dVi_BadField = true)
    (c_wa_HollowError : PySem.W.specialIn K (.ref c_HollowError) "__getattribute__" = some (some (.builtin "type.__getattribute__")))
    (c_wr_HollowError : PySem.W.readsIn K c_HollowError (.type "type") = true)
    (c_wf_HollowError : PySem.W.findCls K (.ref c_HollowError) (.type "type") "__init__" = some (.val (.builtin "ValueError.__init__")))
    (c_n_BadField : PySem.W.kitOne K (.type "NoneType") (.ref c_BadField) = some false)
    (c_n_BadFraction : PySem.W.kitOne K (.type "NoneType") (.ref c_BadFraction) = some false)
    (c_n_BadHeights : PySem.W.kitOne K (.type "NoneType") (.ref c_BadHeights) = some false)
    (c_n_BadRow : PySem.W.kitOne K (.type "NoneType") (.ref c_BadRow) = some false)
    (c_n_BadRule : PySem.W.kitOne K (.type "NoneType") (.ref c_BadRule) = some false)
    (c_n_BadSpot : PySem.W.kitOne K (.type "NoneType") (.ref c_BadSpot) = some false)
    (c_n_BadTarget : PySem.W.kitOne K (.type "NoneType") (.ref c_BadTarget) = some false)
    (c_n_BookError : PySem.W.kitOne K (.type "NoneType") (.ref c_BookError) = some false)
    (c_n_DeedError : PySem.W.kitOne K (.type "NoneType") (.ref c_DeedError) = some false)
    (c_n_Gone : PySem.W.kitOne K (.type "NoneType") (.ref c_Gone) = some false)
    (c_n_HollowError : PySem.W.kitOne K (.type "NoneType") (.ref c_HollowError) = some false)
    (c_n_NoHollow : PySem.W.kitOne K (.type "NoneType") (.ref c_NoHollow) = some false)
    (c_n_NoPeak : PySem.W.kitOne K (.type "NoneType") (.ref c_NoPeak) = some false)
    (c_n_Nought : PySem.W.kitOne K (.type "NoneType") (.ref c_Nought) = some false)
    (c_n_TooGreat : PySem.W.kitOne K (.type "NoneType") (.ref c_TooGreat) = some false)
    (g_n : PySem.W.specialIn K (.builtin "object.__class__") "__get__" = some (some (.builtin "getset_descriptor.__get__")))
    (g_t : PySem.W.takesIn K (.builtin "object.__class__") = some true)
    : LawG l w K 10 "_law_script" mg fa h := by
  have e := hfa.symm.trans (PySem.W.mg_of X G a_p_law)
  cases e
  let A : Adr := ⟨f_p_is_whole, (PySem.W.fnOf "is_whole" "is_whole" (defArgs s_p_is_whole) (defBody s_p_is_whole) (defScope s_p_is_whole) .none kV_p_is_whole dc_p_is_whole pm_p_is_whole an_p_is_whole cd_p_is_whole ct_p_is_whole), f_p_own_common, (PySem.W.fnOf "own_common" "own_common" (defArgs s_p_own_common) (defBody s_p_own_common) (defScope s_p_own_common) .none kV_p_own_common dc_p_own_common pm_p_own_common an_p_own_common cd_p_own_common ct_p_own_common), f_p_is_fraction, (PySem.W.fnOf "is_fraction" "is_fraction" (defArgs s_p_is_fraction) (defBody s_p_is_fraction) (defScope s_p_is_fraction) .none kV_p_is_fraction dc_p_is_fraction pm_p_is_fraction an_p_is_fraction cd_p_is_fraction ct_p_is_fraction), f_p_own_shape, (PySem.W.fnOf "own_shape" "own_shape" (defArgs s_p_own_shape) (defBody s_p_own_shape) (defScope s_p_own_shape) .none kV_p_own_shape dc_p_own_shape pm_p_own_shape an_p_own_shape cd_p_own_shape ct_p_own_shape), f_p_shape_spots, (PySem.W.fnOf "shape_spots" "shape_spots" (defArgs s_p_shape_spots) (defBody s_p_shape_spots) (defScope s_p_shape_spots) .none kV_p_shape_spots dc_p_shape_spots pm_p_shape_spots an_p_shape_spots cd_p_shape_spots ct_p_shape_spots), f_p_is_on_rim, (PySem.W.fnOf "is_on_rim" "is_on_rim" (defArgs s_p_is_on_rim) (defBody s_p_is_on_rim) (defScope s_p_is_on_rim) .none kV_p_is_on_rim dc_p_is_on_rim pm_p_is_on_rim an_p_is_on_rim cd_p_is_on_rim ct_p_is_on_rim), f_p_at, (PySem.W.fnOf "at" "at" (defArgs s_p_at) (defBody s_p_at) (defScope s_p_at) .none kV_p_at dc_p_at pm_p_at an_p_at cd_p_at ct_p_at), f_p_exchanged, (PySem.W.fnOf "exchanged" "exchanged" (defArgs s_p_exchanged) (defBody s_p_exchanged) (defScope s_p_exchanged) .none kV_p_exchanged dc_p_exchanged pm_p_exchanged an_p_exchanged cd_p_exchanged ct_p_exchanged), f_p_are_numbers, (PySem.W.fnOf "are_numbers" "are_numbers" (defArgs s_p_are_numbers) (defBody s_p_are_numbers) (defScope s_p_are_numbers) .none kV_p_are_numbers dc_p_are_numbers pm_p_are_numbers an_p_are_numbers cd_p_are_numbers ct_p_are_numbers), f_p_are_steps, (PySem.W.fnOf "are_steps" "are_steps" (defArgs s_p_are_steps) (defBody s_p_are_steps) (defScope s_p_are_steps) .none kV_p_are_steps dc_p_are_steps pm_p_are_steps an_p_are_steps cd_p_are_steps ct_p_are_steps), f_p_are_worths, (PySem.W.fnOf "are_worths" "are_worths" (defArgs s_p_are_worths) (defBody s_p_are_worths) (defScope s_p_are_worths) .none kV_p_are_worths dc_p_are_worths pm_p_are_worths an_p_are_worths cd_p_are_worths ct_p_are_worths), f_p_field_faults, (PySem.W.fnOf "field_faults" "field_faults" (defArgs s_p_field_faults) (defBody s_p_field_faults) (defScope s_p_field_faults) .none kV_p_field_faults dc_p_field_faults pm_p_field_faults an_p_field_faults cd_p_field_faults ct_p_field_faults), f_p_need_field, (PySem.W.fnOf "need_field" "need_field" (defArgs s_p_need_field) (defBody s_p_need_field) (defScope s_p_need_field) .none kV_p_need_field dc_p_need_field pm_p_need_field an_p_need_field cd_p_need_field ct_p_need_field), f_p_is_spot_of, (PySem.W.fnOf "is_spot_of" "is_spot_of" (defArgs s_p_is_spot_of) (defBody s_p_is_spot_of) (defScope s_p_is_spot_of) .none kV_p_is_spot_of dc_p_is_spot_of pm_p_is_spot_of an_p_is_spot_of cd_p_is_spot_of ct_p_is_spot_of), f_p_need_spot, (PySem.W.fnOf "need_spot" "need_spot" (defArgs s_p_need_spot) (defBody s_p_need_spot) (defScope s_p_need_spot) .none kV_p_need_spot dc_p_need_spot pm_p_need_spot an_p_need_spot cd_p_need_spot ct_p_need_spot), f_p_own_spots, (PySem.W.fnOf "own_spots" "own_spots" (defArgs s_p_own_spots) (defBody s_p_own_spots) (defScope s_p_own_spots) .none kV_p_own_spots dc_p_own_spots pm_p_own_spots an_p_own_spots cd_p_own_spots ct_p_own_spots), f_p_own_rim, (PySem.W.fnOf "own_rim" "own_rim" (defArgs s_p_own_rim) (defBody s_p_own_rim) (defScope s_p_own_rim) .none kV_p_own_rim dc_p_own_rim pm_p_own_rim an_p_own_rim cd_p_own_rim ct_p_own_rim), f_p_own_neighbours, (PySem.W.fnOf "own_neighbours" "own_neighbours" (defArgs s_p_own_neighbours) (defBody s_p_own_neighbours) (defScope s_p_own_neighbours) .none kV_p_own_neighbours dc_p_own_neighbours pm_p_own_neighbours an_p_own_neighbours cd_p_own_neighbours ct_p_own_neighbours), f_p_height_in, (PySem.W.fnOf "height_in" "height_in" (defArgs s_p_height_in) (defBody s_p_height_in) (defScope s_p_height_in) .none kV_p_height_in dc_p_height_in pm_p_height_in an_p_height_in cd_p_height_in ct_p_height_in), f_p_worth_in, (PySem.W.fnOf "worth_in" "worth_in" (defArgs s_p_worth_in) (defBody s_p_worth_in) (defScope s_p_worth_in) .none kV_p_worth_in dc_p_worth_in pm_p_worth_in an_p_worth_in cd_p_worth_in ct_p_worth_in), f_p_board, (PySem.W.fnOf "board" "board" (defArgs s_p_board) (defBody s_p_board) (defScope s_p_board) .none kV_p_board dc_p_board pm_p_board an_p_board cd_p_board ct_p_board), f_p_spots, (PySem.W.fnOf "spots" "spots" (defArgs s_p_spots) (defBody s_p_spots) (defScope s_p_spots) .none kV_p_spots dc_p_spots pm_p_spots an_p_spots cd_p_spots ct_p_spots), f_p_rim, (PySem.W.fnOf "rim" "rim" (defArgs s_p_rim) (defBody s_p_rim) (defScope s_p_rim) .none kV_p_rim dc_p_rim pm_p_rim an_p_rim cd_p_rim ct_p_rim), f_p_inner, (PySem.W.fnOf "inner" "inner" (defArgs s_p_inner) (defBody s_p_inner) (defScope s_p_inner) .none kV_p_inner dc_p_inner pm_p_inner an_p_inner cd_p_inner ct_p_inner), f_p_neighbours, (PySem.W.fnOf "neighbours" "neighbours" (defArgs s_p_neighbours) (defBody s_p_neighbours) (defScope s_p_neighbours) .none kV_p_neighbours dc_p_neighbours pm_p_neighbours an_p_neighbours cd_p_neighbours ct_p_neighbours), f_p_way, (PySem.W.fnOf "way" "way" (defArgs s_p_way) (defBody s_p_way) (defScope s_p_way) .none kV_p_way dc_p_way pm_p_way an_p_way cd_p_way ct_p_way), f_p_height_at, (PySem.W.fnOf "height_at" "height_at" (defArgs s_p_height_at) (defBody s_p_height_at) (defScope s_p_height_at) .none kV_p_height_at dc_p_height_at pm_p_height_at an_p_height_at cd_p_height_at ct_p_height_at), f_p_worth_of, (PySem.W.fnOf "worth_of" "worth_of" (defArgs s_p_worth_of) (defBody s_p_worth_of) (defScope s_p_worth_of) .none kV_p_worth_of dc_p_worth_of pm_p_worth_of an_p_worth_of cd_p_worth_of ct_p_worth_of), f_p_own_with, (PySem.W.fnOf "own_with" "own_with" (defArgs s_p_own_with) (defBody s_p_own_with) (defScope s_p_own_with) .none kV_p_own_with dc_p_own_with pm_p_own_with an_p_own_with cd_p_own_with ct_p_own_with), f_p_with_worth, (PySem.W.fnOf "with_worth" "with_worth" (defArgs s_p_with_worth) (defBody s_p_with_worth) (defScope s_p_with_worth) .none kV_p_with_worth dc_p_with_worth pm_p_with_worth an_p_with_worth cd_p_with_worth ct_p_with_worth), f_u_law_cell, (PySem.W.fnOf "_law_cell" "_law_cell" (defArgs s_u_law_cell) (defBody s_u_law_cell) (defScope s_u_law_cell) .none kV_u_law_cell dc_u_law_cell pm_u_law_cell an_u_law_cell cd_u_law_cell ct_u_law_cell), f_u_law_low, (PySem.W.fnOf "_law_low" "_law_low" (defArgs s_u_law_low) (defBody s_u_law_low) (defScope s_u_law_low) .none kV_u_law_low dc_u_law_low pm_u_law_low an_u_law_low cd_u_law_low ct_u_law_low), f_u_law_heights, (PySem.W.fnOf "_law_heights" "_law_heights" (defArgs s_u_law_heights) (defBody s_u_law_heights) (defScope s_u_law_heights) .none kV_u_law_heights dc_u_law_heights pm_u_law_heights an_u_law_heights cd_u_law_heights ct_u_law_heights), f_u_law_worths, (PySem.W.fnOf "_law_worths" "_law_worths" (defArgs s_u_law_worths) (defBody s_u_law_worths) (defScope s_u_law_worths) .none kV_u_law_worths dc_u_law_worths pm_u_law_worths an_u_law_worths cd_u_law_worths ct_u_law_worths), f_u_law_field, (PySem.W.fnOf "_law_field" "_law_field" (defArgs s_u_law_field) (defBody s_u_law_field) (defScope s_u_law_field) .none kV_u_law_field dc_u_law_field pm_u_law_field an_u_law_field cd_u_law_field ct_u_law_field), f_u_law_asked, (PySem.W.fnOf "_law_asked" "_law_asked" (defArgs s_u_law_asked) (defBody s_u_law_asked) (defScope s_u_law_asked) .none kV_u_law_asked dc_u_law_asked pm_u_law_asked an_u_law_asked cd_u_law_asked ct_u_law_asked), f_u_law_spots, (PySem.W.fnOf "_law_spots" "_law_spots" (defArgs s_u_law_spots) (defBody s_u_law_spots) (defScope s_u_law_spots) .none kV_u_law_spots dc_u_law_spots pm_u_law_spots an_u_law_spots cd_u_law_spots ct_u_law_spots), f_u_law_near, (PySem.W.fnOf "_law_near" "_law_near" (defArgs s_u_law_near) (defBody s_u_law_near) (defScope s_u_law_near) .none kV_u_law_near dc_u_law_near pm_u_law_near an_u_law_near cd_u_law_near ct_u_law_near), f_u_law_whole_right, (PySem.W.fnOf "_law_whole_right" "_law_whole_right" (defArgs s_u_law_whole_right) (defBody s_u_law_whole_right) (defScope s_u_law_whole_right) .none kV_u_law_whole_right dc_u_law_whole_right pm_u_law_whole_right an_u_law_whole_right cd_u_law_whole_right ct_u_law_whole_right), f_u_law_spot_right, (PySem.W.fnOf "_law_spot_right" "_law_spot_right" (defArgs s_u_law_spot_right) (defBody s_u_law_spot_right) (defScope s_u_law_spot_right) .none kV_u_law_spot_right dc_u_law_spot_right pm_u_law_spot_right an_u_law_spot_right cd_u_law_spot_right ct_u_law_spot_right), f_u_law_with_right, (PySem.W.fnOf "_law_with_right" "_law_with_right" (defArgs s_u_law_with_right) (defBody s_u_law_with_right) (defScope s_u_law_with_right) .none kV_u_law_with_right dc_u_law_with_right pm_u_law_with_right an_u_law_with_right cd_u_law_with_right ct_u_law_with_right), f_u_law_no_spot, (PySem.W.fnOf "_law_no_spot" "_law_no_spot" (defArgs s_u_law_no_spot) (defBody s_u_law_no_spot) (defScope s_u_law_no_spot) .none kV_u_law_no_spot dc_u_law_no_spot pm_u_law_no_spot an_u_law_no_spot cd_u_law_no_spot ct_u_law_no_spot), f_u_law_refused_right, (PySem.W.fnOf "_law_refused_right" "_law_refused_right" (defArgs s_u_law_refused_right) (defBody s_u_law_refused_right) (defScope s_u_law_refused_right) .none kV_u_law_refused_right dc_u_law_refused_right pm_u_law_refused_right an_u_law_refused_right (.ref k_u_law_refused_right) ct_u_law_refused_right), fa, (PySem.W.fnOf "law" "law" (defArgs s_p_law) (defBody s_p_law) (defScope s_p_law) .none kV_p_law dc_p_law pm_p_law an_p_law cd_p_law ct_p_law), k_u_law_refused_right, t_u_law_refused_right, c_BadCoin, c_BadField, c_BadFraction, c_BadHeights, c_BadPairing, c_BadPaper, c_BadRow, c_BadRule, c_BadSpot, c_BadTarget, c_BadText, c_BookError, c_DeedError, c_Gone, c_HollowError, c_NoHollow, c_NoPeak, c_Nought, c_TooFew, c_TooGreat, fi_BadField, (PySem.W.fnOf "__init__" "BadField.__init__" (defArgs si_BadField) (defBody si_BadField) (defScope si_BadField) dVi_BadField kVi_BadField dci_BadField pmi_BadField ani_BadField cdi_BadField cti_BadField)⟩
  have F : Fct K mg A := {
    m_p_is_whole := PySem.W.mg_of X G a_p_is_whole
    f_p_is_whole := fun_mk l_p_is_whole o_p_is_whole e_p_is_whole
    b_p_is_whole := (fun_mk (st := s_p_is_whole) l_p_is_whole o_p_is_whole e_p_is_whole).binds (ps := ["thing"]) fun _ _ _ _ _ _ us hl => match us, hl with | [_], _ => rfl
    m_p_own_common := PySem.W.mg_of X G a_p_own_common
    f_p_own_common := fun_mk l_p_own_common o_p_own_common e_p_own_common
    b_p_own_common := (fun_mk (st := s_p_own_common) l_p_own_common o_p_own_common e_p_own_common).binds (ps := ["one", "other"]) fun _ _ _ _ _ _ us hl => match us, hl with | [_, _], _ => rfl
    m_p_is_fraction := PySem.W.mg_of X G a_p_is_fraction
    f_p_is_fraction := fun_mk l_p_is_fraction o_p_is_fraction e_p_is_fraction
    b_p_is_fraction := (fun_mk (st := s_p_is_fraction) l_p_is_fraction o_p_is_fraction e_p_is_fraction).binds (ps := ["thing"]) fun _ _ _ _ _ _ us hl => match us, hl with | [_], _ => rfl
    m_p_own_shape := PySem.W.mg_of X G a_p_own_shape
    f_p_own_shape := fun_mk l_p_own_shape o_p_own_shape e_p_own_shape
    b_p_own_shape := (fun_mk (st := s_p_own_shape) l_p_own_shape o_p_own_shape e_p_own_shape).binds (ps := ["thing"]) fun _ _ _ _ _ _ us hl => match us, hl with | [_], _ => rfl
    m_p_shape_spots := PySem.W.mg_of X G a_p_shape_spots
    f_p_shape_spots := fun_mk l_p_shape_spots o_p_shape_spots e_p_shape_spots
    b_p_shape_spots := (fun_mk (st := s_p_shape_spots) l_p_shape_spots o_p_shape_spots e_p_shape_spots).binds (ps := ["shape"]) fun _ _ _ _ _ _ us hl => match us, hl with | [_], _ => rfl
    m_p_is_on_rim := PySem.W.mg_of X G a_p_is_on_rim
    f_p_is_on_rim := fun_mk l_p_is_on_rim o_p_is_on_rim e_p_is_on_rim
    b_p_is_on_rim := (fun_mk (st := s_p_is_on_rim) l_p_is_on_rim o_p_is_on_rim e_p_is_on_rim).binds (ps := ["shape", "spot"]) fun _ _ _ _ _ _ us hl => match us, hl with | [_, _], _ => rfl
    m_p_at := PySem.W.mg_of X G a_p_at
    f_p_at := fun_mk l_p_at o_p_at e_p_at
    b_p_at := (fun_mk (st := s_p_at) l_p_at o_p_at e_p_at).binds (ps := ["rows", "spot"]) fun _ _ _ _ _ _ us hl => match us, hl with | [_, _], _ => rfl
    m_p_exchanged := PySem.W.mg_of X G a_p_exchanged
    f_p_exchanged := fun_mk l_p_exchanged o_p_exchanged e_p_exchanged
    b_p_exchanged := (fun_mk (st := s_p_exchanged) l_p_exchanged o_p_exchanged e_p_exchanged).binds (ps := ["rows", "spot", "thing"]) fun _ _ _ _ _ _ us hl => match us, hl with | [_, _, _], _ => rfl
    m_p_are_numbers := PySem.W.mg_of X G a_p_are_numbers
    f_p_are_numbers := fun_mk l_p_are_numbers o_p_are_numbers e_p_are_numbers
    b_p_are_numbers := (fun_mk (st := s_p_are_numbers) l_p_are_numbers o_p_are_numbers e_p_are_numbers).binds (ps := ["rows", "shape"]) fun _ _ _ _ _ _ us hl => match us, hl with | [_, _], _ => rfl
    m_p_are_steps := PySem.W.mg_of X G a_p_are_steps
    f_p_are_steps := fun_mk l_p_are_steps o_p_are_steps e_p_are_steps
    b_p_are_steps := (fun_mk (st := s_p_are_steps) l_p_are_steps o_p_are_steps e_p_are_steps).binds (ps := ["heights"]) fun _ _ _ _ _ _ us hl => match us, hl with | [_], _ => rfl
    m_p_are_worths := PySem.W.mg_of X G a_p_are_worths
    f_p_are_worths := fun_mk l_p_are_worths o_p_are_worths e_p_are_worths
    b_p_are_worths := (fun_mk (st := s_p_are_worths) l_p_are_worths o_p_are_worths e_p_are_worths).binds (ps := ["thing", "shape"]) fun _ _ _ _ _ _ us hl => match us, hl with | [_, _], _ => rfl
    m_p_field_faults := PySem.W.mg_of X G a_p_field_faults
    f_p_field_faults := fun_mk l_p_field_faults o_p_field_faults e_p_field_faults
    b_p_field_faults := (fun_mk (st := s_p_field_faults) l_p_field_faults o_p_field_faults e_p_field_faults).binds (ps := ["thing"]) fun _ _ _ _ _ _ us hl => match us, hl with | [_], _ => rfl
    m_p_need_field := PySem.W.mg_of X G a_p_need_field
    f_p_need_field := fun_mk l_p_need_field o_p_need_field e_p_need_field
    b_p_need_field := (fun_mk (st := s_p_need_field) l_p_need_field o_p_need_field e_p_need_field).binds (ps := ["thing"]) fun _ _ _ _ _ _ us hl => match us, hl with | [_], _ => rfl
    m_p_is_spot_of := PySem.W.mg_of X G a_p_is_spot_of
    f_p_is_spot_of := fun_mk l_p_is_spot_of o_p_is_spot_of e_p_is_spot_of
    b_p_is_spot_of := (fun_mk (st := s_p_is_spot_of) l_p_is_spot_of o_p_is_spot_of e_p_is_spot_of).binds (ps := ["shape", "thing"]) fun _ _ _ _ _ _ us hl => match us, hl with | [_, _], _ => rfl
    m_p_need_spot := PySem.W.mg_of X G a_p_need_spot
    f_p_need_spot := fun_mk l_p_need_spot o_p_need_spot e_p_need_spot
    b_p_need_spot := (fun_mk (st := s_p_need_spot) l_p_need_spot o_p_need_spot e_p_need_spot).binds (ps := ["field", "spot"]) fun _ _ _ _ _ _ us hl => match us, hl with | [_, _], _ => rfl
    m_p_own_spots := PySem.W.mg_of X G a_p_own_spots
    f_p_own_spots := fun_mk l_p_own_spots o_p_own_spots e_p_own_spots
    b_p_own_spots := (fun_mk (st := s_p_own_spots) l_p_own_spots o_p_own_spots e_p_own_spots).binds (ps := ["field"]) fun _ _ _ _ _ _ us hl => match us, hl with | [_], _ => rfl
    m_p_own_rim := PySem.W.mg_of X G a_p_own_rim
    f_p_own_rim := fun_mk l_p_own_rim o_p_own_rim e_p_own_rim
    b_p_own_rim := (fun_mk (st := s_p_own_rim) l_p_own_rim o_p_own_rim e_p_own_rim).binds (ps := ["shape"]) fun _ _ _ _ _ _ us hl => match us, hl with | [_], _ => rfl
    m_p_own_neighbours := PySem.W.mg_of X G a_p_own_neighbours
    f_p_own_neighbours := fun_mk l_p_own_neighbours o_p_own_neighbours e_p_own_neighbours
    b_p_own_neighbours := (fun_mk (st := s_p_own_neighbours) l_p_own_neighbours o_p_own_neighbours e_p_own_neighbours).binds (ps := ["shape", "spot"]) fun _ _ _ _ _ _ us hl => match us, hl with | [_, _], _ => rfl
    m_p_height_in := PySem.W.mg_of X G a_p_height_in
    f_p_height_in := fun_mk l_p_height_in o_p_height_in e_p_height_in
    b_p_height_in := (fun_mk (st := s_p_height_in) l_p_height_in o_p_height_in e_p_height_in).binds (ps := ["field", "spot"]) fun _ _ _ _ _ _ us hl => match us, hl with | [_, _], _ => rfl
    m_p_worth_in := PySem.W.mg_of X G a_p_worth_in
    f_p_worth_in := fun_mk l_p_worth_in o_p_worth_in e_p_worth_in
    b_p_worth_in := (fun_mk (st := s_p_worth_in) l_p_worth_in o_p_worth_in e_p_worth_in).binds (ps := ["field", "spot"]) fun _ _ _ _ _ _ us hl => match us, hl with | [_, _], _ => rfl
    m_p_board := PySem.W.mg_of X G a_p_board
    f_p_board := fun_mk l_p_board o_p_board e_p_board
    b_p_board := (fun_mk (st := s_p_board) l_p_board o_p_board e_p_board).binds (ps := ["field"]) fun _ _ _ _ _ _ us hl => match us, hl with | [_], _ => rfl
    m_p_spots := PySem.W.mg_of X G a_p_spots
    f_p_spots := fun_mk l_p_spots o_p_spots e_p_spots
    b_p_spots := (fun_mk (st := s_p_spots) l_p_spots o_p_spots e_p_spots).binds (ps := ["field"]) fun _ _ _ _ _ _ us hl => match us, hl with | [_], _ => rfl
    m_p_rim := PySem.W.mg_of X G a_p_rim
    f_p_rim := fun_mk l_p_rim o_p_rim e_p_rim
    b_p_rim := (fun_mk (st := s_p_rim) l_p_rim o_p_rim e_p_rim).binds (ps := ["field"]) fun _ _ _ _ _ _ us hl => match us, hl with | [_], _ => rfl
    m_p_inner := PySem.W.mg_of X G a_p_inner
    f_p_inner := fun_mk l_p_inner o_p_inner e_p_inner
    b_p_inner := (fun_mk (st := s_p_inner) l_p_inner o_p_inner e_p_inner).binds (ps := ["field"]) fun _ _ _ _ _ _ us hl => match us, hl with | [_], _ => rfl
    m_p_neighbours := PySem.W.mg_of X G a_p_neighbours
    f_p_neighbours := fun_mk l_p_neighbours o_p_neighbours e_p_neighbours
    b_p_neighbours := (fun_mk (st := s_p_neighbours) l_p_neighbours o_p_neighbours e_p_neighbours).binds (ps := ["field", "spot"]) fun _ _ _ _ _ _ us hl => match us, hl with | [_, _], _ => rfl
    m_p_way := PySem.W.mg_of X G a_p_way
    f_p_way := fun_mk l_p_way o_p_way e_p_way
    b_p_way := (fun_mk (st := s_p_way) l_p_way o_p_way e_p_way).binds (ps := ["spot", "other"]) fun _ _ _ _ _ _ us hl => match us, hl with | [_, _], _ => rfl
    m_p_height_at := PySem.W.mg_of X G a_p_height_at
    f_p_height_at := fun_mk l_p_height_at o_p_height_at e_p_height_at
    b_p_height_at := (fun_mk (st := s_p_height_at) l_p_height_at o_p_height_at e_p_height_at).binds (ps := ["field", "spot"]) fun _ _ _ _ _ _ us hl => match us, hl with | [_, _], _ => rfl
    m_p_worth_of := PySem.W.mg_of X G a_p_worth_of
    f_p_worth_of := fun_mk l_p_worth_of o_p_worth_of e_p_worth_of
    b_p_worth_of := (fun_mk (st := s_p_worth_of) l_p_worth_of o_p_worth_of e_p_worth_of).binds (ps := ["field", "spot"]) fun _ _ _ _ _ _ us hl => match us, hl with | [_, _], _ => rfl
    m_p_own_with := PySem.W.mg_of X G a_p_own_with
    f_p_own_with := fun_mk l_p_own_with o_p_own_with e_p_own_with
    b_p_own_with := (fun_mk (st := s_p_own_with) l_p_own_with o_p_own_with e_p_own_with).binds (ps := ["field", "spot", "worth"]) fun _ _ _ _ _ _ us hl => match us, hl with | [_, _, _], _ => rfl
    m_p_with_worth := PySem.W.mg_of X G a_p_with_worth
    f_p_with_worth := fun_mk l_p_with_worth o_p_with_worth e_p_with_worth
    b_p_with_worth := (fun_mk (st := s_p_with_worth) l_p_with_worth o_p_with_worth e_p_with_worth).binds (ps := ["field", "spot", "fraction"]) fun _ _ _ _ _ _ us hl => match us, hl with | [_, _, _], _ => rfl
    m_u_law_cell := PySem.W.mg_of X G a_u_law_cell
    f_u_law_cell := fun_mk l_u_law_cell o_u_law_cell e_u_law_cell
    b_u_law_cell := (fun_mk (st := s_u_law_cell) l_u_law_cell o_u_law_cell e_u_law_cell).binds (ps := ["_law_cells", "_law_spot"]) fun _ _ _ _ _ _ us hl => match us, hl with | [_, _], _ => rfl
    m_u_law_low := PySem.W.mg_of X G a_u_law_low
    f_u_law_low := fun_mk l_u_law_low o_u_law_low e_u_law_low
    b_u_law_low := (fun_mk (st := s_u_law_low) l_u_law_low o_u_law_low e_u_law_low).binds (ps := ["_law_above", "_law_below"]) fun _ _ _ _ _ _ us hl => match us, hl with | [_, _], _ => rfl
    m_u_law_heights := PySem.W.mg_of X G a_u_law_heights
    f_u_law_heights := fun_mk l_u_law_heights o_u_law_heights e_u_law_heights
    b_u_law_heights := (fun_mk (st := s_u_law_heights) l_u_law_heights o_u_law_heights e_u_law_heights).binds (ps := ["_law_cells", "_law_spot", "_law_wide", "_law_high", "_law_base"]) fun _ _ _ _ _ _ us hl => match us, hl with | [_, _, _, _, _], _ => rfl
    m_u_law_worths := PySem.W.mg_of X G a_u_law_worths
    f_u_law_worths := fun_mk l_u_law_worths o_u_law_worths e_u_law_worths
    b_u_law_worths := (fun_mk (st := s_u_law_worths) l_u_law_worths o_u_law_worths e_u_law_worths).binds (ps := ["_law_cells", "_law_spot", "_law_wide", "_law_high", "_law_sort"]) fun _ _ _ _ _ _ us hl => match us, hl with | [_, _, _, _, _], _ => rfl
    m_u_law_field := PySem.W.mg_of X G a_u_law_field
    f_u_law_field := fun_mk l_u_law_field o_u_law_field e_u_law_field
    b_u_law_field := (fun_mk (st := s_u_law_field) l_u_law_field o_u_law_field e_u_law_field).binds (ps := ["_law_cells", "_law_spot", "_law_least", "_law_most"]) fun _ _ _ _ _ _ us hl => match us, hl with | [_, _, _, _], _ => rfl
    m_u_law_asked := PySem.W.mg_of X G a_u_law_asked
    f_u_law_asked := fun_mk l_u_law_asked o_u_law_asked e_u_law_asked
    b_u_law_asked := (fun_mk (st := s_u_law_asked) l_u_law_asked o_u_law_asked e_u_law_asked).binds (ps := ["_law_deed"]) fun _ _ _ _ _ _ us hl => match us, hl with | [_], _ => rfl
    m_u_law_spots := PySem.W.mg_of X G a_u_law_spots
    f_u_law_spots := fun_mk l_u_law_spots o_u_law_spots e_u_law_spots
    b_u_law_spots := (fun_mk (st := s_u_law_spots) l_u_law_spots o_u_law_spots e_u_law_spots).binds (ps := ["_law_wide", "_law_high"]) fun _ _ _ _ _ _ us hl => match us, hl with | [_, _], _ => rfl
    m_u_law_near := PySem.W.mg_of X G a_u_law_near
    f_u_law_near := fun_mk l_u_law_near o_u_law_near e_u_law_near
    b_u_law_near := (fun_mk (st := s_u_law_near) l_u_law_near o_u_law_near e_u_law_near).binds (ps := ["_law_some", "_law_spot"]) fun _ _ _ _ _ _ us hl => match us, hl with | [_, _], _ => rfl
    m_u_law_whole_right := PySem.W.mg_of X G a_u_law_whole_right
    f_u_law_whole_right := fun_mk l_u_law_whole_right o_u_law_whole_right e_u_law_whole_right
    b_u_law_whole_right := (fun_mk (st := s_u_law_whole_right) l_u_law_whole_right o_u_law_whole_right e_u_law_whole_right).binds (ps := ["_law_field_here"]) fun _ _ _ _ _ _ us hl => match us, hl with | [_], _ => rfl
    m_u_law_spot_right := PySem.W.mg_of X G a_u_law_spot_right
    f_u_law_spot_right := fun_mk l_u_law_spot_right o_u_law_spot_right e_u_law_spot_right
    b_u_law_spot_right := (fun_mk (st := s_u_law_spot_right) l_u_law_spot_right o_u_law_spot_right e_u_law_spot_right).binds (ps := ["_law_field_here", "_law_spot", "_law_other"]) fun _ _ _ _ _ _ us hl => match us, hl with | [_, _, _], _ => rfl
    m_u_law_with_right := PySem.W.mg_of X G a_u_law_with_right
    f_u_law_with_right := fun_mk l_u_law_with_right o_u_law_with_right e_u_law_with_right
    b_u_law_with_right := (fun_mk (st := s_u_law_with_right) l_u_law_with_right o_u_law_with_right e_u_law_with_right).binds (ps := ["_law_field_here", "_law_spot", "_law_worth"]) fun _ _ _ _ _ _ us hl => match us, hl with | [_, _, _], _ => rfl
    m_u_law_no_spot := PySem.W.mg_of X G a_u_law_no_spot
    f_u_law_no_spot := fun_mk l_u_law_no_spot o_u_law_no_spot e_u_law_no_spot
    b_u_law_no_spot := (fun_mk (st := s_u_law_no_spot) l_u_law_no_spot o_u_law_no_spot e_u_law_no_spot).binds (ps := ["_law_field_here", "_law_n"]) fun _ _ _ _ _ _ us hl => match us, hl with | [_, _], _ => rfl
    m_u_law_refused_right := PySem.W.mg_of X G a_u_law_refused_right
    f_u_law_refused_right := fun_mk l_u_law_refused_right o_u_law_refused_right e_u_law_refused_right
    b_u_law_refused_right := (fun_mk (st := s_u_law_refused_right) l_u_law_refused_right o_u_law_refused_right e_u_law_refused_right).binds (ps := ["_law_field_here", "_law_n"]) fun _ _ _ _ _ _ us hl => match us, hl with | [_, _], _ => rfl
    m_p_law := PySem.W.mg_of X G a_p_law
    f_p_law := fun_mk l_p_law o_p_law e_p_law
    b_p_law := (fun_mk (st := s_p_law) l_p_law o_p_law e_p_law).binds (ps := ["_law_script"]) fun _ _ _ _ _ _ us hl => match us, hl with | [_], _ => rfl
    q_u_law_refused_right := by unfold codeOf; rw [show K.lookup A.f_u_law_refused_right = _ from l_u_law_refused_right]
    z_LookupError := PySem.W.mg_none_of X G z_LookupError
    z_RuntimeError := PySem.W.mg_none_of X G z_RuntimeError
    z_ValueError := PySem.W.mg_none_of X G z_ValueError
    z_abs := PySem.W.mg_none_of X G z_abs
    z_all := PySem.W.mg_none_of X G z_all
    z_bool := PySem.W.mg_none_of X G z_bool
    z_int := PySem.W.mg_none_of X G z_int
    z_isinstance := PySem.W.mg_none_of X G z_isinstance
    z_len := PySem.W.mg_none_of X G z_len
    z_list := PySem.W.mg_none_of X G z_list
    z_min := PySem.W.mg_none_of X G z_min
    z_range := PySem.W.mg_none_of X G z_range
    z_repr := PySem.W.mg_none_of X G z_repr
    z_tuple := PySem.W.mg_none_of X G z_tuple
    kv_MOST_RIM := ⟨_, PySem.W.mg_of X G kv_MOST_RIM⟩
    kv_MOST_SIDE := ⟨_, PySem.W.mg_of X G kv_MOST_SIDE⟩
    mc_BadCoin := PySem.W.mg_of X G c_a_BadCoin
    mc_BadField := PySem.W.mg_of X G c_a_BadField
    mc_BadFraction := PySem.W.mg_of X G c_a_BadFraction
    mc_BadHeights := PySem.W.mg_of X G c_a_BadHeights
    mc_BadPairing := PySem.W.mg_of X G c_a_BadPairing
    mc_BadPaper := PySem.W.mg_of X G c_a_BadPaper
    mc_BadRow := PySem.W.mg_of X G c_a_BadRow
    mc_BadRule := PySem.W.mg_of X G c_a_BadRule
    mc_BadSpot := PySem.W.mg_of X G c_a_BadSpot
    mc_BadTarget := PySem.W.mg_of X G c_a_BadTarget
    mc_BadText := PySem.W.mg_of X G c_a_BadText
    mc_BookError := PySem.W.mg_of X G c_a_BookError
    mc_DeedError := PySem.W.mg_of X G c_a_DeedError
    mc_Gone := PySem.W.mg_of X G c_a_Gone
    mc_HollowError := PySem.W.mg_of X G c_a_HollowError
    mc_NoHollow := PySem.W.mg_of X G c_a_NoHollow
    mc_NoPeak := PySem.W.mg_of X G c_a_NoPeak
    mc_Nought := PySem.W.mg_of X G c_a_Nought
    mc_TooFew := PySem.W.mg_of X G c_a_TooFew
    mc_TooGreat := PySem.W.mg_of X G c_a_TooGreat
    kc_BadField := c_k_BadField
    sb_BadField := c_s_BadField
    ty_BadField := c_t_BadField
    ec_BadField := ⟨c_g_BadField, c_h_BadField, c_s_BadField, c_d_BadField, c_c_BadField, g_n, g_t, c_m_BadField⟩
    i_BadField_BadField := c_i_BadField_BadField
    i_BadField_BadFraction := c_i_BadField_BadFraction
    i_BadField_BadHeights := c_i_BadField_BadHeights
    i_BadField_BadRow := c_i_BadField_BadRow
    i_BadField_BadRule := c_i_BadField_BadRule
    i_BadField_BadSpot := c_i_BadField_BadSpot
    i_BadField_BadTarget := c_i_BadField_BadTarget
    i_BadField_BookError := c_i_BadField_BookError
    i_BadField_DeedError := c_i_BadField_DeedError
    i_BadField_Gone := c_i_BadField_Gone
    i_BadField_HollowError := c_i_BadField_HollowError
    i_BadField_LookupError := c_i_BadField_LookupError
    i_BadField_NoHollow := c_i_BadField_NoHollow
    i_BadField_NoPeak := c_i_BadField_NoPeak
    i_BadField_Nought := c_i_BadField_Nought
    i_BadField_RuntimeError := c_i_BadField_RuntimeError
    i_BadField_TooGreat := c_i_BadField_TooGreat
    i_BadField_ValueError := c_i_BadField_ValueError
    e_BadField_HollowError_DeedError_BookError := c_e_BadField_HollowError_DeedError_BookError
    ia_BadField_BadPairing_BadPaper_BadCoin_TooFew_BadText := c_ia_BadField_BadPairing_BadPaper_BadCoin_TooFew_BadText
    x_BadFraction := c_x_BadFraction
    kc_BadFraction := c_k_BadFraction
    sb_BadFraction := c_s_BadFraction
    ty_BadFraction := c_t_BadFraction
    ec_BadFraction := ⟨c_g_BadFraction, c_h_BadFraction, c_s_BadFraction, c_d_BadFraction, c_c_BadFraction, g_n, g_t, c_m_BadFraction⟩
    i_BadFraction_BadField := c_i_BadFraction_BadField
    i_BadFraction_BadFraction := c_i_BadFraction_BadFraction
    i_BadFraction_BadHeights := c_i_BadFraction_BadHeights
    i_BadFraction_BadRow := c_i_BadFraction_BadRow
    i_BadFraction_BadRule := c_i_BadFraction_BadRule
    i_BadFraction_BadSpot := c_i_BadFraction_BadSpot
    i_BadFraction_BadTarget := c_i_BadFraction_BadTarget
    i_BadFraction_BookError := c_i_BadFraction_BookError
    i_BadFraction_DeedError := c_i_BadFraction_DeedError
    i_BadFraction_Gone := c_i_BadFraction_Gone
    i_BadFraction_HollowError := c_i_BadFraction_HollowError
    i_BadFraction_LookupError := c_i_BadFraction_LookupError
    i_BadFraction_NoHollow := c_i_BadFraction_NoHollow
    i_BadFraction_NoPeak := c_i_BadFraction_NoPeak
    i_BadFraction_Nought := c_i_BadFraction_Nought
    i_BadFraction_RuntimeError := c_i_BadFraction_RuntimeError
    i_BadFraction_TooGreat := c_i_BadFraction_TooGreat
    i_BadFraction_ValueError := c_i_BadFraction_ValueError
    e_BadFraction_HollowError_DeedError_BookError := c_e_BadFraction_HollowError_DeedError_BookError
    ia_BadFraction_BadPairing_BadPaper_BadCoin_TooFew_BadText := c_ia_BadFraction_BadPairing_BadPaper_BadCoin_TooFew_BadText
    x_BadSpot := c_x_BadSpot
    kc_BadSpot := c_k_BadSpot
    sb_BadSpot := c_s_BadSpot
    ty_BadSpot := c_t_BadSpot
    ec_BadSpot := ⟨c_g_BadSpot, c_h_BadSpot, c_s_BadSpot, c_d_BadSpot, c_c_BadSpot, g_n, g_t, c_m_BadSpot⟩
    i_BadSpot_BadField := c_i_BadSpot_BadField
    i_BadSpot_BadFraction := c_i_BadSpot_BadFraction
    i_BadSpot_BadHeights := c_i_BadSpot_BadHeights
    i_BadSpot_BadRow := c_i_BadSpot_BadRow
    i_BadSpot_BadRule := c_i_BadSpot_BadRule
    i_BadSpot_BadSpot := c_i_BadSpot_BadSpot
    i_BadSpot_BadTarget := c_i_BadSpot_BadTarget
    i_BadSpot_BookError := c_i_BadSpot_BookError
    i_BadSpot_DeedError := c_i_BadSpot_DeedError
    i_BadSpot_Gone := c_i_BadSpot_Gone
    i_BadSpot_HollowError := c_i_BadSpot_HollowError
    i_BadSpot_LookupError := c_i_BadSpot_LookupError
    i_BadSpot_NoHollow := c_i_BadSpot_NoHollow
    i_BadSpot_NoPeak := c_i_BadSpot_NoPeak
    i_BadSpot_Nought := c_i_BadSpot_Nought
    i_BadSpot_RuntimeError := c_i_BadSpot_RuntimeError
    i_BadSpot_TooGreat := c_i_BadSpot_TooGreat
    i_BadSpot_ValueError := c_i_BadSpot_ValueError
    e_BadSpot_HollowError_DeedError_BookError := c_e_BadSpot_HollowError_DeedError_BookError
    ia_BadSpot_BadPairing_BadPaper_BadCoin_TooFew_BadText := c_ia_BadSpot_BadPairing_BadPaper_BadCoin_TooFew_BadText
    if_BadField := ⟨⟨_, _, _, _, _, _, _, _, _, _, rfl, c_li_BadField, c_oi_BadField, dflN_ok c_df_BadField, .inl rfl⟩, c_ei_BadField⟩
    ic_BadField := c_ic_BadField
    ti_BadField := c_ti_BadField
    bi_BadField := by
      have FD : FunD K "__init__" "BadField.__init__" (defArgs si_BadField) (defBody si_BadField) (defScope si_BadField) [.non] [] fi_BadField _ := ⟨⟨_, _, _, _, _, _, _, _, _, _, rfl, c_li_BadField, c_oi_BadField, dflN_ok c_df_BadField, .inl rfl⟩, c_ei_BadField⟩
      obtain ⟨ds, hv, hb⟩ := FunD.binds1 (ps := ["self", "place"]) FD 2 1 (by simp) rfl fun _ _ _ _ _ _ _ us its hl hi => match us, its, hl, hi with | [_, _], [_], _, _ => ⟨_, rfl, rfl⟩
      cases hv
      exact hb
    ox_BadField := ⟨⟨_, _, _, _, _, _, _, _, _, _, _, _, _, _, _, c_cl_BadField, c_rv_BadField⟩, c_sa_BadField, c_s_BadField, c_t_BadField, c_k_BadField⟩
    nf_BadField := c_nf_BadField
    xf_BadField := ⟨c_g_BadField, c_h_BadField, c_s_BadField, c_d_BadField⟩
    ow_HollowError := ⟨c_wa_HollowError, c_wr_HollowError, c_wf_HollowError⟩
    in_BadField := c_n_BadField
    in_BadFraction := c_n_BadFraction
    in_BadHeights := c_n_BadHeights
    in_BadRow := c_n_BadRow
    in_BadRule := c_n_BadRule
    in_BadSpot := c_n_BadSpot
    in_BadTarget := c_n_BadTarget
    in_BookError := c_n_BookError
    in_DeedError := c_n_DeedError
    in_Gone := c_n_Gone
    in_HollowError := c_n_HollowError
    in_NoHollow := c_n_NoHollow
    in_NoPeak := c_n_NoPeak
    in_Nought := c_n_Nought
    in_TooGreat := c_n_TooGreat }
  letI TB : Tb := ⟨[(t_u_law_refused_right, ("_law_refused_right" : Str) ++ ".<locals>." ++ "<lambda>")]⟩
  refine ⟨(PySem.W.fnOf "law" "law" (defArgs s_p_law) (defBody s_p_law) (defScope s_p_law) .none kV_p_law dc_p_law pm_p_law an_p_law cd_p_law ct_p_law), TB, [(k_u_law_refused_right, t_u_law_refused_right)], ?_, ?_, ?_, ?_, fun s v => .of_eq rfl, fun base _ _ hTB => ?_⟩
  · exact List.forall_mem_cons.mpr ⟨hT _ y_u_law_refused_right, fun _ h => nomatch h⟩
  · exact List.forall_mem_cons.mpr ⟨n_u_law_refused_right, fun _ h => nomatch h⟩
  · exact List.forall_mem_cons.mpr ⟨PySem.W.codeHd_of_K X h_u_law_refused_right, fun _ h => nomatch h⟩
  · exact List.forall_mem_cons.mpr ⟨⟨k_u_law_refused_right, by simp⟩, fun _ h => nomatch h⟩
  have tb_u_law_refused_right : LamX.TabB base mg A.k_u_law_refused_right A.t_u_law_refused_right := hTB (k_u_law_refused_right, t_u_law_refused_right) (by simp)
  have tm_u_law_refused_right : (A.t_u_law_refused_right, ("_law_refused_right" : Str) ++ ".<locals>." ++ "<lambda>") ∈ Tb.T := by show _ ∈ [(t_u_law_refused_right, ("_law_refused_right" : Str) ++ ".<locals>." ++ "<lambda>")]; simp [A]
  have tu_u_law_refused_right : ∀ p ∈ Tb.T, p.1 = A.t_u_law_refused_right → p.2 = ("_law_refused_right" : Str) ++ ".<locals>." ++ "<lambda>" := List.forall_mem_cons.mpr ⟨fun _ => rfl, fun _ h => nomatch h⟩
  have g_p_is_whole := ok_p_is_whole (P := l.prog) (w := w) (base := base) (A := A) F  (h_is_whole K A)
  have g_p_own_common := ok_p_own_common (P := l.prog) (w := w) (base := base) (A := A) F  (h_own_common K A)
  have g_p_is_fraction := ok_p_is_fraction (P := l.prog) (w := w) (base := base) (A := A) F g_p_is_whole (fun rs C k e h => (h_is_whole K A rs C k e h).1) g_p_own_common (fun rs C k e h => (h_own_common K A rs C k e h).1) (h_is_fraction K A)
  have g_p_own_shape := ok_p_own_shape (P := l.prog) (w := w) (base := base) (A := A) F  (h_own_shape K A)
  have g_p_shape_spots := ok_p_shape_spots (P := l.prog) (w := w) (base := base) (A := A) F  (h_shape_spots K A)
  have g_p_is_on_rim := ok_p_is_on_rim (P := l.prog) (w := w) (base := base) (A := A) F  (h_is_on_rim K A)
  have g_p_at := ok_p_at (P := l.prog) (w := w) (base := base) (A := A) F  (h_at K A)
  have g_p_exchanged := ok_p_exchanged (P := l.prog) (w := w) (base := base) (A := A) F  (h_exch K A)
  have g_p_are_numbers := ok_p_are_numbers (P := l.prog) (w := w) (base := base) (A := A) F g_p_at (fun rs C k e h => (h_at K A rs C k e h).1) g_p_is_on_rim (fun rs C k e h => (h_is_on_rim K A rs C k e h).1) g_p_is_whole (fun rs C k e h => (h_is_whole K A rs C k e h).1) g_p_shape_spots (fun rs C k e h => (h_shape_spots K A rs C k e h).1) (h_are_numbers K A)
  have g_p_are_steps := ok_p_are_steps (P := l.prog) (w := w) (base := base) (A := A) F g_p_shape_spots (fun rs C k e h => (h_shape_spots K A rs C k e h).1) g_p_own_shape (fun rs C k e h => (h_own_shape K A rs C k e h).1) (h_are_steps K A)
  have g_p_are_worths := ok_p_are_worths (P := l.prog) (w := w) (base := base) (A := A) F g_p_own_shape (fun rs C k e h => (h_own_shape K A rs C k e h).1) g_p_is_fraction (fun rs C k e h => (h_is_fraction K A rs C k e h).1) (h_are_worths K A)
  have g_p_field_faults := ok_p_field_faults (P := l.prog) (w := w) (base := base) (A := A) F g_p_own_shape (fun rs C k e h => (h_own_shape K A rs C k e h).1) g_p_are_numbers (fun rs C k e h => (h_are_numbers K A rs C k e h).1) g_p_are_steps (fun rs C k e h => (h_are_steps K A rs C k e h).1) g_p_are_worths (fun rs C k e h => (h_are_worths K A rs C k e h).1) (h_field_faults K A)
  have g_p_need_field := ok_p_need_field (P := l.prog) (w := w) (base := base) (A := A) F g_p_field_faults (fun rs C k e h => (h_field_faults K A rs C k e h).1) (h_need_field K A)
  have g_p_is_spot_of := ok_p_is_spot_of (P := l.prog) (w := w) (base := base) (A := A) F g_p_is_whole (fun rs C k e h => (h_is_whole K A rs C k e h).1) (h_is_spot_of K A)
  have g_p_need_spot := ok_p_need_spot (P := l.prog) (w := w) (base := base) (A := A) F g_p_is_spot_of (fun rs C k e h => (h_is_spot_of K A rs C k e h).1) g_p_own_shape (fun rs C k e h => (h_own_shape K A rs C k e h).1) (h_need_spot K A)
  have g_p_own_spots := ok_p_own_spots (P := l.prog) (w := w) (base := base) (A := A) F g_p_shape_spots (fun rs C k e h => (h_shape_spots K A rs C k e h).1) g_p_own_shape (fun rs C k e h => (h_own_shape K A rs C k e h).1) (h_own_spots K A)
  have g_p_own_rim := ok_p_own_rim (P := l.prog) (w := w) (base := base) (A := A) F g_p_shape_spots (fun rs C k e h => (h_shape_spots K A rs C k e h).1) g_p_is_on_rim (fun rs C k e h => (h_is_on_rim K A rs C k e h).1) (h_own_rim K A)
  have g_p_own_neighbours := ok_p_own_neighbours (P := l.prog) (w := w) (base := base) (A := A) F g_p_is_spot_of (fun rs C k e h => (h_is_spot_of K A rs C k e h).1) (h_own_neighbours K A)
  have g_p_height_in := ok_p_height_in (P := l.prog) (w := w) (base := base) (A := A) F g_p_at (fun rs C k e h => (h_at K A rs C k e h).1) (h_height_in K A)
  have g_p_worth_in := ok_p_worth_in (P := l.prog) (w := w) (base := base) (A := A) F g_p_at (fun rs C k e h => (h_at K A rs C k e h).1) (h_worth_in K A)
  have g_p_board := ok_p_board (P := l.prog) (w := w) (base := base) (A := A) F g_p_need_field (fun rs C k e h => (h_need_field K A rs C k e h).1) g_p_own_shape (fun rs C k e h => (h_own_shape K A rs C k e h).1) (h_board K A)
  have g_p_spots := ok_p_spots (P := l.prog) (w := w) (base := base) (A := A) F g_p_need_field (fun rs C k e h => (h_need_field K A rs C k e h).1) g_p_own_spots (fun rs C k e h => (h_own_spots K A rs C k e h).1) (h_spots K A)
  have g_p_rim := ok_p_rim (P := l.prog) (w := w) (base := base) (A := A) F g_p_need_field (fun rs C k e h => (h_need_field K A rs C k e h).1) g_p_own_rim (fun rs C k e h => (h_own_rim K A rs C k e h).1) g_p_own_shape (fun rs C k e h => (h_own_shape K A rs C k e h).1) (h_rim K A)
  have g_p_inner := ok_p_inner (P := l.prog) (w := w) (base := base) (A := A) F g_p_need_field (fun rs C k e h => (h_need_field K A rs C k e h).1) g_p_own_shape (fun rs C k e h => (h_own_shape K A rs C k e h).1) g_p_shape_spots (fun rs C k e h => (h_shape_spots K A rs C k e h).1) g_p_is_on_rim (fun rs C k e h => (h_is_on_rim K A rs C k e h).1) (h_inner K A)
  have g_p_neighbours := ok_p_neighbours (P := l.prog) (w := w) (base := base) (A := A) F g_p_need_field (fun rs C k e h => (h_need_field K A rs C k e h).1) g_p_need_spot (fun rs C k e h => (h_need_spot K A rs C k e h).1) g_p_own_neighbours (fun rs C k e h => (h_own_neighbours K A rs C k e h).1) g_p_own_shape (fun rs C k e h => (h_own_shape K A rs C k e h).1) (h_neighbours K A)
  have g_p_way := ok_p_way (P := l.prog) (w := w) (base := base) (A := A) F  (h_way K A)
  have g_p_height_at := ok_p_height_at (P := l.prog) (w := w) (base := base) (A := A) F g_p_need_field (fun rs C k e h => (h_need_field K A rs C k e h).1) g_p_need_spot (fun rs C k e h => (h_need_spot K A rs C k e h).1) g_p_height_in (fun rs C k e h => (h_height_in K A rs C k e h).1) (h_height_at K A)
  have g_p_worth_of := ok_p_worth_of (P := l.prog) (w := w) (base := base) (A := A) F g_p_need_field (fun rs C k e h => (h_need_field K A rs C k e h).1) g_p_need_spot (fun rs C k e h => (h_need_spot K A rs C k e h).1) g_p_worth_in (fun rs C k e h => (h_worth_in K A rs C k e h).1) (h_worth_of K A)
  have g_p_own_with := ok_p_own_with (P := l.prog) (w := w) (base := base) (A := A) F g_p_exchanged (fun rs C k e h => (h_exch K A rs C k e h).1) (h_own_with K A)
  have g_p_with_worth := ok_p_with_worth (P := l.prog) (w := w) (base := base) (A := A) F g_p_need_field (fun rs C k e h => (h_need_field K A rs C k e h).1) g_p_need_spot (fun rs C k e h => (h_need_spot K A rs C k e h).1) g_p_is_fraction (fun rs C k e h => (h_is_fraction K A rs C k e h).1) g_p_own_with (fun rs C k e h => (h_own_with K A rs C k e h).1) (h_with_worth K A)
  have g_u_law_cell := ok_u_law_cell (P := l.prog) (w := w) (base := base) (A := A) F  (h_cell K A)
  have g_u_law_low := ok_u_law_low (P := l.prog) (w := w) (base := base) (A := A) F  (h_low K A)
  have g_u_law_heights := ok_u_law_heights (P := l.prog) (w := w) (base := base) (A := A) F g_u_law_cell (fun rs C k e h => (h_cell K A rs C k e h).1) (h_heights K A)
  have g_u_law_worths := ok_u_law_worths (P := l.prog) (w := w) (base := base) (A := A) F g_u_law_cell (fun rs C k e h => (h_cell K A rs C k e h).1) g_u_law_low (fun rs C k e h => (h_low K A rs C k e h).1) (h_worths K A)
  have g_u_law_field := ok_u_law_field (P := l.prog) (w := w) (base := base) (A := A) F g_u_law_cell (fun rs C k e h => (h_cell K A rs C k e h).1) g_u_law_heights (fun rs C k e h => (h_heights K A rs C k e h).1) g_u_law_worths (fun rs C k e h => (h_worths K A rs C k e h).1) (h_lfield K A)
  have g_u_law_spots := ok_u_law_spots (P := l.prog) (w := w) (base := base) (A := A) F  (h_lspots K A)
  have g_u_law_near := ok_u_law_near (P := l.prog) (w := w) (base := base) (A := A) F  (h_near K A)
  have g_u_law_whole_right := ok_u_law_whole_right (P := l.prog) (w := w) (base := base) (A := A) F g_u_law_spots (fun rs C k e h => (h_lspots K A rs C k e h).1) g_u_law_near (fun rs C k e h => (h_near K A rs C k e h).1) g_p_inner (fun rs C k e h => (h_inner K A rs C k e h).1) g_p_rim (fun rs C k e h => (h_rim K A rs C k e h).1) g_p_spots (fun rs C k e h => (h_spots K A rs C k e h).1) g_p_board (fun rs C k e h => (h_board K A rs C k e h).1) (h_lwhole K A)
  have g_u_law_spot_right := ok_u_law_spot_right (P := l.prog) (w := w) (base := base) (A := A) F g_u_law_spots (fun rs C k e h => (h_lspots K A rs C k e h).1) g_p_worth_of (fun rs C k e h => (h_worth_of K A rs C k e h).1) g_p_height_at (fun rs C k e h => (h_height_at K A rs C k e h).1) g_p_neighbours (fun rs C k e h => (h_neighbours K A rs C k e h).1) g_u_law_near (fun rs C k e h => (h_near K A rs C k e h).1) g_p_way (fun rs C k e h => (h_way K A rs C k e h).1) (h_lspot K A)
  have g_u_law_with_right := ok_u_law_with_right (P := l.prog) (w := w) (base := base) (A := A) F g_p_with_worth (fun rs C k e h => (h_with_worth K A rs C k e h).1) (h_lwith K A)
  have g_u_law_no_spot := ok_u_law_no_spot (P := l.prog) (w := w) (base := base) (A := A) F  (h_nospot K A)
  have g_u_law_refused_right := ok_u_law_refused_right (P := l.prog) (w := w) (base := base) (A := A) F g_u_law_no_spot (fun rs C k e h => (h_nospot K A rs C k e h).1) g_p_height_at (fun rs C k e h => (h_height_at K A rs C k e h).1) g_p_worth_of (fun rs C k e h => (h_worth_of K A rs C k e h).1) g_p_neighbours (fun rs C k e h => (h_neighbours K A rs C k e h).1) g_p_with_worth (fun rs C k e h => (h_with_worth K A rs C k e h).1) g_p_board (fun rs C k e h => (h_board K A rs C k e h).1) g_p_spots (fun rs C k e h => (h_spots K A rs C k e h).1) g_p_rim (fun rs C k e h => (h_rim K A rs C k e h).1) g_p_inner (fun rs C k e h => (h_inner K A rs C k e h).1) (h_asked F) tb_u_law_refused_right tm_u_law_refused_right tu_u_law_refused_right (h_lref K A)
  have g_p_law := ok_p_law (P := l.prog) (w := w) (base := base) (A := A) F g_u_law_field (fun rs C k e h => (h_lfield K A rs C k e h).1) g_u_law_cell (fun rs C k e h => (h_cell K A rs C k e h).1) g_u_law_spots (fun rs C k e h => (h_lspots K A rs C k e h).1) g_u_law_low (fun rs C k e h => (h_low K A rs C k e h).1) g_u_law_spot_right (fun rs C k e h => (h_lspot K A rs C k e h).1) g_u_law_whole_right (fun rs C k e h => (h_lwhole K A rs C k e h).1) g_u_law_with_right (fun rs C k e h => (h_lwith K A rs C k e h).1) g_u_law_refused_right (fun rs C k e h => (h_lref K A rs C k e h).1) (h_law K A)
  exact g_p_law
end GX
open PySem PySem.W PyProof.Rows
set_option maxRecDepth 100000 in
set_option maxHeartbeats 0 in
theorem PySem.Challenge.cw_hollowrise_k03_asked_of_fields_holds : PySem.Challenge.rw_hollowrise_k03_asked_of_fields.Holds := by
  w_on; o_law; k_head; (case hw => w_witness2)
  k_fill
  refine D3.walkG (l := PySem.Challenge.rw_hollowrise_k03_asked_of_fields) (k := 10) (x := "_law_script") rfl rfl ⟨rfl, by decide, by decide⟩ (fun w h Y => PySem.W.km_in_of Y) ?F
  case F =>
    intro w mg fa h Y KX G hmg
    have hT := PySem.W.km_tabs_of Y
    refine' GX.all_mk KX G hmg hT ?a_p_is_whole ?l_p_is_whole ?o_p_is_whole ?e_p_is_whole ?a_p_own_common ?l_p_own_common ?o_p_own_common ?e_p_own_common ?a_p_is_fraction ?l_p_is_fraction ?o_p_is_fraction ?e_p_is_fraction ?a_p_own_shape ?l_p_own_shape ?o_p_own_shape ?e_p_own_shape ?a_p_shape_spots ?l_p_shape_spots ?o_p_shape_spots ?e_p_shape_spots ?a_p_is_on_rim ?l_p_is_on_rim ?o_p_is_on_rim ?e_p_is_on_rim ?a_p_at ?l_p_at ?o_p_at ?e_p_at ?a_p_exchanged ?l_p_exchanged ?o_p_exchanged ?e_p_exchanged ?a_p_are_numbers ?l_p_are_numbers ?o_p_are_numbers ?e_p_are_numbers ?a_p_are_steps ?l_p_are_steps ?o_p_are_steps ?e_p_are_steps ?a_p_are_worths ?l_p_are_worths ?o_p_are_worths ?e_p_are_worths ?a_p_field_faults ?l_p_field_faults ?o_p_field_faults ?e_p_field_faults ?a_p_need_field ?l_p_need_field ?o_p_need_field ?e_p_need_field ?a_p_is_spot_of ?l_p_is_spot_of ?o_p_is_spot_of ?e_p_is_spot_of ?a_p_need_spot ?l_p_need_spot ?o_p_need_spot ?e_p_need_spot ?a_p_own_spots ?l_p_own_spots ?o_p_own_spots ?e_p_own_spots ?a_p_own_rim ?l_p_own_rim ?o_p_own_rim ?e_p_own_rim ?a_p_own_neighbours ?l_p_own_neighbours ?o_p_own_neighbours ?e_p_own_neighbours ?a_p_height_in ?l_p_height_in ?o_p_height_in ?e_p_height_in ?a_p_worth_in ?l_p_worth_in ?o_p_worth_in ?e_p_worth_in ?a_p_board ?l_p_board ?o_p_board ?e_p_board ?a_p_spots ?l_p_spots ?o_p_spots ?e_p_spots ?a_p_rim ?l_p_rim ?o_p_rim ?e_p_rim ?a_p_inner ?l_p_inner ?o_p_inner ?e_p_inner ?a_p_neighbours ?l_p_neighbours ?o_p_neighbours ?e_p_neighbours ?a_p_way ?l_p_way ?o_p_way ?e_p_way ?a_p_height_at ?l_p_height_at ?o_p_height_at ?e_p_height_at ?a_p_worth_of ?l_p_worth_of ?o_p_worth_of ?e_p_worth_of ?a_p_own_with ?l_p_own_with ?o_p_own_with ?e_p_own_with ?a_p_with_worth ?l_p_with_worth ?o_p_with_worth ?e_p_with_worth ?a_u_law_cell ?l_u_law_cell ?o_u_law_cell ?e_u_law_cell ?a_u_law_low ?l_u_law_low ?o_u_law_low ?e_u_law_low ?a_u_law_heights ?l_u_law_heights ?o_u_law_heights ?e_u_law_heights ?a_u_law_worths ?l_u_law_worths ?o_u_law_worths ?e_u_law_worths ?a_u_law_field ?l_u_law_field ?o_u_law_field ?e_u_law_field ?a_u_law_asked ?l_u_law_asked ?o_u_law_asked ?e_u_law_asked ?a_u_law_spots ?l_u_law_spots ?o_u_law_spots ?e_u_law_spots ?a_u_law_near ?l_u_law_near ?o_u_law_near ?e_u_law_near ?a_u_law_whole_right ?l_u_law_whole_right ?o_u_law_whole_right ?e_u_law_whole_right ?a_u_law_spot_right ?l_u_law_spot_right ?o_u_law_spot_right ?e_u_law_spot_right ?a_u_law_with_right ?l_u_law_with_right ?o_u_law_with_right ?e_u_law_with_right ?a_u_law_no_spot ?l_u_law_no_spot ?o_u_law_no_spot ?e_u_law_no_spot ?a_u_law_refused_right ?l_u_law_refused_right ?o_u_law_refused_right ?e_u_law_refused_right ?x_u_law_refused_right ?v_u_law_refused_right ?h_u_law_refused_right ?n_u_law_refused_right ?y_u_law_refused_right ?a_p_law ?l_p_law ?o_p_law ?e_p_law ?z_LookupError ?z_RuntimeError ?z_ValueError ?z_abs ?z_all ?z_bool ?z_int ?z_isinstance ?z_len ?z_list ?z_min ?z_range ?z_repr ?z_tuple ?kv_MOST_RIM ?kv_MOST_SIDE ?c_a_BadCoin ?c_a_BadField ?c_a_BadFraction ?c_a_BadHeights ?c_a_BadPairing ?c_a_BadPaper ?c_a_BadRow ?c_a_BadRule ?c_a_BadSpot ?c_a_BadTarget ?c_a_BadText ?c_a_BookError ?c_a_DeedError ?c_a_Gone ?c_a_HollowError ?c_a_NoHollow ?c_a_NoPeak ?c_a_Nought ?c_a_TooFew ?c_a_TooGreat ?c_k_BadField ?c_s_BadField ?c_t_BadField ?c_g_BadField ?c_h_BadField ?c_d_BadField ?c_c_BadField ?c_m_BadField ?c_i_BadField_BadField ?c_i_BadField_BadFraction ?c_i_BadField_BadHeights ?c_i_BadField_BadRow ?c_i_BadField_BadRule ?c_i_BadField_BadSpot ?c_i_BadField_BadTarget ?c_i_BadField_BookError ?c_i_BadField_DeedError ?c_i_BadField_Gone ?c_i_BadField_HollowError ?c_i_BadField_LookupError ?c_i_BadField_NoHollow ?c_i_BadField_NoPeak ?c_i_BadField_Nought ?c_i_BadField_RuntimeError ?c_i_BadField_TooGreat ?c_i_BadField_ValueError ?c_e_BadField_HollowError_DeedError_BookError ?c_ia_BadField_BadPairing_BadPaper_BadCoin_TooFew_BadText ?c_x_BadFraction ?c_k_BadFraction ?c_s_BadFraction ?c_t_BadFraction ?c_g_BadFraction ?c_h_BadFraction ?c_d_BadFraction ?c_c_BadFraction ?c_m_BadFraction ?c_i_BadFraction_BadField ?c_i_BadFraction_BadFraction ?c_i_BadFraction_BadHeights ?c_i_BadFraction_BadRow ?c_i_BadFraction_BadRule ?c_i_BadFraction_BadSpot ?c_i_BadFraction_BadTarget ?c_i_BadFraction_BookError ?c_i_BadFraction_DeedError ?c_i_BadFraction_Gone ?c_i_BadFraction_HollowError ?c_i_BadFraction_LookupError ?c_i_BadFraction_NoHollow ?c_i_BadFraction_NoPeak ?c_i_BadFraction_Nought ?c_i_BadFraction_RuntimeError ?c_i_BadFraction_TooGreat ?c_i_BadFraction_ValueError ?c_e_BadFraction_HollowError_DeedError_BookError ?c_ia_BadFraction_BadPairing_BadPaper_BadCoin_TooFew_BadText ?c_x_BadSpot ?c_k_BadSpot ?c_s_BadSpot ?c_t_BadSpot ?c_g_BadSpot ?c_h_BadSpot ?c_d_BadSpot ?c_c_BadSpot ?c_m_BadSpot ?c_i_BadSpot_BadField ?c_i_BadSpot_BadFraction ?c_i_BadSpot_BadHeights ?c_i_BadSpot_BadRow ?c_i_BadSpot_BadRule ?c_i_BadSpot_BadSpot ?c_i_BadSpot_BadTarget ?c_i_BadSpot_BookError ?c_i_BadSpot_DeedError ?c_i_BadSpot_Gone ?c_i_BadSpot_HollowError ?c_i_BadSpot_LookupError ?c_i_BadSpot_NoHollow ?c_i_BadSpot_NoPeak ?c_i_BadSpot_Nought ?c_i_BadSpot_RuntimeError ?c_i_BadSpot_TooGreat ?c_i_BadSpot_ValueError ?c_e_BadSpot_HollowError_DeedError_BookError ?c_ia_BadSpot_BadPairing_BadPaper_BadCoin_TooFew_BadText ?c_ic_BadField ?c_li_BadField ?c_oi_BadField ?c_ei_BadField ?c_ti_BadField ?c_nf_BadField ?c_sa_BadField ?c_cl_BadField ?c_rv_BadField ?c_df_BadField ?c_wa_HollowError ?c_wr_HollowError ?c_wf_HollowError ?c_n_BadField ?c_n_BadFraction ?c_n_BadHeights ?c_n_BadRow ?c_n_BadRule ?c_n_BadSpot ?c_n_BadTarget ?c_n_BookError ?c_n_DeedError ?c_n_Gone ?c_n_HollowError ?c_n_NoHollow ?c_n_NoPeak ?c_n_Nought ?c_n_TooGreat ?g_n ?g_t
    case a_p_is_whole => k_is
    case l_p_is_whole => k_is
    case o_p_is_whole => k_is
    case e_p_is_whole => k_is
    case a_p_own_common => k_is
    case l_p_own_common => k_is
    case o_p_own_common => k_is
    case e_p_own_common => k_is
    case a_p_is_fraction => k_is
    case l_p_is_fraction => k_is
    case o_p_is_fraction => k_is
    case e_p_is_fraction => k_is
    case a_p_own_shape => k_is
    case l_p_own_shape => k_is
    case o_p_own_shape => k_is
    case e_p_own_shape => k_is
    case a_p_shape_spots => k_is
    case l_p_shape_spots => k_is
    case o_p_shape_spots => k_is
    case e_p_shape_spots => k_is
    case a_p_is_on_rim => k_is
    case l_p_is_on_rim => k_is
    case o_p_is_on_rim => k_is
    case e_p_is_on_rim => k_is
    case a_p_at => k_is
    case l_p_at => k_is
    case o_p_at => k_is
    case e_p_at => k_is
    case a_p_exchanged => k_is
    case l_p_exchanged => k_is
    case o_p_exchanged => k_is
    case e_p_exchanged => k_is
    case a_p_are_numbers => k_is
    case l_p_are_numbers => k_is
    case o_p_are_numbers => k_is
    case e_p_are_numbers => k_is
    case a_p_are_steps => k_is
    case l_p_are_steps => k_is
    case o_p_are_steps => k_is
    case e_p_are_steps => k_is
    case a_p_are_worths => k_is
    case l_p_are_worths => k_is
    case o_p_are_worths => k_is
    case e_p_are_worths => k_is
    case a_p_field_faults => k_is
    case l_p_field_faults => k_is
    case o_p_field_faults => k_is
    case e_p_field_faults => k_is
    case a_p_need_field => k_is
    case l_p_need_field => k_is
    case o_p_need_field => k_is
    case e_p_need_field => k_is
    case a_p_is_spot_of => k_is
    case l_p_is_spot_of => k_is
    case o_p_is_spot_of => k_is
    case e_p_is_spot_of => k_is
    case a_p_need_spot => k_is
    case l_p_need_spot => k_is
    case o_p_need_spot => k_is
    case e_p_need_spot => k_is
    case a_p_own_spots => k_is
    case l_p_own_spots => k_is
    case o_p_own_spots => k_is
    case e_p_own_spots => k_is
    case a_p_own_rim => k_is
    case l_p_own_rim => k_is
    case o_p_own_rim => k_is
    case e_p_own_rim => k_is
    case a_p_own_neighbours => k_is
    case l_p_own_neighbours => k_is
    case o_p_own_neighbours => k_is
    case e_p_own_neighbours => k_is
    case a_p_height_in => k_is
    case l_p_height_in => k_is
    case o_p_height_in => k_is
    case e_p_height_in => k_is
    case a_p_worth_in => k_is
    case l_p_worth_in => k_is
    case o_p_worth_in => k_is
    case e_p_worth_in => k_is
    case a_p_board => k_is
    case l_p_board => k_is
    case o_p_board => k_is
    case e_p_board => k_is
    case a_p_spots => k_is
    case l_p_spots => k_is
    case o_p_spots => k_is
    case e_p_spots => k_is
    case a_p_rim => k_is
    case l_p_rim => k_is
    case o_p_rim => k_is
    case e_p_rim => k_is
    case a_p_inner => k_is
    case l_p_inner => k_is
    case o_p_inner => k_is
    case e_p_inner => k_is
    case a_p_neighbours => k_is
    case l_p_neighbours => k_is
    case o_p_neighbours => k_is
    case e_p_neighbours => k_is
    case a_p_way => k_is
    case l_p_way => k_is
    case o_p_way => k_is
    case e_p_way => k_is
    case a_p_height_at => k_is
    case l_p_height_at => k_is
    case o_p_height_at => k_is
    case e_p_height_at => k_is
    case a_p_worth_of => k_is
    case l_p_worth_of => k_is
    case o_p_worth_of => k_is
    case e_p_worth_of => k_is
    case a_p_own_with => k_is
    case l_p_own_with => k_is
    case o_p_own_with => k_is
    case e_p_own_with => k_is
    case a_p_with_worth => k_is
    case l_p_with_worth => k_is
    case o_p_with_worth => k_is
    case e_p_with_worth => k_is
    case a_u_law_cell => k_is
    case l_u_law_cell => k_is
    case o_u_law_cell => k_is
    case e_u_law_cell => k_is
    case a_u_law_low => k_is
    case l_u_law_low => k_is
    case o_u_law_low => k_is
    case e_u_law_low => k_is
    case a_u_law_heights => k_is
    case l_u_law_heights => k_is
    case o_u_law_heights => k_is
    case e_u_law_heights => k_is
    case a_u_law_worths => k_is
    case l_u_law_worths => k_is
    case o_u_law_worths => k_is
    case e_u_law_worths => k_is
    case a_u_law_field => k_is
    case l_u_law_field => k_is
    case o_u_law_field => k_is
    case e_u_law_field => k_is
    case a_u_law_asked => k_is
    case l_u_law_asked => k_is
    case o_u_law_asked => k_is
    case e_u_law_asked => k_is
    case a_u_law_spots => k_is
    case l_u_law_spots => k_is
    case o_u_law_spots => k_is
    case e_u_law_spots => k_is
    case a_u_law_near => k_is
    case l_u_law_near => k_is
    case o_u_law_near => k_is
    case e_u_law_near => k_is
    case a_u_law_whole_right => k_is
    case l_u_law_whole_right => k_is
    case o_u_law_whole_right => k_is
    case e_u_law_whole_right => k_is
    case a_u_law_spot_right => k_is
    case l_u_law_spot_right => k_is
    case o_u_law_spot_right => k_is
    case e_u_law_spot_right => k_is
    case a_u_law_with_right => k_is
    case l_u_law_with_right => k_is
    case o_u_law_with_right => k_is
    case e_u_law_with_right => k_is
    case a_u_law_no_spot => k_is
    case l_u_law_no_spot => k_is
    case o_u_law_no_spot => k_is
    case e_u_law_no_spot => k_is
    case a_u_law_refused_right => k_is
    case l_u_law_refused_right => k_is
    case o_u_law_refused_right => k_is
    case e_u_law_refused_right => k_is
    case x_u_law_refused_right => k_is
    case v_u_law_refused_right => rfl
    case h_u_law_refused_right => kernel_rfl
    case n_u_law_refused_right => kernel_rfl
    case y_u_law_refused_right => decide
    case a_p_law => k_is
    case l_p_law => k_is
    case o_p_law => k_is
    case e_p_law => k_is
    case z_LookupError => k_is
    case z_RuntimeError => k_is
    case z_ValueError => k_is
    case z_abs => k_is
    case z_all => k_is
    case z_bool => k_is
    case z_int => k_is
    case z_isinstance => k_is
    case z_len => k_is
    case z_list => k_is
    case z_min => k_is
    case z_range => k_is
    case z_repr => k_is
    case z_tuple => k_is
    case kv_MOST_RIM => k_is
    case kv_MOST_SIDE => k_is
    case c_a_BadCoin => k_is
    case c_a_BadField => k_is
    case c_a_BadFraction => k_is
    case c_a_BadHeights => k_is
    case c_a_BadPairing => k_is
    case c_a_BadPaper => k_is
    case c_a_BadRow => k_is
    case c_a_BadRule => k_is
    case c_a_BadSpot => k_is
    case c_a_BadTarget => k_is
    case c_a_BadText => k_is
    case c_a_BookError => k_is
    case c_a_DeedError => k_is
    case c_a_Gone => k_is
    case c_a_HollowError => k_is
    case c_a_NoHollow => k_is
    case c_a_NoPeak => k_is
    case c_a_Nought => k_is
    case c_a_TooFew => k_is
    case c_a_TooGreat => k_is
    case c_k_BadField => k_is
    case c_s_BadField => k_is
    case c_t_BadField => k_is
    case c_g_BadField => k_is
    case c_h_BadField => k_is
    case c_d_BadField => k_is
    case c_c_BadField => k_is
    case c_m_BadField => k_is
    case c_i_BadField_BadField => kernel_rfl
    case c_i_BadField_BadFraction => kernel_rfl
    case c_i_BadField_BadHeights => kernel_rfl
    case c_i_BadField_BadRow => kernel_rfl
    case c_i_BadField_BadRule => kernel_rfl
    case c_i_BadField_BadSpot => kernel_rfl
    case c_i_BadField_BadTarget => kernel_rfl
    case c_i_BadField_BookError => kernel_rfl
    case c_i_BadField_DeedError => kernel_rfl
    case c_i_BadField_Gone => kernel_rfl
    case c_i_BadField_HollowError => kernel_rfl
    case c_i_BadField_LookupError => kernel_rfl
    case c_i_BadField_NoHollow => kernel_rfl
    case c_i_BadField_NoPeak => kernel_rfl
    case c_i_BadField_Nought => kernel_rfl
    case c_i_BadField_RuntimeError => kernel_rfl
    case c_i_BadField_TooGreat => kernel_rfl
    case c_i_BadField_ValueError => kernel_rfl
    case c_e_BadField_HollowError_DeedError_BookError => kernel_rfl
    case c_ia_BadField_BadPairing_BadPaper_BadCoin_TooFew_BadText => kernel_rfl
    case c_x_BadFraction => kernel_rfl
    case c_k_BadFraction => k_is
    case c_s_BadFraction => k_is
    case c_t_BadFraction => k_is
    case c_g_BadFraction => k_is
    case c_h_BadFraction => k_is
    case c_d_BadFraction => k_is
    case c_c_BadFraction => k_is
    case c_m_BadFraction => k_is
    case c_i_BadFraction_BadField => kernel_rfl
    case c_i_BadFraction_BadFraction => kernel_rfl
    case c_i_BadFraction_BadHeights => kernel_rfl
    case c_i_BadFraction_BadRow => kernel_rfl
    case c_i_BadFraction_BadRule => kernel_rfl
    case c_i_BadFraction_BadSpot => kernel_rfl
    case c_i_BadFraction_BadTarget => kernel_rfl
    case c_i_BadFraction_BookError => kernel_rfl
    case c_i_BadFraction_DeedError => kernel_rfl
    case c_i_BadFraction_Gone => kernel_rfl
    case c_i_BadFraction_HollowError => kernel_rfl
    case c_i_BadFraction_LookupError => kernel_rfl
    case c_i_BadFraction_NoHollow => kernel_rfl
    case c_i_BadFraction_NoPeak => kernel_rfl
    case c_i_BadFraction_Nought => kernel_rfl
    case c_i_BadFraction_RuntimeError => kernel_rfl
    case c_i_BadFraction_TooGreat => kernel_rfl
    case c_i_BadFraction_ValueError => kernel_rfl
    case c_e_BadFraction_HollowError_DeedError_BookError => kernel_rfl
    case c_ia_BadFraction_BadPairing_BadPaper_BadCoin_TooFew_BadText => kernel_rfl
    case c_x_BadSpot => kernel_rfl
    case c_k_BadSpot => k_is
    case c_s_BadSpot => k_is
    case c_t_BadSpot => k_is
    case c_g_BadSpot => k_is
    case c_h_BadSpot => k_is
    case c_d_BadSpot => k_is
    case c_c_BadSpot => k_is
    case c_m_BadSpot => k_is
    case c_i_BadSpot_BadField => kernel_rfl
    case c_i_BadSpot_BadFraction => kernel_rfl
    case c_i_BadSpot_BadHeights => kernel_rfl
    case c_i_BadSpot_BadRow => kernel_rfl
    case c_i_BadSpot_BadRule => kernel_rfl
    case c_i_BadSpot_BadSpot => kernel_rfl
    case c_i_BadSpot_BadTarget => kernel_rfl
    case c_i_BadSpot_BookError => kernel_rfl
    case c_i_BadSpot_DeedError => kernel_rfl
    case c_i_BadSpot_Gone => kernel_rfl
    case c_i_BadSpot_HollowError => kernel_rfl
    case c_i_BadSpot_LookupError => kernel_rfl
    case c_i_BadSpot_NoHollow => kernel_rfl
    case c_i_BadSpot_NoPeak => kernel_rfl
    case c_i_BadSpot_Nought => kernel_rfl
    case c_i_BadSpot_RuntimeError => kernel_rfl
    case c_i_BadSpot_TooGreat => kernel_rfl
    case c_i_BadSpot_ValueError => kernel_rfl
    case c_e_BadSpot_HollowError_DeedError_BookError => kernel_rfl
    case c_ia_BadSpot_BadPairing_BadPaper_BadCoin_TooFew_BadText => kernel_rfl
    case c_ic_BadField => k_is
    case c_li_BadField => k_is
    case c_oi_BadField => k_is
    case c_ei_BadField => k_is
    case c_ti_BadField => k_is
    case c_nf_BadField => k_is
    case c_sa_BadField => k_is
    case c_cl_BadField => k_is
    case c_rv_BadField => decide
    case c_df_BadField => kernel_rfl
    case c_wa_HollowError => k_is
    case c_wr_HollowError => k_is
    case c_wf_HollowError => k_is
    case c_n_BadField => kernel_rfl
    case c_n_BadFraction => kernel_rfl
    case c_n_BadHeights => kernel_rfl
    case c_n_BadRow => kernel_rfl
    case c_n_BadRule => kernel_rfl
    case c_n_BadSpot => kernel_rfl
    case c_n_BadTarget => kernel_rfl
    case c_n_BookError => kernel_rfl
    case c_n_DeedError => kernel_rfl
    case c_n_Gone => kernel_rfl
    case c_n_HollowError => kernel_rfl
    case c_n_NoHollow => kernel_rfl
    case c_n_NoPeak => kernel_rfl
    case c_n_Nought => kernel_rfl
    case c_n_TooGreat => kernel_rfl
    case g_n => k_is
    case g_t => k_is
